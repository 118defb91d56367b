import PyProof.Rows.All
import Wide.All
import OpenK.AllK
import Wide.FinOn
import Lean
import PySem.Challenge.RW_pq0200_01
set_option Elab.async false
section -- HS
open PySem PySem.W PyProof.Rows PySem.Calls
set_option maxRecDepth 100000
set_option maxHeartbeats 8000000
namespace Mine
theorem said0 : PySem.Challenge.rw_pq0200_01.wellSaid = true := by
  unfold OpenLaw.wellSaid
  with_reducible repeat' (refine look_both ?_ ?_)
  unfold OpenRow.wellSaid OpenRow.partSaid
  with_reducible repeat' (refine look_both ?_ ?_)
  try unfold looksOpen
  with_reducible repeat' (refine look_both ?_ ?_)
  all_goals decide +kernel
theorem bare0 : PySem.Challenge.rw_pq0200_01.row.prog.bare := ⟨rfl, rfl, rfl, rfl, rfl, by decide +kernel⟩
theorem prom0 : PySem.Challenge.rw_pq0200_01.row.toRowW.promised := by w_witness2
end Mine

end -- HS
section -- HA
open PySem PySem.W PyProof.Rows PySem.Calls
set_option maxRecDepth 100000
set_option maxHeartbeats 8000000
set_option linter.unusedVariables false
namespace Mine

inductive D where
  | none
  | bool (b : Bool)
  | int (i : Int)
  | str (s : Str)
  | tup (l : List D)
  | lst (l : List D)

noncomputable def usedB : List Str := ["abs", "len", "max", "min", "list", "range", "enumerate", "reversed", "tuple", "str", "int"]
noncomputable def nameOf : Stmt → Str | .FunctionDef n .. => n | _ => Str.empty
noncomputable def paramsOf : Stmt → Arguments | .FunctionDef _ p .. => p | _ => default
noncomputable def bodyOf : Stmt → List Stmt | .FunctionDef _ _ b .. => b | _ => []
noncomputable def scopeOf : Stmt → Scope | .FunctionDef _ _ _ _ _ _ sc .. => sc | _ => default
noncomputable def ranksL : List (Str × Int) := [("sym", 0), ("sum", 2), ("prod", 3), ("num", 4), ("pow", 5)]
mutual
noncomputable def relB (K : Frag) : D → Value → Bool
  | .none, v => v == .none
  | .bool b, v => v == .bool b
  | .int i, v => match v with | .int j _ => decide (i = j) | _ => false
  | .str s, v => match v with | .str t _ => s == t | _ => false
  | .tup ds, v => match v with
    | .ref a => match K.lookup a with
      | some ⟨.type T, .none, .seq vs _, sl⟩ => T == "tuple" && sl.isEmpty && relBL K ds vs.toList
      | _ => false
    | _ => false
  | .lst ds, v => match v with
    | .ref a => match K.lookup a with
      | some ⟨.type T, .none, .seq vs _, sl⟩ => T == "list" && sl.isEmpty && relBL K ds vs.toList
      | _ => false
    | _ => false
noncomputable def relBL (K : Frag) : List D → List Value → Bool
  | [], vs => vs.isEmpty
  | d :: ds, vs => match vs with
    | v :: vs => relB K d v && relBL K ds vs
    | [] => false
end
noncomputable def constB (K : Frag) (y : Str) (d : D) : Bool := match nsIn K mainGlobals y with
  | some (some v) => relB K d v
  | _ => false
noncomputable def freeB (K : Frag) (y : Str) : Bool := match nsIn K mainGlobals y with
  | some Option.none => true
  | _ => false
noncomputable def constsL : List (Str × D) := [("R0", .tup [.int 0, .int 1]), ("R1", .tup [.int 1, .int 1]), ("F0", .tup [.lst [], .lst [.tup [.int 1, .int 1]]]), ("F1", .tup [.lst [.tup [.int 1, .int 1]], .lst [.tup [.int 1, .int 1]]]), ("T_ZERO", .tup [.str "num", .int 0, .int 1]), ("T_ONE", .tup [.str "num", .int 1, .int 1]), ("T_MINUS", .tup [.str "num", .int (-1), .int 1]),
  ("ZERO", .tup [.str "num", .int 0, .int 1]), ("ONE", .tup [.str "num", .int 1, .int 1]), ("EXP_ONE", .tup [.str "call", .str "exp", .tup [.tup [.str "num", .int 1, .int 1]]]), ("PIECE", .int 4000)]
noncomputable def funs : List (Str × Arguments × List Stmt × Scope) := PySem.Challenge.pw_pq0200_01.main.body.filterMap fun st => match st with
  | .FunctionDef .. => some (nameOf st, paramsOf st, bodyOf st, scopeOf st)
  | _ => none
noncomputable def asL : List Addr := [3, 70, 71, 220, 221, 222, 223, 224, 225, 317, 318, 319, 383, 466, 467, 468, 469, 470, 471]
noncomputable def pickL (h : Heap) : List Addr → Frag
  | [] => []
  | a :: r => match h.get? a with
    | some o => (a, o) :: pickL h r
    | Option.none => pickL h r
theorem pickL_in (h : Heap) : ∀ as : List Addr, (pickL h as).In h
  | [], a, o, e => nomatch e
  | b :: r, a, o, e => by
    unfold pickL at e
    split at e
    · rename_i o' h'
      rw [List.lookup_cons] at e
      by_cases q : a = b
      · subst q
        simp only [BEq.rfl] at e
        cases e; exact h'
      · rw [show (a == b) = false from beq_false_of_ne q] at e
        exact pickL_in h r a o e
    · exact pickL_in h r a o e
noncomputable def keysB : List DictEntry → List Str → Bool
  | [], [] => true
  | e :: es, x :: xs => (match e.key with | .str y _ => y == x | _ => false) && keysB es xs
  | _, _ => false
noncomputable def rankNames : List Str := ["sym", "call", "sum", "prod", "num", "pow", "eq", "list"]
noncomputable def ranksB (K : Frag) : Bool := match nsIn K mainGlobals "RANKS" with
  | some (some (.ref a)) => (match K.lookup a with
    | some ⟨.type T, Option.none, .dict es _, sl⟩ => T == "dict" && sl.isEmpty && keysB es.toList rankNames && ranksL.all fun p => match nsIn K a p.1 with
      | some (some (.int i _)) => decide (p.2 = i)
      | _ => false
    | _ => false)
  | _ => false
noncomputable def ranksH (K : Frag) : List Int := match nsIn K mainGlobals "RANKS" with
  | some (some (.ref a)) => (match K.lookup a with
    | some ⟨_, _, .dict es _, _⟩ => es.toList.map (·.hash)
    | _ => [])
  | _ => []
noncomputable def topB (K : Frag) : Bool := (usedB.all fun x => freeB K x) && (constsL.all fun x => constB K x.1 x.2) && ranksB K
noncomputable def topHook : Hook where
  α := Bool × List Int
  obs s := (topB (pickL s.heap asL), ranksH (pickL s.heap asL))
  val w := (true, rankNames.map (PyData.keyHash w.params))
  says w h := ∃ K : Frag, K.In h ∧ topB K = true ∧ ranksH K = rankNames.map (PyData.keyHash w.params)
  of := fun w s e => ⟨_, pickL_in _ _, congrArg Prod.fst e, congrArg Prod.snd e⟩
  keeps := fun w h h' ⟨K, a, b⟩ k => ⟨K, a.keeps k, b⟩

noncomputable def dropIx : List Nat := [0, 2, 7, 10, 23, 37, 53, 66, 80, 108, 115]
noncomputable def pv : Program := { PySem.Challenge.pw_pq0200_01 with main := { PySem.Challenge.pw_pq0200_01.main with body := ((List.range 122).filter fun i => !dropIx.contains i).filterMap fun i => PySem.Challenge.pw_pq0200_01.main.body[i]? } }
noncomputable def pl : List Str := [Str.ofString "F0", Str.ofString "F1", Str.ofString "RANKS", Str.ofString "EXP_ONE", Str.ofString "MOST_FACTORED"]
noncomputable def plv : List (Str × WData) := [(Str.ofString "EXP_ONE", .tuple [.str (Str.ofString "call"), .str (Str.ofString "exp"), .tuple [.tuple [.str (Str.ofString "num"), .int 1, .int 1]]]), (Str.ofString "MOST_FACTORED", .int 1000000)]
noncomputable def pX (s : Shared) : Bool := xlAt pv plv s && recOk (RowW.records PySem.Challenge.rw_pq0200_01.row.toRowW) s
noncomputable def topT (den : Code → Sem Fin) (stp : (Code → Sem Fin) → Program → World → SharedT → Thread → Option (SharedT × Thread)) (ok : Nat → Option Value → Thread → Bool) (p : Program) (w : World) (n₀ : Nat) (ann : Option Value) : Nat → SharedT → Thread → Option SharedT
  | 0, _, _ => none
  | n + 1, s, t => match through t with
    | true => some s
    | false => match ok n₀ ann t with
      | false => none
      | true => match stp den p w s t with
        | some (s', t') => topT den stp ok p w n₀ ann n s' t'
        | none => none
theorem topT_of {tb : String → Option Builtin} {p : Program} {w : World} {n₀ : Nat} {ann : Option Value} : ∀ {n : Nat} {s s' : SharedT} {t : Thread}, topT (denote tb) stepT stepOk p w n₀ ann n s t = some s' → topRun tb p w n₀ ann n s.abs t = some s'.abs
  | 0, _, _, _, h => by cases h
  | n + 1, s, s', t, h => by
    unfold topT at h
    unfold topRun
    cases he : through t with
    | true => rw [he] at h; cases h; rfl
    | false =>
      rw [he] at h
      cases hk : stepOk n₀ ann t with
      | false => rw [hk] at h; cases h
      | true =>
        rw [hk] at h
        cases hs : stepT (denote tb) p w s t with
        | none => rw [hs] at h; cases h
        | some r => obtain ⟨s₂, t₂⟩ := r; rw [hs] at h; rw [stepT_spec hs]; exact topT_of h
noncomputable def bt0 (P : Params) : BT := .node (boot_o_0 P)
  (.node (boot_o_1 P) (.node (boot_o_3 P) (.node (boot_o_7 P) .nil .nil) .nil) (.node (boot_o_5 P) (.node (boot_o_9 P) .nil .nil) .nil))
  (.node (boot_o_2 P) (.node (boot_o_4 P) (.node (boot_o_8 P) .nil .nil) .nil) (.node (boot_o_6 P) (.node (boot_o_10 P) .nil .nil) .nil))
theorem bt0_abs (P : Params) : boot_heap P = absHeap (bt0 P) 11 {} := by kernel_rfl
noncomputable def s0T (P : Params) (os : OsState) : SharedT := ⟨bt0 P, 11, {}, Array.mk [], boot_drawn, boot_toks, os⟩
theorem s0T_abs (P : Params) (os : OsState) : (s0T P os).abs = ⟨boot_heap P, Array.mk [], boot_drawn, boot_toks, os⟩ := by rw [bt0_abs]; rfl
theorem size0 (P : Params) : ((boot_heap P).isNs mainGlobals && (Array.mk [] : Array GenState).size == 0, (boot_heap P).objs.size, (boot_heap P).nsMap mainGlobals "__annotations__") = (true, 11, some (.ref 6)) := by kernel_rfl
section
variable (q : Program) (loose mods : List Str) (Xt : Shared → Bool) (h₀ h : Heap) (s : Shared)
noncomputable abbrev lookA := (seen ((recsOf q).map (·.name)) (ownsOf q) [] { s with gens := #[] }, s.heap.bltView)
noncomputable abbrev lookB := (s.heap.keysOk (looseW q loose) ((recsOf q).map (·.name)) ((litsOf q).map (·.1)) ((clssOf q (looseW q loose)).map (·.name)) && s.heap.accountedOkI mods && s.heap.isNs mainGlobals && s.heap.isNs builtinsNs && tablesOk q s.heap && Xt s && (s.gens.size == 0), tabsOk q s)
noncomputable abbrev lookC := (pinSeenD q (drecsOf q) s, plainSeenE q (looseW q loose) s, plainSeenD q loose s, wideSeen q s, clsSeenW q loose s)
noncomputable abbrev lookD (p : Program) := staticsOk mods h₀ s.heap && namesBound p s.heap && gensDone s && laidKept h₀ s.heap
end
noncomputable abbrev topW (p : Program) (M : Nat) (P : Params) (w : World) (os : OsState) : Option SharedT := topT (denote treeTable) stepT stepOk p w 11 (some (.ref 6)) M (s0T P os) (topStub p)
theorem left_T {p q : Program} {loose : List Str} {Xt : Shared → Bool} {α : Type} {Yf : Shared → α} {Ya : World → α} {N M : Nat} (e : opening p = plainProg p.main.scope.names) (f : ∀ s, fenceModules? p s = some s) (hN : Nat.ble 600 N = true) (le : Nat.ble M N = true)
    (run : ∀ (w : World) (os : OsState), ∃ t, topW p M w.params w os = some t ∧ lookA q t.abs = (expectedOf q, bltViewBooted) ∧ lookB q loose (importedModules p.main.body) Xt t.abs = (true, true) ∧
      lookC q loose t.abs = (pinGoodD (drecsOf q), plainGoodE q (looseW q loose), plainGoodD q loose, wideGood q, clsGoodW q loose) ∧ lookD (importedModules p.main.body) (boot_heap w.params) t.abs p = true ∧ Yf t.abs = Ya w) : LeftO p q loose Xt Yf Ya N := fun w => by
  obtain ⟨⟨h, gs, d, k, os⟩, e1, e'⟩ := Option.map_eq_some_iff.mp (boot_open e hN f w)
  obtain ⟨rfl, rfl, rfl, rfl⟩ : h = boot_heap w.params ∧ gs = Array.mk [] ∧ d = boot_drawn ∧ k = boot_toks := by simpa using e'
  obtain ⟨z1, z2, z3⟩ : _ ∧ _ ∧ _ := by simpa only [Prod.mk.injEq] using size0 w.params
  obtain ⟨s', r, lA, lB, lC, lD, l3⟩ := run w os
  unfold lookA at lA
  unfold lookB at lB
  unfold lookC at lC
  unfold lookD at lD
  have r := topRun_mono (N - M) _ _ _ _ (topT_of r)
  rw [show M + (N - M) = N by have := Nat.le_of_ble_eq_true le; omega] at r
  have r : topRun treeTable p w 11 (some (.ref 6)) N ⟨boot_heap w.params, Array.mk [], boot_drawn, boot_toks, os⟩ (topStub p) = some s'.abs := s0T_abs w.params os ▸ r
  have t : topFrom treeTable p w N ⟨boot_heap w.params, Array.mk [], boot_drawn, boot_toks, os⟩ = some s'.abs := by
    unfold topFrom
    dsimp only
    rw [z1, z2, z3, r]
    show (match staticsOk (importedModules p.main.body) (boot_heap w.params) s'.abs.heap && namesBound p s'.abs.heap && gensDone s'.abs && laidKept (boot_heap w.params) s'.abs.heap with | true => _ | false => _) = _
    rw [lD]
  unfold openEnds
  rw [e1]
  show (topFrom treeTable p w N _).map _ = _
  rw [t]
  have l2 : openSeen q loose (importedModules p.main.body) Xt true s'.abs = openGood q loose := by
    simp only [Prod.mk.injEq] at lA lB lC
    unfold openSeen openGood
    rw [lA.1, lA.2, lB.2, lC.1, lC.2.1, lC.2.2.1, lC.2.2.2.1, lC.2.2.2.2]
    rw [if_pos rfl, lB.1]
  exact congrArg some (Prod.ext l2 l3)
end Mine

end -- HA
section -- HB
open PySem PySem.W PyProof.Rows
set_option maxRecDepth 100000
set_option maxHeartbeats 8000000
namespace Mine
noncomputable abbrev row0 : String := "special-get-raises"
theorem nil1 : drecsOf pv = [] := by rw [Fast.te3247288618530077131]; kernel_rfl
theorem nil2 : plainsOf pv (looseW pv pl) = [] := by rw [Fast.te821141287760084731]; kernel_rfl
theorem nil3 : dclssOf pv pl = [] := by kernel_rfl
theorem nil4 : wclssOf pv pl = [] := by kernel_rfl
theorem nil5 : wdefsOf pv = [] := by rw [Fast.te694669760492028198]; kernel_rfl
theorem nil6 : ownsOf pv = [] := by rw [Fast.te5991557255702980513]; kernel_rfl
theorem runE (w : World) (os : OsState) : topW PySem.Challenge.pw_pq0200_01 3600 w.params (w.withFollow row0 true) os = topW PySem.Challenge.pw_pq0200_01 3600 w.params (w.withFollow row0 false) os := by
  unfold topW
  rw [Fast.te14364793385576792824, Fast.te10156331382660048174, Fast.te6613529449190102663, Fast.te11892475500146522536]
  kernel_rfl
theorem runA1 (w : World) (os : OsState) : (topW PySem.Challenge.pw_pq0200_01 3600 w.params (w.withFollow row0 false) os).map (fun t => ((((recsOf pv).map (·.name)).take 46).map (t.abs.heap.shapeAt mainGlobals), staticsOk (importedModules PySem.Challenge.pw_pq0200_01.main.body) (boot_heap w.params) t.abs.heap && namesBound PySem.Challenge.pw_pq0200_01 t.abs.heap && gensDone t.abs && laidKept (boot_heap w.params) t.abs.heap, Hook.obs topHook t.abs)) = some ((((recsOf pv).map fun d => some d.shape).take 46), true, Hook.val topHook w) := by
  unfold topW
  rw [Fast.te2020367076256383516, Fast.te3399658132070893891, Fast.te5923862056798008813]
  rw [Fast.te14364793385576792824, Fast.te10156331382660048174, Fast.te6613529449190102663, Fast.te11892475500146522536]
  kernel_rfl
theorem runA2 (w : World) (os : OsState) : (topW PySem.Challenge.pw_pq0200_01 3600 w.params (w.withFollow row0 false) os).map (fun t => (((recsOf pv).map (·.name)).drop 46).map (t.abs.heap.shapeAt mainGlobals)) = some (((recsOf pv).map fun d => some d.shape).drop 46) := by
  unfold topW
  rw [Fast.te2020367076256383516, Fast.te3399658132070893891]
  rw [Fast.te14364793385576792824, Fast.te10156331382660048174, Fast.te6613529449190102663, Fast.te11892475500146522536]
  kernel_rfl
theorem runB1 (w : World) (os : OsState) : (topW PySem.Challenge.pw_pq0200_01 3600 w.params (w.withFollow row0 false) os).map (fun t => t.abs.heap.keysOk (looseW pv pl) ((recsOf pv).map (·.name)) ((litsOf pv).map (·.1)) ((clssOf pv (looseW pv pl)).map (·.name))) = some true := by
  unfold topW
  rw [Fast.te10880121769531294198, Fast.te821141287760084731, Fast.te3399658132070893891, Fast.te7409074990110511671, Fast.te13664370479719496447]
  rw [Fast.te14364793385576792824, Fast.te10156331382660048174, Fast.te6613529449190102663, Fast.te11892475500146522536]
  kernel_rfl
theorem runB2 (w : World) (os : OsState) : (topW PySem.Challenge.pw_pq0200_01 3600 w.params (w.withFollow row0 false) os).map (fun t => (t.abs.heap.bltView, t.abs.heap.noLimitOk && t.abs.heap.noDigitsOk, t.abs.heap.accountedOkI (importedModules PySem.Challenge.pw_pq0200_01.main.body) && t.abs.heap.isNs mainGlobals && t.abs.heap.isNs builtinsNs && tablesOk pv t.abs.heap && pX t.abs && (t.abs.gens.size == 0), ((recsOf pv).take 46).all fun d => t.abs.heap.tab0Ok d.name)) = some (bltViewBooted, true, true, true) := by
  unfold topW
  rw [Fast.te15623941606353435126, Fast.te912232860611745870, Fast.te14722251495701143533, Fast.te10994771534591457954, Fast.te5930804224584009831, Fast.te3399658132070893891]
  rw [Fast.te14364793385576792824, Fast.te10156331382660048174, Fast.te6613529449190102663, Fast.te11892475500146522536]
  kernel_rfl
theorem runT (w : World) (os : OsState) : (topW PySem.Challenge.pw_pq0200_01 3600 w.params (w.withFollow row0 false) os).map (fun t => ((recsOf pv).drop 46).all fun d => t.abs.heap.tab0Ok d.name) = some true := by
  unfold topW
  rw [Fast.te5930804224584009831, Fast.te3399658132070893891]
  rw [Fast.te14364793385576792824, Fast.te10156331382660048174, Fast.te6613529449190102663, Fast.te11892475500146522536]
  kernel_rfl
theorem runC (w : World) (os : OsState) : (topW PySem.Challenge.pw_pq0200_01 3600 w.params (w.withFollow row0 false) os).map (fun t => (t.abs.heap.bmainOk && valsOk pv t.abs.heap && t.abs.heap.noSeerOk, (wlitsOf pv).all (constAt t.abs.heap))) = some (true, true) := by
  unfold topW
  rw [Fast.te5244371056499926238, Fast.te2578726214315757710, Fast.te9649274521512697073, Fast.te11925523677476243305, Fast.te1696807537771891022]
  rw [Fast.te14364793385576792824, Fast.te10156331382660048174, Fast.te6613529449190102663, Fast.te11892475500146522536]
  kernel_rfl
end Mine

end -- HB
section -- HC
open PySem PySem.W PyProof.Rows PySem.Calls
set_option maxRecDepth 100000
set_option maxHeartbeats 8000000
namespace Mine
theorem ok0 : (chainsOk pv && opensWell PySem.Challenge.rw_pq0200_01.row.prog && (frees PySem.Challenge.rw_pq0200_01.row.toRowW && PySem.Challenge.rw_pq0200_01.row.within.isEmpty)) = true := by decide +kernel
theorem funs0 : (recsOf pv).map (fun d => (d.name, d.params, d.body, d.scope)) = funs := by kernel_rfl
theorem imp0 : importsNone pv = true := by kernel_rfl
end Mine

end -- HC
section -- FA
open PySem PySem.W PyProof.Rows PySem.Calls
set_option maxRecDepth 100000
namespace Mine

section
open Lean (Syntax Name mkAtom)
def tNode (k : Name) (a : Array Syntax) : Syntax := .node .none k a
def tSeq (a : Array Syntax) : Syntax := tNode `Lean.Parser.Tactic.tacticSeq #[tNode `Lean.Parser.Tactic.tacticSeq1Indented #[tNode `null a]]
def tRfl : Syntax := tNode `Lean.Parser.Tactic.tacticRfl #[mkAtom "rfl"]
def tUnf : Syntax := tNode `Lean.Parser.Tactic.withUnfoldingAll #[mkAtom "with_unfolding_all", tSeq #[tRfl]]
def tHole : Syntax := tNode `Lean.Parser.Term.hole #[mkAtom "_"]
def tIntro (a : Array Syntax) : Syntax := tNode `Lean.Parser.Tactic.intro #[mkAtom "intro", tNode `null a]
def tExact (e : Syntax) : Syntax := tNode `Lean.Parser.Tactic.exact #[mkAtom "exact", e]
def tId (n : Name) : Syntax := .ident .none n.toString.toRawSubstring n []
def tCases (n : Name) : Syntax := tNode `Lean.Parser.Tactic.cases #[mkAtom "cases", tNode `null #[tNode `Lean.Parser.Tactic.elimTarget #[tNode `null #[], tId n]], tNode `null #[], tNode `null #[]]
def byRfl : Syntax := tSeq #[tRfl]
def byRflA : Syntax := tSeq #[tIntro #[tHole], mkAtom ";", tRfl]
def byRflB : Syntax := tSeq #[tIntro #[tHole, tHole], mkAtom ";", tRfl]
def byUnf : Syntax := tSeq #[tUnf]
def byUnfB : Syntax := tSeq #[tIntro #[tHole, tHole], mkAtom ";", tUnf]
def byDec : Syntax := tSeq #[tNode `Lean.Parser.Tactic.decide #[mkAtom "decide", tNode `Lean.Parser.Tactic.optConfig #[tNode `null #[]]]]
def byBle : Syntax := tSeq #[tExact (tNode `Lean.Parser.Term.app #[tId `Nat.le_of_ble_eq_true, tNode `null #[tId `rfl]])]
def byEx : Syntax := tSeq #[tIntro #[tHole, tHole], mkAtom ";", tExact (tNode `Lean.Parser.Term.anonymousCtor #[mkAtom "⟨", tNode `null #[tHole, mkAtom ",", tNode `Lean.Parser.Term.byTactic #[mkAtom "by", byUnf]], mkAtom "⟩"])]
def byEnv : Syntax := tSeq #[tIntro #[tId `env, tId `h], mkAtom ";", tCases `env, mkAtom ";", tCases `h, mkAtom ";", tRfl]
end

noncomputable abbrev AS := Addr → Prop

noncomputable abbrev seqObj (T : String) (vs : List Value) (n : Nat) : Obj := { cls := .type T, data := .seq vs.toArray n }

mutual
noncomputable def Rel (h : Heap) (M : AS) : D → Value → Prop
  | .none, v => v = .none
  | .bool b, v => v = .bool b
  | .int i, v => ∃ t, v = .int i t
  | .str s, v => ∃ t, v = .str s t
  | .tup ds, v => ∃ a vs n, v = .ref a ∧ h.get? a = some (seqObj "tuple" vs n) ∧ ¬ M a ∧ RelL h M ds vs
  | .lst ds, v => ∃ a vs n, v = .ref a ∧ h.get? a = some (seqObj "list" vs n) ∧ ¬ M a ∧ RelL h M ds vs
noncomputable def RelL (h : Heap) (M : AS) : List D → List Value → Prop
  | [], vs => vs = []
  | d :: ds, vs => ∃ v vs', vs = v :: vs' ∧ Rel h M d v ∧ RelL h M ds vs'
end

noncomputable def Kp (h : Heap) (M : AS) (h' : Heap) (M' : AS) : Prop := ∀ a T vs n, h.get? a = some (seqObj T vs n) → ¬ M a → h'.get? a = some (seqObj T vs n) ∧ ¬ M' a

mutual
theorem Rel.kp {h h' : Heap} {M M' : AS} (k : Kp h M h' M') : ∀ (d : D) (v : Value), Rel h M d v → Rel h' M' d v
  | .none, _, r => r
  | .bool _, _, r => r
  | .int _, _, r => r
  | .str _, _, r => r
  | .tup ds, _, ⟨a, vs, n, e, g, m, r⟩ => ⟨a, vs, n, e, (k a _ _ _ g m).1, (k a _ _ _ g m).2, RelL.kp k ds vs r⟩
  | .lst ds, _, ⟨a, vs, n, e, g, m, r⟩ => ⟨a, vs, n, e, (k a _ _ _ g m).1, (k a _ _ _ g m).2, RelL.kp k ds vs r⟩
theorem RelL.kp {h h' : Heap} {M M' : AS} (k : Kp h M h' M') : ∀ (ds : List D) (vs : List Value), RelL h M ds vs → RelL h' M' ds vs
  | [], _, r => r
  | d :: ds, _, ⟨v, vs', e, r, rs⟩ => ⟨v, vs', e, Rel.kp k d v r, RelL.kp k ds vs' rs⟩
end

theorem RelL.length {h : Heap} {M : AS} : ∀ {ds : List D} {vs : List Value}, RelL h M ds vs → vs.length = ds.length
  | [], _, r => by rw [show _ = [] from r]; rfl
  | _ :: _, _, ⟨_, _, e, _, rs⟩ => by rw [e, List.length_cons, List.length_cons, rs.length]

theorem RelL.get {h : Heap} {M : AS} : ∀ {ds : List D} {vs : List Value} {i : Nat} {d : D}, RelL h M ds vs → ds[i]? = some d → ∃ v, vs[i]? = some v ∧ Rel h M d v
  | [], _, i, _, _, e => by simp at e
  | d :: ds, _, 0, _, ⟨v, vs', e, r, _⟩, e2 => by simp at e2; subst e2; exact ⟨v, by rw [e]; rfl, r⟩
  | d :: ds, _, i + 1, _, ⟨v, vs', e, _, rs⟩, e2 => by
    obtain ⟨u, h1, h2⟩ := rs.get (i := i) (by simpa using e2)
    exact ⟨u, by rw [e]; simpa using h1, h2⟩

theorem RelL.append {h : Heap} {M : AS} : ∀ {ds es : List D} {vs us : List Value}, RelL h M ds vs → RelL h M es us → RelL h M (ds ++ es) (vs ++ us)
  | [], _, _, _, r, q => by rw [show _ = [] from r]; exact q
  | _ :: _, _, _, _, ⟨v, vs', e, r, rs⟩, q => by rw [e]; exact ⟨v, _, rfl, r, rs.append q⟩

theorem RelL.take {h : Heap} {M : AS} : ∀ {ds : List D} {vs : List Value} (n : Nat), RelL h M ds vs → RelL h M (ds.take n) (vs.take n)
  | _, _, 0, _ => by rw [List.take_zero, List.take_zero]; exact rfl
  | [], _, n + 1, r => by rw [show _ = [] from r]; exact rfl
  | _ :: _, _, n + 1, ⟨v, vs', e, r, rs⟩ => by rw [e, List.take_succ_cons, List.take_succ_cons]; exact ⟨v, _, rfl, r, rs.take n⟩
theorem RelL.drop {h : Heap} {M : AS} : ∀ {ds : List D} {vs : List Value} (n : Nat), RelL h M ds vs → RelL h M (ds.drop n) (vs.drop n)
  | _, _, 0, r => by rw [List.drop_zero, List.drop_zero]; exact r
  | [], _, n + 1, r => by rw [show _ = [] from r]; exact rfl
  | _ :: _, _, n + 1, ⟨v, vs', e, r, rs⟩ => by rw [e, List.drop_succ_cons, List.drop_succ_cons]; exact rs.drop n
theorem RelL.reverse {h : Heap} {M : AS} : ∀ {ds : List D} {vs : List Value}, RelL h M ds vs → RelL h M ds.reverse vs.reverse
  | [], _, r => by rw [show _ = [] from r]; exact rfl
  | _ :: _, _, ⟨v, vs', e, r, rs⟩ => by rw [e, List.reverse_cons, List.reverse_cons]; exact rs.reverse.append ⟨v, [], rfl, r, rfl⟩
theorem RelL.set {h : Heap} {M : AS} : ∀ {ds : List D} {vs : List Value} (i : Nat) {d : D} {v : Value}, RelL h M ds vs → Rel h M d v → RelL h M (ds.set i d) (vs.set i v)
  | [], _, i, _, _, r, _ => by rw [show _ = [] from r]; exact rfl
  | _ :: _, _, 0, _, _, ⟨v, vs', e, r, rs⟩, q => by rw [e]; exact ⟨_, _, rfl, q, rs⟩
  | _ :: _, _, i + 1, _, _, ⟨v, vs', e, r, rs⟩, q => by rw [e]; exact ⟨_, _, rfl, r, rs.set i q⟩
theorem RelL.replicate {h : Heap} {M : AS} {d : D} {v : Value} (r : Rel h M d v) : ∀ n, RelL h M (List.replicate n d) (List.replicate n v)
  | 0 => rfl
  | n + 1 => ⟨v, _, rfl, r, RelL.replicate r n⟩

inductive Slot where
  | unset
  | val (d : D)
  | own (a : Addr) (ds : List D)
  | dict (hf : D → Int) (a : Addr) (kvs : List (D × D))

noncomputable def Slot.addr? : Slot → Option Addr
  | .own a _ => some a
  | .dict _ a _ => some a
  | _ => Option.none

noncomputable abbrev St := List Slot

noncomputable def wr (env : Env) (ρ : St) : List Addr := env.locals :: (env.cells.map (·.2) ++ ρ.filterMap Slot.addr?)

noncomputable def vget (env : Env) (h : Heap) (x : Str) (v : Value) : Prop :=
  (env.kindOf x = some .local ∧ ∃ m, h.Ns env.locals m ∧ m x = some v) ∨ (env.kindOf x = some .cell ∧ ∃ c, env.cells.lookup x = some c ∧ h.IsCell c (some v))

structure GC where
  prog : Program
  w : World
  h : Heap
  mg : Str → Option Value
  mb : Str → Option Value

theorem usedB_ne : ∀ f ∈ usedB, f ≠ ("__name__" : Str) := by decide

structure Gl (G : GC) : Prop where
  g : G.h.Ns mainGlobals G.mg
  b : G.h.Ns builtinsNs G.mb
  builtins : ∀ x : Str, x ≠ "__name__" → G.mb x = bootBuiltins x
  nolimit : G.h.NoLimit
  free : ∀ f ∈ usedB, G.mg f = Option.none
  seer : G.h.NoSeer
  tree : (model G.prog G.w).prog.given.tree = Option.none

structure ScOk (sc : Scope) : Prop where
  fn : sc.kind = .function
  nogen : sc.isGenerator = false
  noco : sc.isCoroutine = false
  nd : (sc.names.map (·.1)).Nodup
  nodebug : ∀ x ∈ sc.names, (x.1 == ("__debug__" : Str)) = false

structure EnvOk (sc : Scope) (env : Env) : Prop where
  is : env.scope = sc
  gl : env.globals = mainGlobals
  bi : env.builtins = builtinsNs
  ok : ScOk sc
  cl : ∀ y, env.kindOf y = some .cell → ∃ c, env.cells.lookup y = some c

noncomputable def KV (h : Heap) (M : AS) : List (D × D) → List (D × Addr × Value) → Prop
  | [], xs => xs = []
  | (k, v) :: r, xs => ∃ a u xs', xs = (k, a, u) :: xs' ∧ Rel h M k (.ref a) ∧ Rel h M v u ∧ KV h M r xs'
theorem KV.kp {h h' : Heap} {M M' : AS} (q : Kp h M h' M') : ∀ {kvs : List (D × D)} {xs : List (D × Addr × Value)}, KV h M kvs xs → KV h' M' kvs xs
  | [], _, x => x
  | (k, v) :: r, _, ⟨a, u, xs', e, r1, r2, x⟩ => ⟨a, u, xs', e, Rel.kp q k _ r1, Rel.kp q v _ r2, x.kp q⟩
noncomputable def DictAt (h : Heap) (M : AS) (hf : D → Int) (a : Addr) (kvs : List (D × D)) : Prop :=
  (a == sysModules) = false ∧ ∃ o es ep xs, h.get? a = some o ∧ o.ExactDict ∧ o.data = .dict es ep ∧ es.toList = xs.map (fun (x : D × Addr × Value) => (⟨hf x.1, .ref x.2.1, x.2.2⟩ : DictEntry)) ∧ KV h M kvs xs
theorem DictAt.kp {h h' : Heap} {M M' : AS} {hf : D → Int} {a : Addr} {kvs : List (D × D)} (q : Kp h M h' M') (e : ∀ o, h.get? a = some o → h'.get? a = some o) (x : DictAt h M hf a kvs) : DictAt h' M' hf a kvs := by
  obtain ⟨sm, o, es, ep, xs, e1, e2, e3, e4, e5⟩ := x
  exact ⟨sm, o, es, ep, xs, e o e1, e2, e3, e4, e5.kp q⟩

noncomputable def SlotOk (h : Heap) (M : AS) (amb : AS) (env : Env) (x : Str) : Slot → Prop
  | .unset => True
  | .val d => ∃ v, vget env h x v ∧ Rel h M d v
  | .own a ds => vget env h x (.ref a) ∧ ¬ amb a ∧ ∃ vs n, h.get? a = some (seqObj "list" vs n) ∧ RelL h M ds vs
  | .dict hf a kvs => vget env h x (.ref a) ∧ ¬ amb a ∧ DictAt h M hf a kvs

noncomputable def mu (env : Env) (amb : AS) (ρ : St) : AS := fun a => amb a ∨ a ∈ wr env ρ

noncomputable def Live (h : Heap) (a : Addr) : Prop := ∃ o, h.get? a = some o

structure Inv (G : GC) (env : Env) (amb : AS) (ρ : St) (h : Heap) : Prop where
  gl : Gl G
  top : ∀ b o, G.h.get? b = some o → h.get? b = some o
  ambLt : ∀ a, amb a → Live h a ∧ G.h.get? a = Option.none
  fresh : ∀ a ∈ wr env ρ, Live h a ∧ G.h.get? a = Option.none
  nd : (wr env ρ).Nodup
  ns : ∃ m, h.Ns env.locals m
  cells : ∀ x c, (x, c) ∈ env.cells → ∃ v, h.IsCell c v
  vars : ∀ (i : Nat) (x : Str) (k : NameKind) (slot : Slot), env.scope.names[i]? = some (x, k) → ρ[i]? = some slot → SlotOk h (mu env amb ρ) amb env x slot

structure Go (h : Heap) (W : List Addr) (h' : Heap) (W' : List Addr) : Prop where
  keep : ∀ a o, h.get? a = some o → a ∉ W → h'.get? a = some o ∧ a ∉ W'
  live : ∀ a, Live h a → Live h' a

theorem Go.refl (h : Heap) (W : List Addr) : Go h W h W := ⟨fun _ _ e m => ⟨e, m⟩, fun _ x => x⟩
theorem Go.trans {h h' h'' : Heap} {W W' W'' : List Addr} (x : Go h W h' W') (y : Go h' W' h'' W'') : Go h W h'' W'' :=
  ⟨fun a o e m => let ⟨p, q⟩ := x.keep a o e m; y.keep a o p q, fun a l => y.live a (x.live a l)⟩

theorem Go.kp {h h' : Heap} {env env' : Env} {amb : AS} {ρ ρ' : St} (x : Go h (wr env ρ) h' (wr env' ρ')) : Kp h (mu env amb ρ) h' (mu env' amb ρ') := fun a T vs n e m => by
  have m1 : ¬ amb a := fun q => m (.inl q)
  have m2 : a ∉ wr env ρ := fun q => m (.inr q)
  obtain ⟨p, q⟩ := x.keep a _ e m2
  exact ⟨p, fun r => r.elim m1 q⟩

theorem Rel.go {h h' : Heap} {env : Env} {amb : AS} {ρ ρ' : St} {d : D} {v : Value} (r : Rel h (mu env amb ρ) d v) (x : Go h (wr env ρ) h' (wr env ρ')) : Rel h' (mu env amb ρ') d v := Rel.kp x.kp d v r
theorem RelL.go {h h' : Heap} {env : Env} {amb : AS} {ρ ρ' : St} {d : List D} {v : List Value} (r : RelL h (mu env amb ρ) d v) (x : Go h (wr env ρ) h' (wr env ρ')) : RelL h' (mu env amb ρ') d v := RelL.kp x.kp d v r

structure Room (n : Nat) (A : Around) : Prop where
  handled : A.handled = Option.none
  depth : A.depth + n + 120 < recursionLimit
  frames : ∃ fe fl, A.frames = some (fe :: fl) ∧ fe.scope.isGenerator = false ∧ fe.scope.isCoroutine = false ∧ fe.builtins = builtinsNs ∧ fe.globals = mainGlobals
  units : A.units + 8 * n + 100 < cLine

theorem Room.mono {n m : Nat} {A : Around} (x : Room n A) (h : m ≤ n) : Room m A := ⟨x.handled, by have := x.depth; lia, x.frames, by have := x.units; lia⟩

section
variable (G : GC) (n : Nat) (sc : Scope)

noncomputable def EE (ρ : St) (e : Expr) (d : D) (ρ' : St) : Prop :=
  ∀ env, EnvOk sc env → ∀ A amb s Q E, Room n A → Inv G env amb ρ s.heap →
    (∀ v h' t, Inv G env amb ρ' h' → Go s.heap (wr env ρ) h' (wr env ρ') → Rel h' (mu env amb ρ') d v → Q v { s with heap := h', toks := t }) →
    wpAny (model G.prog G.w) A (eval e env) Q E s

noncomputable def EEs (ρ : St) (es : List Expr) (ds : List D) (ρ' : St) : Prop :=
  ∀ env, EnvOk sc env → ∀ pos A amb s Q E, Room n A → Inv G env amb ρ s.heap →
    (∀ vs h' t, Inv G env amb ρ' h' → Go s.heap (wr env ρ) h' (wr env ρ') → RelL h' (mu env amb ρ') ds vs → vs.length = es.length → Q vs { s with heap := h', toks := t }) →
    wpAny (model G.prog G.w) A (spliced (backTo pos (starEach es env))) Q E s

noncomputable def ET (ρ : St) (e : Expr) (b : Bool) (ρ' : St) : Prop :=
  ∀ env, EnvOk sc env → ∀ A amb s Q E, Room n A → Inv G env amb ρ s.heap →
    (∀ h' t, Inv G env amb ρ' h' → Go s.heap (wr env ρ) h' (wr env ρ') → Q b { s with heap := h', toks := t }) →
    wpAny (model G.prog G.w) A (isTrue e env (eval e env)) Q E s

inductive Fl where
  | next
  | ret (d : D)

noncomputable def FlOk (h : Heap) (M : AS) : Fl → Flow → Prop
  | .next, f => f = .next
  | .ret d, f => ∃ v, f = .ret v ∧ Rel h M d v

noncomputable def ES (ρ : St) (st : List Stmt) (f : Fl) (ρ' : St) : Prop :=
  ∀ env, EnvOk sc env → ∀ A amb s Q E, Room n A → Inv G env amb ρ s.heap →
    (∀ fl h' t, Inv G env amb ρ' h' → Go s.heap (wr env ρ) h' (wr env ρ') → FlOk h' (mu env amb ρ') f fl → Q fl { s with heap := h', toks := t }) →
    wpAny (model G.prog G.w) A (execs st env) Q E s

noncomputable def ES1 (ρ : St) (st : Stmt) (f : Fl) (ρ' : St) : Prop :=
  ∀ env, EnvOk sc env → ∀ A amb s Q E, Room n A → Inv G env amb ρ s.heap →
    (∀ fl h' t, Inv G env amb ρ' h' → Go s.heap (wr env ρ) h' (wr env ρ') → FlOk h' (mu env amb ρ') f fl → Q fl { s with heap := h', toks := t }) →
    wpAny (model G.prog G.w) A (exec st env) Q E s
end

end Mine

end -- FA
section -- FB
open PySem PySem.W PyProof.Rows PySem.Calls
set_option maxRecDepth 100000
namespace Mine

theorem lookup_of_nd {β : Type} : ∀ {l : List (Str × β)} {i : Nat} {x : Str} {k : β}, (l.map (·.1)).Nodup → l[i]? = some (x, k) → l.lookup x = some k
  | [], i, x, k, _, e => by simp at e
  | (y, j) :: r, 0, x, k, _, e => by simp at e; obtain ⟨rfl, rfl⟩ := e; simp
  | (y, j) :: r, i + 1, x, k, nd, e => by
    simp only [List.map_cons, List.nodup_cons] at nd
    have e' : r[i]? = some (x, k) := by simpa using e
    have hm : x ∈ r.map (·.1) := List.mem_map.mpr ⟨(x, k), List.mem_of_getElem? e', rfl⟩
    have hne : (x == y) = false := beq_eq_false_iff_ne.mpr fun q => nd.1 (q ▸ hm)
    rw [List.lookup_cons, hne]
    exact lookup_of_nd nd.2 e'

theorem ns_unique {h : Heap} {a : Addr} {m m' : Str → Option Value} (x : h.Ns a m) (y : h.Ns a m') : m = m' := by
  obtain ⟨o, es, ep, e1, e2, _, e3⟩ := x
  obtain ⟨o', es', ep', g1, g2, _, g3⟩ := y
  rw [e1] at g1; cases g1
  rw [e2] at g2; cases g2
  funext n; rw [← e3 n, ← g3 n]

theorem vget.keeps {env : Env} {h h' : Heap} {x : Str} {v : Value} (k : ∀ b o, h.get? b = some o → h'.get? b = some o) (g : vget env h x v) : vget env h' x v := by
  rcases g with ⟨e, m, n, hm⟩ | ⟨e, c, hc, hv⟩
  · exact .inl ⟨e, m, n.keeps k, hm⟩
  · exact .inr ⟨e, c, hc, hv.keeps k⟩

section
variable {G : GC} {sc : Scope} {env : Env} {amb : AS} {ρ ρ' : St} {h h' : Heap}

theorem EnvOk.fn (x : EnvOk sc env) : env.scope.kind = .function := x.is ▸ x.ok.fn
theorem EnvOk.kind (x : EnvOk sc env) {i : Nat} {y : Str} {k : NameKind} (e : sc.names[i]? = some (y, k)) : env.kindOf y = some k := by
  unfold Env.kindOf; rw [x.is]; exact lookup_of_nd x.ok.nd e
theorem EnvOk.nodebug (x : EnvOk sc env) {i : Nat} {y : Str} {k : NameKind} (e : sc.names[i]? = some (y, k)) : (y == ("__debug__" : Str)) = false :=
  x.ok.nodebug _ (List.mem_of_getElem? e)

theorem Inv.var (I : Inv G env amb ρ h) (x : EnvOk sc env) {i : Nat} {y : Str} {k : NameKind} {s : Slot} (e : sc.names[i]? = some (y, k)) (e2 : ρ[i]? = some s) : SlotOk h (mu env amb ρ) amb env y s :=
  I.vars i y k s (by rw [x.is]; exact e) e2

theorem Live.lt {a : Addr} (x : Live h a) : a < h.objs.size := let ⟨_, e⟩ := x; Heap.lt_size e
theorem Live.keeps {a : Addr} (x : Live h a) (k : ∀ b o, h.get? b = some o → h'.get? b = some o) : Live h' a := let ⟨o, e⟩ := x; ⟨o, k _ _ e⟩
theorem Live.not_none {a : Addr} (x : Live h a) : h.get? a ≠ none := let ⟨_, e⟩ := x; fun q => by rw [e] at q; cases q
theorem wr_live (I : Inv G env amb ρ h) {a : Addr} (m : a ∈ wr env ρ) : Live h a := (I.fresh a m).1
theorem mu_live (I : Inv G env amb ρ h) {a : Addr} (m : mu env amb ρ a) : Live h a := m.elim (fun q => (I.ambLt a q).1) fun q => (I.fresh a q).1
theorem mu_new (I : Inv G env amb ρ h) {a : Addr} (m : mu env amb ρ a) : G.h.get? a = none := m.elim (fun q => (I.ambLt a q).2) fun q => (I.fresh a q).2

theorem Kp.of_keeps {M : AS} (k : ∀ b o, h.get? b = some o → h'.get? b = some o) : Kp h M h' M := fun _ _ _ _ e m => ⟨k _ _ e, m⟩
theorem Go.of_keeps {W : List Addr} (k : ∀ b o, h.get? b = some o → h'.get? b = some o) : Go h W h' W := ⟨fun _ _ e m => ⟨k _ _ e, m⟩, fun _ x => let ⟨o, e⟩ := x; ⟨o, k _ _ e⟩⟩

theorem SlotOk.kp {M M' : AS} {x : Str} {s : Slot} (k : ∀ b o, h.get? b = some o → h'.get? b = some o) (q : Kp h M h' M') (o : SlotOk h M amb env x s) : SlotOk h' M' amb env x s := by
  cases s with
  | unset => trivial
  | val d => obtain ⟨v, g, r⟩ := o; exact ⟨v, g.keeps k, Rel.kp q d v r⟩
  | own a ds => obtain ⟨g, na, vs, n, e, r⟩ := o; exact ⟨g.keeps k, na, vs, n, k _ _ e, RelL.kp q ds vs r⟩
  | dict hf a kvs => obtain ⟨g, na, r⟩ := o; exact ⟨g.keeps k, na, r.kp q (k a)⟩

theorem Inv.grow (I : Inv G env amb ρ h) (k : ∀ b o, h.get? b = some o → h'.get? b = some o) : Inv G env amb ρ h' where
  gl := I.gl
  top := fun b o e => k _ _ (I.top b o e)
  ambLt := fun a q => ⟨(I.ambLt a q).1.keeps k, (I.ambLt a q).2⟩
  fresh := fun a q => ⟨(I.fresh a q).1.keeps k, (I.fresh a q).2⟩
  nd := I.nd
  ns := let ⟨m, n⟩ := I.ns; ⟨m, n.keeps k⟩
  cells := fun x c e => let ⟨v, n⟩ := I.cells x c e; ⟨v, n.keeps k⟩
  vars := fun i x kd s e1 e2 => (I.vars i x kd s e1 e2).kp k (Kp.of_keeps k)

theorem Go.dead {W W' : List Addr} {a : Addr} (g : Go h W h' W') (e : h'.get? a = none) : h.get? a = none := by
  cases q : h.get? a with
  | none => rfl
  | some o => obtain ⟨o', e'⟩ := g.live a ⟨o, q⟩; rw [e] at e'; cases e'

noncomputable def addA (amb : AS) (a : Addr) : AS := fun b => amb b ∨ b = a

theorem Rel.weak {M M' : AS} (q : ∀ a, M' a → M a) {d : D} {v : Value} (r : Rel h M d v) : Rel h M' d v := Rel.kp (fun _ _ _ _ e m => ⟨e, fun x => m (q _ x)⟩) d v r
theorem RelL.weak {M M' : AS} (q : ∀ a, M' a → M a) {d : List D} {v : List Value} (r : RelL h M d v) : RelL h M' d v := RelL.kp (fun _ _ _ _ e m => ⟨e, fun x => m (q _ x)⟩) d v r

theorem get_none_of_ge {h : Heap} {a : Addr} (e : h.objs.size ≤ a) : h.get? a = none := by
  cases q : h.get? a with
  | none => rfl
  | some o => exact absurd (Heap.lt_size q) (Nat.not_lt.mpr e)

theorem Inv.top_none (I : Inv G env amb ρ h) {a : Addr} (e : h.get? a = none) : G.h.get? a = none := by
  cases q : G.h.get? a with
  | none => rfl
  | some o => rw [I.top a o q] at e; cases e

theorem Kp.apart {M : AS} {a : Addr} (e : h.get? a = none) (k : ∀ b o, h.get? b = some o → h'.get? b = some o) : Kp h M h' (fun b => M b ∨ b = a) := fun b T vs n g m => ⟨k _ _ g, fun q => q.elim m fun r => by
  subst r; rw [e] at g; cases g⟩

theorem mu_addA {a : Addr} : ∀ b, mu env (addA amb a) ρ b ↔ (mu env amb ρ b ∨ b = a) := fun b => by
  unfold mu addA; constructor
  · rintro ((p | p) | p)
    · exact .inl (.inl p)
    · exact .inr p
    · exact .inl (.inr p)
  · rintro ((p | p) | p)
    · exact .inl (.inl p)
    · exact .inr p
    · exact .inl (.inr p)

theorem wr_slot {i : Nat} {a : Addr} {ds : List D} (e : ρ[i]? = some (.own a ds)) : a ∈ wr env ρ := by
  unfold wr
  refine List.mem_cons_of_mem _ (List.mem_append_right _ (List.mem_filterMap.mpr ⟨_, List.mem_of_getElem? e, rfl⟩))

theorem wr_dict {i : Nat} {hf : D → Int} {a : Addr} {kvs : List (D × D)} (e : ρ[i]? = some (.dict hf a kvs)) : a ∈ wr env ρ := by
  unfold wr
  refine List.mem_cons_of_mem _ (List.mem_append_right _ (List.mem_filterMap.mpr ⟨_, List.mem_of_getElem? e, rfl⟩))

theorem Inv.growAdd (I : Inv G env amb ρ h) (k : ∀ b o, h.get? b = some o → h'.get? b = some o) {a : Addr} (e : h.get? a = none) (ha : Live h' a) : Inv G env (addA amb a) ρ h' where
  gl := I.gl
  top := fun b o e => k _ _ (I.top b o e)
  ambLt := fun b q => q.elim (fun q => ⟨(I.ambLt b q).1.keeps k, (I.ambLt b q).2⟩) fun q => q ▸ ⟨ha, I.top_none e⟩
  fresh := fun a q => ⟨(I.fresh a q).1.keeps k, (I.fresh a q).2⟩
  nd := I.nd
  ns := let ⟨m, n⟩ := I.ns; ⟨m, n.keeps k⟩
  cells := fun x c e => let ⟨v, n⟩ := I.cells x c e; ⟨v, n.keeps k⟩
  vars := fun i x kd s e1 e2 => by
    have q : Kp h (mu env amb ρ) h' (mu env (addA amb a) ρ) := fun b T vs n g m => by
      obtain ⟨p, r⟩ := Kp.apart (M := mu env amb ρ) e k b T vs n g m
      exact ⟨p, fun x => r ((mu_addA b).mp x)⟩
    have o := (I.vars i x kd s e1 e2).kp k q
    cases s with
    | unset => trivial
    | val d => exact o
    | own b ds =>
      obtain ⟨g, na, vs, n, e3, r⟩ := o
      refine ⟨g, fun t => t.elim na fun t => ?_, vs, n, e3, r⟩
      subst t
      obtain ⟨_, _, vs', n', e4, _⟩ := I.vars i x kd _ e1 e2
      rw [e] at e4; cases e4
    | dict hf b kvs =>
      obtain ⟨g, na, r⟩ := o
      refine ⟨g, fun t => t.elim na fun t => ?_, r⟩
      subst t
      obtain ⟨_, _, _, _, _, _, _, e4, _⟩ := I.vars i x kd _ e1 e2
      rw [e] at e4; cases e4

theorem Inv.dropAdd {a : Addr} (I : Inv G env (addA amb a) ρ h) : Inv G env amb ρ h where
  gl := I.gl
  top := I.top
  ambLt := fun b q => I.ambLt b (.inl q)
  fresh := I.fresh
  nd := I.nd
  ns := I.ns
  cells := I.cells
  vars := fun i x kd s e1 e2 => by
    have o := I.vars i x kd s e1 e2
    have w : ∀ b, mu env amb ρ b → mu env (addA amb a) ρ b := fun b q => (mu_addA b).mpr (.inl q)
    cases s with
    | unset => trivial
    | val d => obtain ⟨v, g, r⟩ := o; exact ⟨v, g, r.weak w⟩
    | own b ds => obtain ⟨g, na, vs, n, e, r⟩ := o; exact ⟨g, fun q => na (.inl q), vs, n, e, r.weak w⟩
    | dict hf b kvs => obtain ⟨g, na, r⟩ := o; exact ⟨g, fun q => na (.inl q), r.kp (fun _ _ _ _ e m => ⟨e, fun x => m (w _ x)⟩) fun _ e => e⟩

end

section
variable {G : GC} {n : Nat} {sc : Scope} {ρ ρ₁ ρ₂ ρ₃ : St}

theorem EE.conv {e : Expr} {d d' : D} (x : EE G n sc ρ e d ρ₁) (q : d = d') : EE G n sc ρ e d' ρ₁ := q ▸ x

theorem EE.int {i : Int} {k : Nat} {pos : Pos} : EE G n sc ρ (.Constant (.int i) k pos) (.int i) ρ :=
  fun _ _ _ _ s _ _ _ I hQ => wpAny_Constant_int (hQ _ s.heap _ I (Go.refl ..) ⟨_, rfl⟩)
theorem EE.str {x : Str} {k : Nat} {pos : Pos} : EE G n sc ρ (.Constant (.str x) k pos) (.str x) ρ :=
  fun _ _ _ _ s _ _ _ I hQ => Constant_str (hQ _ s.heap _ I (Go.refl ..) ⟨_, rfl⟩)
theorem EE.none {k : Nat} {pos : Pos} : EE G n sc ρ (.Constant .none k pos) .none ρ :=
  fun _ _ _ _ s _ _ _ I hQ => wpAny_Constant_none (hQ _ s.heap s.toks I (Go.refl ..) rfl)
theorem EE.bool {b : Bool} {k : Nat} {pos : Pos} : EE G n sc ρ (.Constant (.bool b) k pos) (.bool b) ρ :=
  fun _ _ _ _ s _ _ _ I hQ => wpAny_Constant_bool (hQ _ s.heap s.toks I (Go.refl ..) rfl)

theorem vget_load {M : Model} {A : Around} {env : Env} (x : EnvOk sc env) {s : Shared} {y : Str} {v : Value} {pos : Pos} {Q : Value → Shared → Prop} {E : Value → Shared → Prop} (g : vget env s.heap y v) (hd : (y == ("__debug__" : Str)) = false) (hq : Q v s) :
    wpAny M A (eval (.Name y pos) env) Q E s := by
  rcases g with ⟨e, m, hn, hm⟩ | ⟨e, c, hc, hv⟩
  · exact wpAny_Name (wpAny_loadName_local x.fn e hn hm hq) hd
  · exact wpAny_Name (wpAny_loadName_cell x.fn e hc hv hq) hd

theorem EE.name (i : Nat) {y : Str} {k : NameKind} {pos : Pos} {d : D} (e : sc.names[i]? = some (y, k)) (e2 : ρ[i]? = some (.val d)) : EE G n sc ρ (.Name y pos) d ρ :=
  fun env he A amb s Q E hA I hQ => by
    obtain ⟨v, g, r⟩ := I.var he e e2
    exact vget_load he g (he.nodebug e) (hQ v s.heap s.toks I (Go.refl ..) r)

theorem EE.glob (i : Nat) {y : Str} {pos : Pos} {d : D} (e : sc.names[i]? = some (y, .globalImplicit)) (c : Gl G → ∃ v, G.mg y = some v ∧ Rel G.h (fun a => G.h.get? a = Option.none) d v) : EE G n sc ρ (.Name y pos) d ρ :=
  fun env he A amb s Q E hA I hQ => by
    obtain ⟨v, g, r⟩ := c I.gl
    refine Name_function_global he.fn (he.kind e) (loadGlobal_global (he.gl ▸ I.gl.g.keeps I.top) g (hQ v s.heap s.toks I (Go.refl ..) ?_)) (he.nodebug e)
    refine Rel.kp (fun a T vs n q m => ⟨I.top _ _ q, fun m' => ?_⟩) d v r
    rw [mu_new I m'] at q; cases q

theorem EE.add {l r : Expr} {a b : Int} {pos : Pos} (x : EE G n sc ρ l (.int a) ρ₁) (y : EE G n sc ρ₁ r (.int b) ρ₂) : EE G n sc ρ (.BinOp l .Add r pos) (.int (a + b)) ρ₂ :=
  fun env he A amb s Q E hA I hQ => wpAny_BinOp (x env he A amb s _ E hA I fun v1 h1 t1 I1 g1 r1 => y env he A amb _ _ E hA I1 fun v2 h2 t2 I2 g2 r2 => by
    obtain ⟨t, rfl⟩ := r1; obtain ⟨u, rfl⟩ := r2
    exact wpAny_add_int (hQ _ _ _ I2 (g1.trans g2) ⟨_, rfl⟩))

end
end Mine

end -- FB
section -- FC
open PySem PySem.W PyProof.Rows PySem.Calls
set_option maxRecDepth 100000
namespace Mine

noncomputable abbrev MulOk (a b : Int) : Prop := a.natAbs.log2 + b.natAbs.log2 < 2 ^ 26
theorem intBits_le (a : Int) : Builtin.Int.intBits a ≤ a.natAbs.log2 + 1 := by
  unfold Builtin.Int.intBits; split <;> lia
theorem mulOk {a b : Int} (h : MulOk a b) : IntMulOk a b := by
  unfold IntMulOk
  intro q
  simp only [Bool.and_eq_true, decide_eq_true_eq, Builtin.Int.intTooBig] at q
  have h1 := intBits_le a
  have h2 := intBits_le b
  have h3 : bitsLine = 134217728 := by decide
  rw [h3] at q
  lia

section
variable {G : GC} {n : Nat} {sc : Scope} {ρ ρ₁ ρ₂ ρ₃ : St}

theorem EE.sub {l r : Expr} {a b : Int} {pos : Pos} (x : EE G n sc ρ l (.int a) ρ₁) (y : EE G n sc ρ₁ r (.int b) ρ₂) : EE G n sc ρ (.BinOp l .Sub r pos) (.int (a - b)) ρ₂ :=
  fun env he A amb s Q E hA I hQ => wpAny_BinOp (x env he A amb s _ E hA I fun v1 h1 t1 I1 g1 r1 => y env he A amb _ _ E hA I1 fun v2 h2 t2 I2 g2 r2 => by
    obtain ⟨t, rfl⟩ := r1; obtain ⟨u, rfl⟩ := r2
    exact sub_int (hQ _ _ _ I2 (g1.trans g2) ⟨_, rfl⟩))
theorem EE.mul {l r : Expr} {a b : Int} {pos : Pos} (x : EE G n sc ρ l (.int a) ρ₁) (y : EE G n sc ρ₁ r (.int b) ρ₂) (m : MulOk a b) : EE G n sc ρ (.BinOp l .Mult r pos) (.int (a * b)) ρ₂ :=
  fun env he A amb s Q E hA I hQ => wpAny_BinOp (x env he A amb s _ E hA I fun v1 h1 t1 I1 g1 r1 => y env he A amb _ _ E hA I1 fun v2 h2 t2 I2 g2 r2 => by
    obtain ⟨t, rfl⟩ := r1; obtain ⟨u, rfl⟩ := r2
    exact PyProof.Rows.mul_int (hQ _ _ _ I2 (g1.trans g2) ⟨_, rfl⟩) (mulOk m))
theorem EE.mod {l r : Expr} {a b : Int} {pos : Pos} (x : EE G n sc ρ l (.int a) ρ₁) (y : EE G n sc ρ₁ r (.int b) ρ₂) (m : b ≠ 0) : EE G n sc ρ (.BinOp l .Mod r pos) (.int (a.fmod b)) ρ₂ :=
  fun env he A amb s Q E hA I hQ => wpAny_BinOp (x env he A amb s _ E hA I fun v1 h1 t1 I1 g1 r1 => y env he A amb _ _ E hA I1 fun v2 h2 t2 I2 g2 r2 => by
    obtain ⟨t, rfl⟩ := r1; obtain ⟨u, rfl⟩ := r2
    exact PyProof.Rows.mod_int' m (hQ _ _ _ I2 (g1.trans g2) ⟨_, rfl⟩))
theorem EE.neg {l : Expr} {a : Int} {pos : Pos} (x : EE G n sc ρ l (.int a) ρ₁) : EE G n sc ρ (.UnaryOp .USub l pos) (.int (-a)) ρ₁ :=
  fun env he A amb s Q E hA I hQ => UnaryOp_ (x env he A amb s _ E hA I fun v1 h1 t1 I1 g1 r1 => by
    obtain ⟨t, rfl⟩ := r1
    exact PyProof.Rows.neg_int (hQ _ _ _ I1 g1 ⟨_, rfl⟩))
theorem EE.floordiv {l r : Expr} {a b : Int} {pos : Pos} (x : EE G n sc ρ l (.int a) ρ₁) (y : EE G n sc ρ₁ r (.int b) ρ₂) (m : b ≠ 0) : EE G n sc ρ (.BinOp l .FloorDiv r pos) (.int (a.fdiv b)) ρ₂ :=
  fun env he A amb s Q E hA I hQ => wpAny_BinOp (x env he A amb s _ E hA I fun v1 h1 t1 I1 g1 r1 => y env he A amb _ _ E hA I1 fun v2 h2 t2 I2 g2 r2 => by
    obtain ⟨t, rfl⟩ := r1; obtain ⟨u, rfl⟩ := r2
    refine PyProof.Rows.floordiv_int m (hQ _ _ _ I2 (g1.trans g2) ⟨_, rfl⟩) (.inr ?_)
    obtain ⟨fe, fl, hf, f1, f2, f3, f4⟩ := hA.frames
    exact PylongRoom.of (I2.gl.nolimit.keeps I2.top) (by have := hA.depth; unfold Builtin.pylongFrames; lia) (SeerAt.of (I2.gl.seer.keeps I2.top) I2.gl.tree hf f1 f2 f3 f4))

theorem EE.cmp_int {op : CmpOp} {l r : Expr} {a b : Int} {c : Bool} {pos : Pos} (hc : ∀ {A : Around} {E : Value → Shared → Prop} {s : Shared} {t u : Tok} {Q : Value → Shared → Prop}, Q (.bool c) s → wpAny (model G.prog G.w) A (compareOp op (.int a t) (.int b u)) Q E s)
    (hm : behindInMarks op r = false) (x : EE G n sc ρ l (.int a) ρ₁) (y : EE G n sc ρ₁ r (.int b) ρ₂) : EE G n sc ρ (.Compare l [op] [r] pos) (.bool c) ρ₂ :=
  fun env he A amb s Q E hA I hQ => wpAny_Compare1 (x env he A amb s _ E hA I fun v1 h1 t1 I1 g1 r1 => y env he A amb _ _ E hA I1 fun v2 h2 t2 I2 g2 r2 => by
    obtain ⟨t, rfl⟩ := r1; obtain ⟨u, rfl⟩ := r2
    exact hc (hQ _ h2 t2 I2 (g1.trans g2) rfl)) hm
theorem ET.cmp_int {op : CmpOp} {l r : Expr} {a b : Int} {c : Bool} {pos : Pos} (hc : ∀ {A : Around} {E : Value → Shared → Prop} {s : Shared} {t u : Tok} {Q : Value → Shared → Prop}, Q (.bool c) s → wpAny (model G.prog G.w) A (compareOp op (.int a t) (.int b u)) Q E s)
    (hm : behindInMarks op r = false) (x : EE G n sc ρ l (.int a) ρ₁) (y : EE G n sc ρ₁ r (.int b) ρ₂) : ET G n sc ρ (.Compare l [op] [r] pos) c ρ₂ :=
  fun env he A amb s Q E hA I hQ => wpAny_isTrue_Compare1 (x env he A amb s _ E hA I fun v1 h1 t1 I1 g1 r1 => y env he A amb _ _ E hA I1 fun v2 h2 t2 I2 g2 r2 => by
    obtain ⟨t, rfl⟩ := r1; obtain ⟨u, rfl⟩ := r2
    exact hc (wpAny_truthy_bool (hQ h2 t2 I2 (g1.trans g2)))) hm

theorem EE.ilt {l r : Expr} {a b : Int} {pos : Pos} (x : EE G n sc ρ l (.int a) ρ₁) (y : EE G n sc ρ₁ r (.int b) ρ₂) (hm : autoParam (behindInMarks .Lt r = false) byUnf) : EE G n sc ρ (.Compare l [.Lt] [r] pos) (.bool (decide (a < b))) ρ₂ :=
  EE.cmp_int (fun h => PyProof.Rows.lt_int h) hm x y
theorem EE.ile {l r : Expr} {a b : Int} {pos : Pos} (x : EE G n sc ρ l (.int a) ρ₁) (y : EE G n sc ρ₁ r (.int b) ρ₂) (hm : autoParam (behindInMarks .LtE r = false) byUnf) : EE G n sc ρ (.Compare l [.LtE] [r] pos) (.bool (decide (a ≤ b))) ρ₂ :=
  EE.cmp_int (fun h => PyProof.Rows.le_int h) hm x y
theorem EE.igt {l r : Expr} {a b : Int} {pos : Pos} (x : EE G n sc ρ l (.int a) ρ₁) (y : EE G n sc ρ₁ r (.int b) ρ₂) (hm : autoParam (behindInMarks .Gt r = false) byUnf) : EE G n sc ρ (.Compare l [.Gt] [r] pos) (.bool (decide (b < a))) ρ₂ :=
  EE.cmp_int (fun h => PyProof.Rows.gt_int h) hm x y
theorem EE.ige {l r : Expr} {a b : Int} {pos : Pos} (x : EE G n sc ρ l (.int a) ρ₁) (y : EE G n sc ρ₁ r (.int b) ρ₂) (hm : autoParam (behindInMarks .GtE r = false) byUnf) : EE G n sc ρ (.Compare l [.GtE] [r] pos) (.bool (decide (b ≤ a))) ρ₂ :=
  EE.cmp_int (fun h => PyProof.Rows.ge_int h) hm x y
theorem EE.ieq {l r : Expr} {a b : Int} {pos : Pos} (x : EE G n sc ρ l (.int a) ρ₁) (y : EE G n sc ρ₁ r (.int b) ρ₂) (hm : autoParam (behindInMarks .Eq r = false) byUnf) : EE G n sc ρ (.Compare l [.Eq] [r] pos) (.bool (a == b)) ρ₂ :=
  EE.cmp_int (fun h => PyProof.Rows.eq_int h) hm x y
theorem EE.ine {l r : Expr} {a b : Int} {pos : Pos} (x : EE G n sc ρ l (.int a) ρ₁) (y : EE G n sc ρ₁ r (.int b) ρ₂) (hm : autoParam (behindInMarks .NotEq r = false) byUnf) : EE G n sc ρ (.Compare l [.NotEq] [r] pos) (.bool (a != b)) ρ₂ :=
  EE.cmp_int (fun h => PyProof.Rows.ne_int h) hm x y
theorem ET.ilt {l r : Expr} {a b : Int} {pos : Pos} (x : EE G n sc ρ l (.int a) ρ₁) (y : EE G n sc ρ₁ r (.int b) ρ₂) (hm : autoParam (behindInMarks .Lt r = false) byUnf) : ET G n sc ρ (.Compare l [.Lt] [r] pos) (decide (a < b)) ρ₂ :=
  ET.cmp_int (fun h => PyProof.Rows.lt_int h) hm x y
theorem ET.ile {l r : Expr} {a b : Int} {pos : Pos} (x : EE G n sc ρ l (.int a) ρ₁) (y : EE G n sc ρ₁ r (.int b) ρ₂) (hm : autoParam (behindInMarks .LtE r = false) byUnf) : ET G n sc ρ (.Compare l [.LtE] [r] pos) (decide (a ≤ b)) ρ₂ :=
  ET.cmp_int (fun h => PyProof.Rows.le_int h) hm x y
theorem ET.igt {l r : Expr} {a b : Int} {pos : Pos} (x : EE G n sc ρ l (.int a) ρ₁) (y : EE G n sc ρ₁ r (.int b) ρ₂) (hm : autoParam (behindInMarks .Gt r = false) byUnf) : ET G n sc ρ (.Compare l [.Gt] [r] pos) (decide (b < a)) ρ₂ :=
  ET.cmp_int (fun h => PyProof.Rows.gt_int h) hm x y
theorem ET.ige {l r : Expr} {a b : Int} {pos : Pos} (x : EE G n sc ρ l (.int a) ρ₁) (y : EE G n sc ρ₁ r (.int b) ρ₂) (hm : autoParam (behindInMarks .GtE r = false) byUnf) : ET G n sc ρ (.Compare l [.GtE] [r] pos) (decide (b ≤ a)) ρ₂ :=
  ET.cmp_int (fun h => PyProof.Rows.ge_int h) hm x y
theorem ET.ieq {l r : Expr} {a b : Int} {pos : Pos} (x : EE G n sc ρ l (.int a) ρ₁) (y : EE G n sc ρ₁ r (.int b) ρ₂) (hm : autoParam (behindInMarks .Eq r = false) byUnf) : ET G n sc ρ (.Compare l [.Eq] [r] pos) (a == b) ρ₂ :=
  ET.cmp_int (fun h => PyProof.Rows.eq_int h) hm x y
theorem ET.ine {l r : Expr} {a b : Int} {pos : Pos} (x : EE G n sc ρ l (.int a) ρ₁) (y : EE G n sc ρ₁ r (.int b) ρ₂) (hm : autoParam (behindInMarks .NotEq r = false) byUnf) : ET G n sc ρ (.Compare l [.NotEq] [r] pos) (a != b) ρ₂ :=
  ET.cmp_int (fun h => PyProof.Rows.ne_int h) hm x y

theorem ET.conv {e : Expr} {b b' : Bool} (x : ET G n sc ρ e b ρ₁) (q : b = b') : ET G n sc ρ e b' ρ₁ := q ▸ x

theorem ET.not {e : Expr} {b : Bool} {pos : Pos} (x : ET G n sc ρ e b ρ₁) : ET G n sc ρ (.UnaryOp .Not e pos) (!b) ρ₁ :=
  fun env he A amb s Q E hA I hQ => PyProof.Rows.isTrue_not (x env he A amb s _ E hA I fun h t I1 g => hQ h t I1 g)
theorem ET.and_nil {pos : Pos} : ET G n sc ρ (.BoolOp .And [] pos) true ρ := fun _ _ _ _ s _ _ _ I hQ => isTrue_and_nil (hQ s.heap s.toks I (Go.refl ..))
theorem ET.or_nil {pos : Pos} : ET G n sc ρ (.BoolOp .Or [] pos) false ρ := fun _ _ _ _ s _ _ _ I hQ => isTrue_or_nil (hQ s.heap s.toks I (Go.refl ..))
theorem ET.and_t {e : Expr} {es : List Expr} {b : Bool} {pos : Pos} (x : ET G n sc ρ e true ρ₁) (y : ET G n sc ρ₁ (.BoolOp .And es pos) b ρ₂) : ET G n sc ρ (.BoolOp .And (e :: es) pos) b ρ₂ :=
  fun env he A amb s Q E hA I hQ => PyProof.Rows.isTrue_and (x env he A amb s _ E hA I fun h t I1 g => by
    rw [if_pos rfl]
    exact y env he A amb _ Q E hA I1 fun h' t' I2 g2 => hQ h' t' I2 (g.trans g2))
theorem ET.and_f {e : Expr} {es : List Expr} {pos : Pos} (x : ET G n sc ρ e false ρ₁) : ET G n sc ρ (.BoolOp .And (e :: es) pos) false ρ₁ :=
  fun env he A amb s Q E hA I hQ => PyProof.Rows.isTrue_and (x env he A amb s _ E hA I fun h t I1 g => by
    rw [if_neg Bool.false_ne_true]; exact hQ h t I1 g)
theorem ET.or_f {e : Expr} {es : List Expr} {b : Bool} {pos : Pos} (x : ET G n sc ρ e false ρ₁) (y : ET G n sc ρ₁ (.BoolOp .Or es pos) b ρ₂) : ET G n sc ρ (.BoolOp .Or (e :: es) pos) b ρ₂ :=
  fun env he A amb s Q E hA I hQ => PyProof.Rows.isTrue_or (x env he A amb s _ E hA I fun h t I1 g => by
    rw [if_neg Bool.false_ne_true]
    exact y env he A amb _ Q E hA I1 fun h' t' I2 g2 => hQ h' t' I2 (g.trans g2))
theorem ET.or_t {e : Expr} {es : List Expr} {pos : Pos} (x : ET G n sc ρ e true ρ₁) : ET G n sc ρ (.BoolOp .Or (e :: es) pos) true ρ₁ :=
  fun env he A amb s Q E hA I hQ => PyProof.Rows.isTrue_or (x env he A amb s _ E hA I fun h t I1 g => by
    rw [if_pos rfl]; exact hQ h t I1 g)
theorem ET.of_bool {e : Expr} {b : Bool} (x : EE G n sc ρ e (.bool b) ρ₁) (he' : autoParam (∀ env whole, isTrue e env whole = (do let v ← whole; standAt e.pos; holding [v] (truthy v))) byRflB) : ET G n sc ρ e b ρ₁ :=
  fun env he A amb s Q E hA I hQ => isTrue_plain (x env he A amb s _ E hA I fun v h t I1 g r => by
    rw [show v = .bool b from r]; exact wpAny_truthy_bool (hQ h t I1 g)) (he' env _)

theorem EE.ite_t {c a b : Expr} {d : D} {pos : Pos} (x : ET G n sc ρ c true ρ₁) (y : EE G n sc ρ₁ a d ρ₂) : EE G n sc ρ (.IfExp c a b pos) d ρ₂ :=
  fun env he A amb s Q E hA I hQ => IfExp_ (x env he A amb s _ E hA I fun h t I1 g => by
    rw [if_pos rfl]; exact y env he A amb _ Q E hA I1 fun v h' t' I2 g2 r => hQ v h' t' I2 (g.trans g2) r)
theorem EE.ite_f {c a b : Expr} {d : D} {pos : Pos} (x : ET G n sc ρ c false ρ₁) (y : EE G n sc ρ₁ b d ρ₂) : EE G n sc ρ (.IfExp c a b pos) d ρ₂ :=
  fun env he A amb s Q E hA I hQ => IfExp_ (x env he A amb s _ E hA I fun h t I1 g => by
    rw [if_neg Bool.false_ne_true]; exact y env he A amb _ Q E hA I1 fun v h' t' I2 g2 r => hQ v h' t' I2 (g.trans g2) r)
theorem EE.ite {c a b : Expr} {q : Bool} {d1 d2 : D} {pos : Pos} (x : ET G n sc ρ c q ρ₁) (y : q = true → EE G n sc ρ₁ a d1 ρ₂) (z : q = false → EE G n sc ρ₁ b d2 ρ₂) : EE G n sc ρ (.IfExp c a b pos) (if q then d1 else d2) ρ₂ := by
  cases q
  · exact EE.ite_f x (z rfl)
  · exact EE.ite_t x (y rfl)

theorem EE.and_nil1 {e : Expr} {d : D} {pos : Pos} (x : EE G n sc ρ e d ρ₁) : EE G n sc ρ (.BoolOp .And [e] pos) d ρ₁ := fun env he A amb s Q E hA I hQ => BoolOp_one (x env he A amb s Q E hA I hQ)
theorem EE.or_nil1 {e : Expr} {d : D} {pos : Pos} (x : EE G n sc ρ e d ρ₁) : EE G n sc ρ (.BoolOp .Or [e] pos) d ρ₁ := fun env he A amb s Q E hA I hQ => BoolOp_one (x env he A amb s Q E hA I hQ)
theorem EE.and_t {e e' : Expr} {es : List Expr} {d : D} {pos : Pos} (x : EE G n sc ρ e (.bool true) ρ₁) (y : EE G n sc ρ₁ (.BoolOp .And (e' :: es) pos) d ρ₂) : EE G n sc ρ (.BoolOp .And (e :: e' :: es) pos) d ρ₂ :=
  fun env he A amb s Q E hA I hQ => BoolOp_and (x env he A amb s _ E hA I fun v h t I1 g r => by
    rw [show v = .bool true from r]
    refine wpAny_truthy_bool ?_
    rw [if_pos rfl]
    exact y env he A amb _ Q E hA I1 fun v h' t' I2 g2 r => hQ v h' t' I2 (g.trans g2) r)
theorem EE.and_f {e e' : Expr} {es : List Expr} {pos : Pos} (x : EE G n sc ρ e (.bool false) ρ₁) : EE G n sc ρ (.BoolOp .And (e :: e' :: es) pos) (.bool false) ρ₁ :=
  fun env he A amb s Q E hA I hQ => BoolOp_and (x env he A amb s _ E hA I fun v h t I1 g r => by
    rw [show v = .bool false from r]
    refine wpAny_truthy_bool ?_
    rw [if_neg Bool.false_ne_true]
    exact hQ _ h t I1 g rfl)
theorem EE.or_f {e e' : Expr} {es : List Expr} {d : D} {pos : Pos} (x : EE G n sc ρ e (.bool false) ρ₁) (y : EE G n sc ρ₁ (.BoolOp .Or (e' :: es) pos) d ρ₂) : EE G n sc ρ (.BoolOp .Or (e :: e' :: es) pos) d ρ₂ :=
  fun env he A amb s Q E hA I hQ => BoolOp_or (x env he A amb s _ E hA I fun v h t I1 g r => by
    rw [show v = .bool false from r]
    refine wpAny_truthy_bool ?_
    rw [if_neg Bool.false_ne_true]
    exact y env he A amb _ Q E hA I1 fun v h' t' I2 g2 r => hQ v h' t' I2 (g.trans g2) r)
theorem EE.or_t {e e' : Expr} {es : List Expr} {pos : Pos} (x : EE G n sc ρ e (.bool true) ρ₁) : EE G n sc ρ (.BoolOp .Or (e :: e' :: es) pos) (.bool true) ρ₁ :=
  fun env he A amb s Q E hA I hQ => BoolOp_or (x env he A amb s _ E hA I fun v h t I1 g r => by
    rw [show v = .bool true from r]
    refine wpAny_truthy_bool ?_
    rw [if_pos rfl]
    exact hQ _ h t I1 g rfl)
end
end Mine

end -- FC
section -- FD
open PySem PySem.W PyProof.Rows PySem.Calls
set_option maxRecDepth 100000
namespace Mine

theorem sizeLine_ge {k : Nat} (h : k ≤ 1000000) : k ≤ sizeLine := by rw [sizeLine_eq]; lia

section
variable {G : GC} {n : Nat} {sc : Scope} {ρ ρ₁ ρ₂ ρ₃ : St}

theorem EEs.nil : EEs G n sc ρ [] [] ρ := fun _ _ _ _ _ s _ _ _ I hQ => spliced_nil (hQ [] s.heap s.toks I (Go.refl ..) rfl rfl)
theorem EEs.cons {e : Expr} {es : List Expr} {d : D} {ds : List D} (x : EE G n sc ρ e d ρ₁) (y : EEs G n sc ρ₁ es ds ρ₂)
    (hs : autoParam (∀ env, starEach (e :: es) env = (false, eval e env) :: starEach es env) byRflA) : EEs G n sc ρ (e :: es) (d :: ds) ρ₂ :=
  fun env he pos A amb s Q E hA I hQ => by
    rw [hs env]
    exact spliced_cons (x env he A amb s _ E hA I fun v h t I1 g r => y env he pos A amb _ _ E hA I1 fun vs h' t' I2 g2 rs hl => hQ _ h' t' I2 (g.trans g2) ⟨v, vs, rfl, r.go g2, rs⟩ (by rw [List.length_cons, hl, List.length_cons]))

theorem alloc_get (h : Heap) (T : String) (vs : List Value) : (h.push (seqObj T vs 0)).get? h.objs.size = some (seqObj T vs 0) := Heap.get?_push_size _ rfl

theorem EE.tuple {es : List Expr} {ds : List D} {k : Nat} {pos : Pos} (x : EEs G n sc ρ es ds ρ₁) (hz : autoParam (es.length ≤ 1000000) byBle) : EE G n sc ρ (.Tuple es k pos) (.tup ds) ρ₁ :=
  fun env he A amb s Q E hA I hQ => Tuple_ (x env he pos A amb s _ E hA I fun vs h t I1 g r hl => by
    have k' : ∀ b o, h.get? b = some o → (h.push (seqObj "tuple" vs 0)).get? b = some o := fun b o e => Heap.get?_push_of_some _ e
    refine wpAny_newTuple (hQ _ _ t (I1.grow k') (g.trans (Go.of_keeps k')) ?_) (by rw [hl]; exact sizeLine_ge hz)
    exact ⟨_, vs, 0, rfl, alloc_get .., fun m => Nat.lt_irrefl _ (mu_live I1 m).lt, RelL.kp (Kp.of_keeps k') _ _ r⟩)

noncomputable def EF (G : GC) (n : Nat) (sc : Scope) (ρ : St) (e : Expr) (ds : List D) (ρ' : St) : Prop :=
  ∀ env, EnvOk sc env → ∀ A amb s Q E, Room n A → Inv G env amb ρ s.heap →
    (∀ a vs k h' t, Inv G env (addA amb a) ρ' h' → Go s.heap (wr env ρ) h' (wr env ρ') → s.heap.get? a = Option.none → ¬ amb a → a ∉ wr env ρ' → h'.get? a = some (seqObj "list" vs k) → RelL h' (mu env (addA amb a) ρ') ds vs → Q (.ref a) { s with heap := h', toks := t }) →
    wpAny (model G.prog G.w) A (eval e env) Q E s

theorem EF.conv {e : Expr} {d d' : List D} (x : EF G n sc ρ e d ρ₁) (q : d = d') : EF G n sc ρ e d' ρ₁ := q ▸ x
theorem EF.val {e : Expr} {ds : List D} (x : EF G n sc ρ e ds ρ₁) : EE G n sc ρ e (.lst ds) ρ₁ :=
  fun env he A amb s Q E hA I hQ => x env he A amb s Q E hA I fun a vs k h' t I1 g _ na nw e r =>
    hQ _ h' t I1.dropAdd g ⟨a, vs, k, rfl, e, fun m => m.elim na nw, r.weak fun b q => (mu_addA b).mpr (.inl q)⟩

theorem fresh_end {env : Env} {amb : AS} {h : Heap} {vs : List Value} {ds : List D} (I : Inv G env amb ρ h) (r : RelL h (mu env amb ρ) ds vs) :
    Inv G env (addA amb h.objs.size) ρ (h.push (seqObj "list" vs 0)) ∧ Go h (wr env ρ) (h.push (seqObj "list" vs 0)) (wr env ρ) ∧ h.get? h.objs.size = Option.none ∧ ¬ amb h.objs.size ∧ h.objs.size ∉ wr env ρ ∧
      (h.push (seqObj "list" vs 0)).get? h.objs.size = some (seqObj "list" vs 0) ∧ RelL (h.push (seqObj "list" vs 0)) (mu env (addA amb h.objs.size) ρ) ds vs := by
  have k' : ∀ b o, h.get? b = some o → (h.push (seqObj "list" vs 0)).get? b = some o := fun b o e => Heap.get?_push_of_some _ e
  have e0 : h.get? h.objs.size = Option.none := get_none_of_ge (Nat.le_refl _)
  refine ⟨I.growAdd k' e0 ⟨_, alloc_get ..⟩, Go.of_keeps k', e0, fun m => Nat.lt_irrefl _ (I.ambLt _ m).1.lt, fun m => Nat.lt_irrefl _ (wr_live I m).lt, alloc_get .., ?_⟩
  exact RelL.kp (fun b T vs n q m => ⟨k' _ _ q, fun x => ((mu_addA b).mp x).elim m fun e => by subst e; rw [e0] at q; cases q⟩) _ _ r

theorem EF.list {es : List Expr} {ds : List D} {pos : Pos} (x : EEs G n sc ρ es ds ρ₁) (hz : autoParam (es.length ≤ 1000000) byBle) : EF G n sc ρ (.List es pos) ds ρ₁ :=
  fun env he A amb s Q E hA I hQ => List_ (x env he pos A amb s _ E hA I fun vs h t I1 g r hl => by
    obtain ⟨a1, a2, a3, a4, a5, a6, a7⟩ := fresh_end I1 r
    refine wpAny_newList (hQ _ vs 0 _ t a1 (g.trans a2) ?_ a4 a5 a6 a7) (by rw [hl]; exact sizeLine_ge hz)
    exact g.dead a3)

noncomputable def Sub1 (slice : Expr) : Prop := ∀ o i, subscripted slice false o i = operate [o, i] (getItem o i)

theorem seqIndex_nat {k len : Nat} (h : k < len) : seqIndex? (k : Int) len = some k := by
  unfold seqIndex?
  have h1 : ¬ ((k : Int) < 0) := by lia
  have h2 : ((k : Int) < len) := by lia
  simp [h1, h2]
theorem seqIndex_neg {k len : Nat} (h : k < len) : seqIndex? (-((k : Int) + 1)) len = some (len - 1 - k) := by
  obtain ⟨m, rfl⟩ := Nat.exists_eq_add_of_le (show k + 1 ≤ len from h)
  have e : -((k : Int) + 1) + ((k + 1 + m : Nat) : Int) = (m : Int) := by rw [Int.natCast_add]; exact Int.neg_add_cancel_left _ _
  unfold seqIndex?
  simp only [show -((k : Int) + 1) < 0 from Int.negSucc_lt_zero k, if_true, e, show (0 : Int) ≤ m from Int.natCast_nonneg m, show (m : Int) < (k + 1 + m : Nat) from Int.ofNat_lt.mpr (Nat.lt_add_of_pos_left (Nat.succ_pos k)), decide_true, Bool.and_self]
  rw [Nat.sub_sub, Nat.add_comm 1 k, Nat.add_sub_cancel_left]; rfl

theorem seqIndex_spec {k : Int} {len j : Nat} (h : seqIndex? k len = some j) : (0 ≤ k ∧ k < len ∧ j = k.toNat) ∨ (k < 0 ∧ -(len : Int) ≤ k ∧ j = (k + len).toNat) := by
  unfold seqIndex? at h
  by_cases hk : k < 0
  · simp only [hk, if_true] at h
    by_cases q : (decide (0 ≤ k + (len : Int)) && decide (k + (len : Int) < len)) = true
    · rw [if_pos q] at h
      simp only [Bool.and_eq_true, decide_eq_true_eq] at q
      exact .inr ⟨hk, by lia, (Option.some.inj h).symm⟩
    · rw [if_neg q] at h; cases h
  · simp only [hk, if_false] at h
    by_cases q : (decide (0 ≤ k) && decide (k < (len : Int))) = true
    · rw [if_pos q] at h
      simp only [Bool.and_eq_true, decide_eq_true_eq] at q
      exact .inl ⟨q.1, q.2, (Option.some.inj h).symm⟩
    · rw [if_neg q] at h; cases h

theorem wpAny_item {A : Around} {E : Value → Shared → Prop} {s : Shared} {value slice : Expr} {T : String} {a : Addr} {vs : List Value} {m : Nat} {k : Int} {u : Tok} {j : Nat} {x : Value} {Q : Value → Shared → Prop}
    (hT : T = "tuple" ∨ T = "list") (e : s.heap.get? a = some (seqObj T vs m)) (hz : vs.length ≤ 1000000) (hj : seqIndex? k vs.length = some j) (hx : vs[j]? = some x) (hs : Sub1 slice) (h : Q x s) :
    wpAny (model G.prog G.w) A (subscriptTail value slice (.ref a) (.int k u)) Q E s := by
  rcases seqIndex_spec hj with ⟨h0, h1, rfl⟩ | ⟨h0, h1, rfl⟩
  · rcases hT with rfl | rfl
    · exact item_tupleT (l := vs) ⟨_, e, rfl, m, rfl⟩ (by lia) (by lia) hj hx h (hs _ _)
    · have hl : s.heap.IsList a vs.toArray := ⟨_, e, rfl, m, rfl⟩
      exact tail_any hl.typeIs slot_list_getitem.lookup (wpAny_getItem_list hl h0 (by lia) (by simpa using hx) h) (hs _ _)
  · rcases hT with rfl | rfl
    · exact item_tupleT (l := vs) ⟨_, e, rfl, m, rfl⟩ (by lia) (by lia) hj hx h (hs _ _)
    · have hl : s.heap.IsList a vs.toArray := ⟨_, e, rfl, m, rfl⟩
      exact tail_any hl.typeIs slot_list_getitem.lookup (wpAny_getItem_list_neg hl h0 (by simpa using h1) (by lia) (by simpa using hx) h) (hs _ _)

theorem EE.item_t {v i : Expr} {ds : List D} {k : Int} {j : Nat} {d : D} {pos : Pos} (x : EE G n sc ρ v (.tup ds) ρ₁) (y : EE G n sc ρ₁ i (.int k) ρ₂) (hj : seqIndex? k ds.length = some j) (hx : ds[j]? = some d)
    (hz : ds.length ≤ 1000000) (hs : autoParam (Sub1 i) byUnfB) : EE G n sc ρ (.Subscript v i pos) d ρ₂ :=
  fun env he A amb s Q E hA I hQ => Subscript_ (x env he A amb s _ E hA I fun v1 h1 t1 I1 g1 r1 => y env he A amb _ _ E hA I1 fun v2 h2 t2 I2 g2 r2 => by
    obtain ⟨a, vs, m, rfl, e, na, rs⟩ := Rel.go (d := .tup ds) r1 g2
    obtain ⟨t, rfl⟩ := r2
    obtain ⟨w, hw, rw'⟩ := rs.get hx
    exact wpAny_item (.inl rfl) e (by rw [rs.length]; exact hz) (by rw [rs.length]; exact hj) hw hs (hQ _ h2 t2 I2 (g1.trans g2) rw'))
theorem EE.item_l {v i : Expr} {ds : List D} {k : Int} {j : Nat} {d : D} {pos : Pos} (x : EE G n sc ρ v (.lst ds) ρ₁) (y : EE G n sc ρ₁ i (.int k) ρ₂) (hj : seqIndex? k ds.length = some j) (hx : ds[j]? = some d)
    (hz : ds.length ≤ 1000000) (hs : autoParam (Sub1 i) byUnfB) : EE G n sc ρ (.Subscript v i pos) d ρ₂ :=
  fun env he A amb s Q E hA I hQ => Subscript_ (x env he A amb s _ E hA I fun v1 h1 t1 I1 g1 r1 => y env he A amb _ _ E hA I1 fun v2 h2 t2 I2 g2 r2 => by
    obtain ⟨a, vs, m, rfl, e, na, rs⟩ := Rel.go (d := .lst ds) r1 g2
    obtain ⟨t, rfl⟩ := r2
    obtain ⟨w, hw, rw'⟩ := rs.get hx
    exact wpAny_item (.inr rfl) e (by rw [rs.length]; exact hz) (by rw [rs.length]; exact hj) hw hs (hQ _ h2 t2 I2 (g1.trans g2) rw'))
theorem EE.item_own {y : Str} {k0 : NameKind} (i0 : Nat) {i : Expr} {a0 : Addr} {ds : List D} {k : Int} {j : Nat} {d : D} {p0 pos : Pos} (e1 : sc.names[i0]? = some (y, k0)) (e2 : ρ[i0]? = some (.own a0 ds))
    (x : EE G n sc ρ i (.int k) ρ₁) (e3 : ρ₁[i0]? = some (.own a0 ds)) (hj : seqIndex? k ds.length = some j) (hx : ds[j]? = some d)
    (hz : ds.length ≤ 1000000) (hs : autoParam (Sub1 i) byUnfB) : EE G n sc ρ (.Subscript (.Name y p0) i pos) d ρ₁ :=
  fun env he A amb s Q E hA I hQ => Subscript_ (by
    obtain ⟨g0, _, _⟩ := I.var he e1 e2
    refine vget_load he g0 (he.nodebug e1) (x env he A amb s _ E hA I fun v2 h2 t2 I2 g2 r2 => ?_)
    obtain ⟨t, rfl⟩ := r2
    obtain ⟨_, _, vs, m, e, rs⟩ := I2.var he e1 e3
    obtain ⟨w, hw, rw'⟩ := rs.get hx
    exact wpAny_item (.inr rfl) e (by rw [rs.length]; exact hz) (by rw [rs.length]; exact hj) hw hs (hQ _ h2 t2 I2 g2 rw'))

theorem slice_rule {env : Env} {A : Around} {E : Value → Shared → Prop} {s : Shared} {value : Expr} {lower upper step : Option Expr} {p pos : Pos} {Q : Value → Shared → Prop} 
    (h : wpAny (model G.prog G.w) A (eval value env) (fun o s₁ => wpAny (model G.prog G.w) A (evalPart lower env) (fun vl s₂ => wpAny (model G.prog G.w) A (evalPart upper env) (fun vu s₃ => wpAny (model G.prog G.w) A (evalPart step env) (fun vk s₄ =>
      ∃ l vs m lo hi st, o = .ref l ∧ s₄.heap.get? l = some (seqObj "list" vs m) ∧ vs.length ≤ 1000000 ∧ IsPart vl lo ∧ IsPart vu hi ∧ IsPart vk st ∧ st ≠ some 0 ∧
        Q (.ref (s₄.heap.objs.size + 1)) { s₄ with heap := (s₄.heap.push { cls := .type "slice", data := .fields #[vl, vu, vk] }).push { cls := .type "list", data := .seq (slicePick vs.toArray lo hi st) } }) E s₃) E s₂) E s₁) E s)
    (hs : ∀ o i, ∃ ops, subscripted (.Slice lower upper step p) false o i = operate ops (getItem o i)) :
    wpAny (model G.prog G.w) A (eval (.Subscript value (.Slice lower upper step p) pos) env) Q E s := by
  refine Subscript_ (wpAny_mono h (fun o s₁ h₁ => wpAny_Slice (wpAny_mono h₁ (fun vl s₂ h₂ => wpAny_mono h₂ (fun vu s₃ h₃ => wpAny_mono h₃ (fun vk s₄ h₄ => ?_) fun _ _ e => e) fun _ _ e => e) fun _ _ e => e)) fun _ _ e => e)
  obtain ⟨l, vs, m, lo, hi, st, rfl, hl, hz, pl, pu, pk, h0, hQ⟩ := h₄
  have hl' : s₄.heap.IsList l vs.toArray := ⟨_, hl, rfl, m, rfl⟩
  obtain ⟨ops, hops⟩ := hs (.ref l) (.ref s₄.heap.objs.size)
  refine tail_any (Heap.IsList.typeIs (s := { s₄ with heap := s₄.heap.push { cls := .type "slice", data := .fields #[vl, vu, vk] } }) (hl'.push _)) slot_list_getitem.lookup (wpAny_getItem_list_slice (hl'.push _) (Heap.IsSliceOf.new ..) pl pu pk h0 ?_ (by simpa using sizeLine_ge hz)) hops
  rw [Heap.size_push]
  exact hQ

end
end Mine

end -- FD
section -- FE
open PySem PySem.W PyProof.Rows PySem.Calls
set_option maxRecDepth 100000
namespace Mine

noncomputable def FnSpec (G : GC) (m : Nat) (name : Str) (ds : List D) (d : D) : Prop :=
  Gl G → ∃ f o fd, G.mg name = some (.ref f) ∧ G.h.get? f = some o ∧ o.data = .func fd ∧
    ∀ A (M : AS) s vs Q E, Room (m + 1) A → (∀ b o, G.h.get? b = some o → s.heap.get? b = some o) → (∀ a, M a → Live s.heap a ∧ G.h.get? a = Option.none) → RelL s.heap M ds vs →
      (∀ v h' t, (∀ b o, s.heap.get? b = some o → h'.get? b = some o) → Rel h' M d v → Q v { s with heap := h', toks := t }) →
      wpAny (model G.prog G.w) A (call (.ref f) vs) Q E s

noncomputable def DefIs (G : GC) (name : Str) (params : Arguments) (body : List Stmt) (sc : Scope) : Prop :=
  ∃ a o pm code doc, G.mg name = some (.ref a) ∧ G.h.get? a = some o ∧ o.data = .func (docDef name params body sc pm code doc) ∧ G.h.CodeRec code name

theorem FnSpec.conv {G : GC} {m : Nat} {name : Str} {ds : List D} {d d' : D} (x : FnSpec G m name ds d) (e : d = d') : FnSpec G m name ds d' := e ▸ x

theorem keys_cellsFrom : ∀ (names : List (Str × NameKind)) (n : Nat) (acc : List (Str × Addr)), (names.map (·.1)).Nodup → (∀ x ∈ acc, x.1 ∉ names.map (·.1)) → (acc.map (·.1)).Nodup → ((cellsFrom n names acc).map (·.1)).Nodup
  | [], _, _, _, _, h => h
  | (y, k) :: r, n, acc, nd, ha, hn => by
    simp only [List.map_cons, List.nodup_cons] at nd
    unfold cellsFrom
    split
    · refine keys_cellsFrom r (n + 1) _ nd.2 (fun x hx => ?_) ?_
      · rcases List.mem_cons.mp hx with rfl | hx
        · exact nd.1
        · exact fun q => ha x hx (List.mem_cons_of_mem _ q)
      · simp only [List.map_cons, List.nodup_cons]
        refine ⟨fun q => ?_, hn⟩
        obtain ⟨z, hz, hzy⟩ := List.mem_map.mp q
        exact ha z hz (by rw [hzy]; exact List.mem_cons_self)
    · exact keys_cellsFrom r n acc nd.2 (fun x hx q => ha x hx (List.mem_cons_of_mem _ q)) hn

theorem lookup_of_mem {β : Type} {l : List (Str × β)} (nd : (l.map (·.1)).Nodup) {x : Str} {c : β} (h : (x, c) ∈ l) : l.lookup x = some c := by
  obtain ⟨i, hi⟩ := List.mem_iff_getElem?.mp h
  exact lookup_of_nd nd hi

theorem bindL_other (kind : Str → Option NameKind) {x : Str} : ∀ (binds : List (Str × Value)) (m : Str → Option Value), x ∉ binds.map (·.1) → bindL kind binds m x = m x
  | [], _, _ => rfl
  | (y, v) :: r, m, h => by
    simp only [List.map_cons, List.mem_cons, not_or] at h
    unfold bindL
    rw [bindL_other kind r _ h.2]
    split
    · exact if_neg h.1
    · rfl
theorem bindL_get (kind : Str → Option NameKind) {x : Str} {v : Value} (hk : kind x = some .local) : ∀ (binds : List (Str × Value)) (m : Str → Option Value), (binds.map (·.1)).Nodup → (x, v) ∈ binds → bindL kind binds m x = some v
  | (y, u) :: r, m, nd, h => by
    simp only [List.map_cons, List.nodup_cons] at nd
    unfold bindL
    rcases List.mem_cons.mp h with e | h
    · cases e
      rw [bindL_other kind r _ nd.1, if_pos hk, if_pos rfl]
    · exact bindL_get kind hk r _ nd.2 h
theorem bindC_other (kind : Str → Option NameKind) {x : Str} : ∀ (binds : List (Str × Value)) (m : Str → Option Value), x ∉ binds.map (·.1) → bindC kind binds m x = m x
  | [], _, _ => rfl
  | (y, v) :: r, m, h => by
    simp only [List.map_cons, List.mem_cons, not_or] at h
    unfold bindC
    rw [bindC_other kind r _ h.2]
    split
    · rfl
    · exact if_neg h.1
theorem bindC_get (kind : Str → Option NameKind) {x : Str} {v : Value} (hk : ¬ kind x = some .local) : ∀ (binds : List (Str × Value)) (m : Str → Option Value), (binds.map (·.1)).Nodup → (x, v) ∈ binds → bindC kind binds m x = some v
  | (y, u) :: r, m, nd, h => by
    simp only [List.map_cons, List.nodup_cons] at nd
    unfold bindC
    rcases List.mem_cons.mp h with e | h
    · cases e
      rw [bindC_other kind r _ nd.1, if_neg hk, if_pos rfl]
    · exact bindC_get kind hk r _ nd.2 h

theorem cellsFrom_is {x : Str} : ∀ (names : List (Str × NameKind)) (n : Nat) (acc : List (Str × Addr)), names.lookup x = some .cell ∨ (acc.lookup x).isSome = true → ((cellsFrom n names acc).lookup x).isSome = true := PySem.W.cellsFrom_some

noncomputable def ParamsOk (params : Arguments) (sc : Scope) : Prop := ∀ (j : Nat) (x : Str), (params.args.map (·.arg))[j]? = some x → ∃ k : NameKind, sc.names[j]? = some (x, k) ∧ (k = .local ∨ k = .cell)

theorem nodup_params {params : Arguments} {sc : Scope} (p : ParamsOk params sc) (ok : ScOk sc) : (params.args.map (·.arg)).Nodup := by
  have e : params.args.map (·.arg) = (sc.names.map (·.1)).take (params.args.map (·.arg)).length := by
    refine List.ext_getElem? fun j => ?_
    cases q : (params.args.map (·.arg))[j]? with
    | none =>
      rw [eq_comm, List.getElem?_eq_none]
      have := List.getElem?_eq_none_iff.mp q
      rw [List.length_take]; exact Nat.le_trans (Nat.min_le_left _ _) this
    | some x =>
      obtain ⟨k, hk, _⟩ := p j x q
      have hj : j < (params.args.map (·.arg)).length := (List.getElem?_eq_some_iff.mp q).1
      rw [List.getElem?_take_of_lt hj, List.getElem?_map, hk]; rfl
  rw [e]
  exact ok.nd.sublist (List.take_sublist _ _)

theorem filterMap_vals (ds : List D) : (ds.map Slot.val).filterMap Slot.addr? = [] := by
  induction ds with
  | nil => rfl
  | cons d r ih => simp [List.filterMap_cons, Slot.addr?]

noncomputable def ini (ds : List D) (pad : Nat) : St := ds.map .val ++ List.replicate pad .unset
theorem ini_addr (ds : List D) (pad : Nat) : (ini ds pad).filterMap Slot.addr? = [] := by
  unfold ini
  rw [List.filterMap_append, filterMap_vals, List.nil_append]
  induction pad with
  | zero => rfl
  | succ k ih => rw [List.replicate_succ, List.filterMap_cons]; exact ih
theorem ini_get {ds : List D} {pad i : Nat} {s : Slot} (h : (ini ds pad)[i]? = some s) : s = .unset ∨ ∃ d, ds[i]? = some d ∧ s = .val d := by
  unfold ini at h
  by_cases hi : i < (ds.map Slot.val).length
  · rw [List.getElem?_append_left hi, List.getElem?_map] at h
    obtain ⟨d, e, rfl⟩ := Option.map_eq_some_iff.mp h
    exact .inr ⟨d, e, rfl⟩
  · rw [List.getElem?_append_right (by lia)] at h
    exact .inl (List.eq_of_mem_replicate (List.mem_of_getElem? h))

theorem rel_at {h : Heap} {M : AS} {ds : List D} {vs : List Value} (r : RelL h M ds vs) {j : Nat} {d : D} (e : ds[j]? = some d) : ∃ v, vs[j]? = some v ∧ Rel h M d v := r.get e

theorem callCore {G : GC} {m : Nat} {name : Str} {params : Arguments} {body : List Stmt} {sc : Scope} {d : D} {ρ ρ' : St} {vs : List Value} {a : Addr} {o : Obj} {pm : _} {code : _} {doc : _} (gl : Gl G) (h2 : G.h.get? a = some o) (h3 : o.data = .func (docDef name params body sc pm code doc)) (h4 : G.h.CodeRec code name) (ok : ScOk sc) (po : ParamsOk params sc)
    (hb : bindArgs (docDef name params body sc pm code doc) ⟨vs, []⟩ = pure ((params.args.map (·.arg)).zip vs)) (hl : params.args.length = vs.length) (x : ES G m sc ρ body (.ret d) ρ') {A : Around} (hh : A.handled = Option.none) (hdep : A.depth + m + 121 < recursionLimit) (hfr : ∃ fl, A.frames = some fl) (hun : A.units + 8 * m + 108 < cLine)
    {M : AS} {s : Shared} {Q : Value → Shared → Prop} {E : Value → Shared → Prop} (top : ∀ b o, G.h.get? b = some o → s.heap.get? b = some o) (hM : ∀ a, M a → Live s.heap a ∧ G.h.get? a = Option.none) {aos : List Addr} (ca : ρ.filterMap Slot.addr? = aos) (aNd : aos.Nodup) (aL : ∀ b ∈ aos, Live s.heap b ∧ G.h.get? b = Option.none)
    (hρ : ∀ (i : Nat) slot, ρ[i]? = some slot → slot = .unset ∨ ∃ v, vs[i]? = some v ∧ ((∃ d, slot = .val d ∧ Rel s.heap (fun b => M b ∨ b ∈ aos) d v) ∨ ∃ a ds us k, slot = .own a ds ∧ v = .ref a ∧ ¬ M a ∧ s.heap.get? a = some (seqObj "list" us k) ∧ RelL s.heap (fun b => M b ∨ b ∈ aos) ds us))
    (hQ : ∀ v h' t env, EnvOk sc env → (∀ b o, b ∉ aos → s.heap.get? b = some o → h'.get? b = some o) → Inv G env M ρ' h' → Rel h' (mu env M ρ') d v → Q v { s with heap := h', toks := t }) :
    wpAny (model G.prog G.w) A (call (.ref a) vs) Q E s := by
  have hpl : (params.args.map (·.arg)).length = vs.length := by rw [List.length_map, hl]
  have keys : ((params.args.map (·.arg)).zip vs).map (·.1) = params.args.map (·.arg) := List.map_fst_zip (Nat.le_of_eq hpl)
  have kn : (((params.args.map (·.arg)).zip vs).map (·.1)).Nodup := by rw [keys]; exact nodup_params po ok
  have at0 : ∀ (j : Nat) (y : Str) (k : NameKind) (v : Value), sc.names[j]? = some (y, k) → vs[j]? = some v → (y, v) ∈ (params.args.map (·.arg)).zip vs ∧ (k = .local ∨ k = .cell) := fun j y k v e1 hv => by
    have hj : j < (params.args.map (·.arg)).length := by have := (List.getElem?_eq_some_iff.mp hv).1; rw [hpl]; exact this
    obtain ⟨k', hk', hk2⟩ := po j _ (List.getElem?_eq_getElem hj)
    rw [e1] at hk'; cases hk'
    exact ⟨List.mem_iff_getElem?.mpr ⟨j, by rw [List.getElem?_zip_eq_some]; exact ⟨List.getElem?_eq_getElem hj, hv⟩⟩, hk2⟩
  refine wpAny_call (codeAny_call_cells (by lia) (top _ _ h2) h3 (gl.nolimit.keeps top) (h4.keeps top) rfl hb rfl ?_ ?_ ok.noco ok.nogen ok.fn)
  · rintro ⟨y, v⟩ hy
    obtain ⟨j, hj⟩ := List.mem_iff_getElem?.mp hy
    rw [List.getElem?_zip_eq_some] at hj
    obtain ⟨k, hk, hk2⟩ := po j y hj.1
    have hlk : sc.names.lookup y = some k := lookup_of_nd ok.nd hk
    rcases hk2 with rfl | rfl
    · exact .inl hlk
    · exact .inr ⟨hlk, cellsFrom_is _ _ _ (.inl hlk)⟩
  · intro s₁ X
    generalize hfd : docDef name params body sc pm code doc = fd at X
    have hsc : fd.scope = sc := by rw [← hfd]; rfl
    have henv : EnvOk sc (callEnvC fd s.heap.objs.size a) := ⟨hsc, by rw [← hfd]; rfl, by rw [← hfd]; rfl, ok, fun y hy => Option.isSome_iff_exists.mp (cellsFrom_is fd.scope.names (s.heap.objs.size + 1) [] (.inl hy))⟩
    have hC : (callEnvC fd s.heap.objs.size a).cells = cellsFrom (s.heap.objs.size + 1) sc.names [] := by rw [← hsc]; rfl
    have hLo : (callEnvC fd s.heap.objs.size a).locals = s.heap.objs.size := rfl
    obtain ⟨h₁, t₁, rfl⟩ := X.toInCall.same
    have keep := X.toInCall.keep
    have knd : ((callEnvC fd s.heap.objs.size a).cells.map (·.1)).Nodup := by rw [hC]; exact keys_cellsFrom _ _ _ ok.nd (fun _ h => (nomatch h)) List.nodup_nil
    have wrE : wr (callEnvC fd s.heap.objs.size a) ρ = s.heap.objs.size :: ((callEnvC fd s.heap.objs.size a).cells.map (·.2) ++ aos) := by
      unfold wr; rw [ca]; rfl
    have wrGe : ∀ b ∈ wr (callEnvC fd s.heap.objs.size a) ρ, b ∈ aos ∨ (s.heap.objs.size ≤ b ∧ Live h₁ b) := fun b hb => by
      rw [wrE] at hb
      rcases List.mem_cons.mp hb with rfl | hb
      · obtain ⟨oL, _, _, eL, _⟩ := X.toInCall.ns
        exact .inr ⟨Nat.le_refl _, oL, eL⟩
      · rcases List.mem_append.mp hb with hb | hb
        · obtain ⟨⟨y, c⟩, hy, rfl⟩ := List.mem_map.mp hb
          obtain ⟨oc, ec, _⟩ := X.cell y c (lookup_of_mem knd hy)
          exact .inr ⟨Nat.le_of_lt (X.above y c hy), oc, ec⟩
        · exact .inl hb
    have off : ∀ {b o}, b ∉ aos → s.heap.get? b = some o → b ∉ wr (callEnvC fd s.heap.objs.size a) ρ := fun nb q w => (wrGe _ w).elim nb fun w => Nat.lt_irrefl _ (Nat.lt_of_lt_of_le (Heap.lt_size q) w.1)
    have kpIn : Kp s.heap (fun b => M b ∨ b ∈ aos) h₁ (mu (callEnvC fd s.heap.objs.size a) M ρ) := fun b T us n q mm => ⟨keep _ _ q, fun w => w.elim (fun w => mm (.inl w)) (off (fun w => mm (.inr w)) q)⟩
    have I : Inv G (callEnvC fd s.heap.objs.size a) M ρ h₁ := by
      refine ⟨gl, fun b o e => keep b o (top b o e), fun b q => ⟨(hM b q).1.keeps keep, (hM b q).2⟩, fun b q => ?_, ?_, ⟨_, X.toInCall.ns⟩, fun y c hy => ⟨_, X.cell y c (lookup_of_mem knd hy)⟩, fun i y k slot e1 e2 => ?_⟩
      · rcases wrGe b q with q | q
        · exact ⟨(aL b q).1.keeps keep, (aL b q).2⟩
        · refine ⟨q.2, ?_⟩
          cases q' : G.h.get? b with
          | none => rfl
          | some o' => exact absurd (Heap.lt_size (top _ _ q')) (Nat.not_lt.mpr q.1)
      · rw [wrE, List.nodup_cons, List.nodup_append]
        refine ⟨fun q => ?_, List.pairwise_map.mpr X.apart, aNd, fun b hb b' hb' e => ?_⟩
        · rcases List.mem_append.mp q with q | q
          · obtain ⟨⟨y, c⟩, hy, e⟩ := List.mem_map.mp q
            have := X.above y c hy
            exact Nat.lt_irrefl _ (e ▸ this)
          · exact Nat.lt_irrefl _ (aL _ q).1.lt
        · obtain ⟨⟨y, c⟩, hy, rfl⟩ := List.mem_map.mp hb
          have h3 : s.heap.objs.size < c := X.above y c hy
          have h5 := (aL _ hb').1.lt
          rw [← e] at h5
          exact Nat.lt_irrefl _ (Nat.lt_trans h3 h5)
      · rcases hρ i slot e2 with rfl | ⟨v, hv0, hs⟩
        · trivial
        have kd := henv.kind (i := i) (y := y) (k := k) (by rw [← hsc]; exact e1)
        obtain ⟨hv, hk⟩ := at0 i y k v (by rw [← hsc]; exact e1) hv0
        have bd : vget (callEnvC fd s.heap.objs.size a) h₁ y v := by
          rcases hk with rfl | rfl
          · exact .inl ⟨kd, _, X.toInCall.ns, bindL_get _ kd _ _ kn hv⟩
          · obtain ⟨c, hc⟩ := Option.isSome_iff_exists.mp (cellsFrom_is (x := y) sc.names (s.heap.objs.size + 1) [] (.inl (by have := kd; unfold Env.kindOf at this; rw [henv.is] at this; exact this)))
            rw [← hC] at hc
            have := X.cell y c hc
            rw [bindC_get _ (by rw [kd]; decide) _ _ kn hv] at this
            exact .inr ⟨kd, c, hc, this⟩
        rcases hs with ⟨d, rfl, r⟩ | ⟨b, ds, us, k, rfl, rfl, nb, eb, rb⟩
        · exact ⟨v, bd, Rel.kp kpIn _ _ r⟩
        · exact ⟨bd, nb, us, k, keep _ _ eb, RelL.kp kpIn _ _ rb⟩
    have hA' : Room m (A.deeper (callEnvC fd s.heap.objs.size a)) := ⟨hh, by show A.depth + 1 + m + 120 < _; lia,
      (by obtain ⟨fl, hf⟩ := hfr; exact ⟨_, fl, by show A.frames.map _ = _; rw [hf]; rfl, by rw [henv.is]; exact ok.nogen, by rw [henv.is]; exact ok.noco, henv.bi, henv.gl⟩), by show A.units + 3 + 8 * m + 100 < _; lia⟩
    refine x _ henv (A.deeper (callEnvC fd s.heap.objs.size a)) M _ _ _ hA' I fun fl h' t I' g fo => ?_
    obtain ⟨v, rfl, rv⟩ := fo
    exact hQ v h' t _ henv (fun b o nb e => (g.keep b o (keep b o e) (off nb e)).1) I' rv

theorem callCore0 {G : GC} {m : Nat} {name : Str} {params : Arguments} {body : List Stmt} {sc : Scope} {ds : List D} {d : D} {ρ' : St} {vs : List Value} {a : Addr} {o : Obj} {pm : _} {code : _} {doc : _} (gl : Gl G) (h2 : G.h.get? a = some o) (h3 : o.data = .func (docDef name params body sc pm code doc)) (h4 : G.h.CodeRec code name) (ok : ScOk sc) (po : ParamsOk params sc)
    (hb : vs.length = ds.length → bindArgs (docDef name params body sc pm code doc) ⟨vs, []⟩ = pure ((params.args.map (·.arg)).zip vs)) (hl : params.args.length = ds.length) (pad : Nat) (x : ES G m sc (ini ds pad) body (.ret d) ρ') {A : Around} (hh : A.handled = Option.none) (hdep : A.depth + m + 121 < recursionLimit) (hfr : ∃ fl, A.frames = some fl) (hun : A.units + 8 * m + 108 < cLine)
    {M : AS} {s : Shared} {Q : Value → Shared → Prop} {E : Value → Shared → Prop} (top : ∀ b o, G.h.get? b = some o → s.heap.get? b = some o) (hM : ∀ a, M a → Live s.heap a ∧ G.h.get? a = Option.none) (hr : RelL s.heap M ds vs)
    (hQ : ∀ v h' t, (∀ b o, s.heap.get? b = some o → h'.get? b = some o) → Rel h' M d v → Q v { s with heap := h', toks := t }) :
    wpAny (model G.prog G.w) A (call (.ref a) vs) Q E s :=
  callCore gl h2 h3 h4 ok po (hb hr.length) (hl.trans hr.length.symm) x hh hdep hfr hun top hM (ini_addr ds pad) List.nodup_nil (fun _ h => (nomatch h)) (fun i slot e => (ini_get e).imp id fun ⟨d, e3, e4⟩ => let ⟨v, hv, rv⟩ := hr.get e3; ⟨v, hv, .inl ⟨d, e4, rv.weak fun b q => q.elim id fun q => (nomatch q)⟩⟩)
    fun v h' t env he k I' rv => hQ v h' t (fun b o => k b o (fun q => (nomatch q))) (rv.weak fun b q => .inl q)

theorem FnSpec.intro {G : GC} {m : Nat} {name : Str} {params : Arguments} {body : List Stmt} {sc : Scope} {ds : List D} {d : D} {ρ' : St} (hd : Gl G → DefIs G name params body sc) (ok : ScOk sc) (po : ParamsOk params sc)
    (hb : ∀ pm cd doc vs, vs.length = ds.length → bindArgs (docDef name params body sc pm cd doc) ⟨vs, []⟩ = pure ((params.args.map (·.arg)).zip vs))
    (hl : params.args.length = ds.length) (pad : Nat) (x : ES G m sc (ini ds pad) body (.ret d) ρ') : FnSpec G m name ds d := fun gl => by
  obtain ⟨a, o, pm, code, doc, h1, h2, h3, h4⟩ := hd gl
  exact ⟨a, o, _, h1, h2, h3, fun A M s vs Q E hA top hM hr hQ => callCore0 gl h2 h3 h4 ok po (hb pm code doc vs) hl pad x hA.handled (by have := hA.depth; lia) (let ⟨fe, fl, hf, _⟩ := hA.frames; ⟨_, hf⟩) (by have := hA.units; lia) top hM hr hQ⟩

section
variable {G : GC} {n : Nat} {sc : Scope} {ρ ρ₁ ρ₂ ρ₃ : St}

theorem mu_ok {env : Env} {amb : AS} {h : Heap} (I : Inv G env amb ρ h) : ∀ a, mu env amb ρ a → Live h a ∧ G.h.get? a = Option.none := fun _ q => ⟨mu_live I q, mu_new I q⟩

theorem EE.call {m : Nat} (i : Nat) {f : Str} {e : Expr} {es : List Expr} {ds : List D} {d : D} {p pos : Pos} (sp : FnSpec G m f ds d) (hm : m < n) (hi : sc.names[i]? = some (f, .globalImplicit)) (x : EEs G n sc ρ (e :: es) ds ρ₁)
    (hs : autoParam (∀ env, starEach (e :: es) env = (false, eval e env) :: starEach es env) byRflA) : EE G n sc ρ (.Call (.Name f p) (e :: es) [] pos) d ρ₁ :=
  fun env he A amb s Q E hA I hQ => by
    obtain ⟨fa, o, fd, h1, h2, h3, h4⟩ := sp I.gl
    refine wpAny_Call_Name_kw (Name_function_global he.fn (he.kind hi) (loadGlobal_global (he.gl ▸ I.gl.g.keeps I.top) h1 ?_) (he.nodebug hi))
    show wpAny _ _ (callWith pos (.ref fa) [] (backTo pos (starEach (e :: es) env)) []) _ _ _
    refine callWith_function (o := o) (fd := fd) ?_
    have hst : backTo pos (starEach (e :: es) env) = (false, eval e env) :: backTo pos (starEach es env) := by rw [hs env]; rfl
    rw [hst]
    refine evalArgs_plain ?_
    rw [← hst]
    refine x env he pos A amb s _ E hA I fun vs h t I1 g r _ => ?_
    refine ⟨⟨I1.top _ _ h2, h3⟩, ?_⟩
    show wpAny _ _ (PySem.call (.ref fa) ([] ++ vs) []) _ _ _
    rw [List.nil_append]
    exact h4 A (mu env amb ρ₁) _ vs _ E (hA.mono hm) I1.top (mu_ok I1) r fun v h' t' k rv => hQ v h' t' (I1.grow k) (g.trans (Go.of_keeps k)) rv

end
end Mine

end -- FE
section -- FF
open PySem PySem.W PyProof.Rows PySem.Calls
set_option maxRecDepth 100000
namespace Mine

theorem set_sub {s : Slot} (hs : s.addr? = Option.none) : ∀ (ρ : St) (i : Nat), ((ρ.set i s).filterMap Slot.addr?).Sublist (ρ.filterMap Slot.addr?)
  | [], _ => by simp
  | x :: r, 0 => by
    rw [List.set_cons_zero, List.filterMap_cons, List.filterMap_cons, hs]
    dsimp only
    split
    · exact List.Sublist.refl _
    · exact List.sublist_cons_self _ _
  | x :: r, i + 1 => by
    rw [List.set_cons_succ, List.filterMap_cons, List.filterMap_cons]
    split
    · exact set_sub hs r i
    · exact (set_sub hs r i).cons_cons _

theorem set_own {s : Slot} {a : Addr} (hs : s.addr? = some a) : ∀ (ρ : St) (i : Nat), (ρ.filterMap Slot.addr?).Nodup → a ∉ ρ.filterMap Slot.addr? → ((ρ.set i s).filterMap Slot.addr?).Nodup ∧ ∀ b ∈ (ρ.set i s).filterMap Slot.addr?, b = a ∨ b ∈ ρ.filterMap Slot.addr?
  | [], _, h, _ => by simp
  | x :: r, 0, h, n => by
    rw [List.set_cons_zero, List.filterMap_cons, hs]
    have hn : (r.filterMap Slot.addr?).Nodup ∧ a ∉ r.filterMap Slot.addr? ∧ ∀ b ∈ r.filterMap Slot.addr?, b ∈ (x :: r).filterMap Slot.addr? := by
      rw [List.filterMap_cons] at h n ⊢
      split at h
      · rename_i q; rw [q] at n; exact ⟨h, n, fun b hb => hb⟩
      · rename_i b q; rw [q] at n; rw [List.nodup_cons] at h; rw [List.mem_cons, not_or] at n; exact ⟨h.2, n.2, fun b hb => List.mem_cons_of_mem _ hb⟩
    dsimp only
    refine ⟨List.nodup_cons.mpr ⟨hn.2.1, hn.1⟩, fun b hb => ?_⟩
    rcases List.mem_cons.mp hb with e | hb
    · exact .inl e
    · exact .inr (hn.2.2 b hb)
  | x :: r, i + 1, h, n => by
    rw [List.set_cons_succ]
    rw [List.filterMap_cons] at h n ⊢
    rw [List.filterMap_cons]
    cases q : Slot.addr? x with
    | none =>
      rw [q] at h n
      exact set_own hs r i h n
    | some b =>
      rw [q] at h n
      simp only [List.nodup_cons, List.mem_cons, not_or] at h n ⊢
      obtain ⟨h1, h2⟩ := set_own hs r i h.2 n.2
      refine ⟨⟨fun m => ?_, h1⟩, fun c hc => ?_⟩
      · rcases h2 b m with e | m
        · exact n.1 e.symm
        · exact h.1 m
      · rcases hc with rfl | hc
        · exact .inr (.inl rfl)
        · exact (h2 c hc).imp id .inr

section
variable {G : GC} {n : Nat} {sc : Scope} {ρ ρ₁ ρ₂ ρ₃ : St}

structure Stored (env : Env) (h h' : Heap) (c : Addr) (y : Str) (v : Value) : Prop where
  same : Heap.SameBut c h h'
  isOwn : c = env.locals ∨ ∃ x, (x, c) ∈ env.cells
  notSeq : ∀ T vs n, h.get? c ≠ some (seqObj T vs n)
  here : vget env h' y v
  other : ∀ z u, z ≠ y → vget env h z u → vget env h' z u
  ns : ∃ m, h'.Ns env.locals m
  cells : ∀ x d, (x, d) ∈ env.cells → ∃ v, h'.IsCell d v

theorem Stored.live {env : Env} {h h' : Heap} {c : Addr} {y : Str} {v : Value} (S : Stored env h h' c y v) {a : Addr} (l : Live h a) : Live h' a := by
  by_cases q : a = c
  · subst q
    rcases S.isOwn with rfl | ⟨x, hx⟩
    · obtain ⟨m, o, _, _, e, _⟩ := S.ns; exact ⟨o, e⟩
    · obtain ⟨v, o, e, _⟩ := S.cells x _ hx; exact ⟨o, e⟩
  · obtain ⟨o, e⟩ := l; exact ⟨o, (S.same.2 a q).trans e⟩

theorem ns_notSeq {h : Heap} {c : Addr} {m : Str → Option Value} (x : h.Ns c m) : ∀ T vs n, h.get? c ≠ some (seqObj T vs n) := fun T vs n e => by
  obtain ⟨o, es, ep, ho, hd, _⟩ := x
  rw [e] at ho; cases ho; cases hd
theorem cell_notSeq {h : Heap} {c : Addr} {v : Option Value} (x : h.IsCell c v) : ∀ T vs n, h.get? c ≠ some (seqObj T vs n) := fun T vs n e => by
  obtain ⟨o, ho, hd⟩ := x
  rw [e] at ho; cases ho; cases hd

theorem wr_apart {env : Env} {ρ : St} (nd : (wr env ρ).Nodup) : env.locals ∉ env.cells.map (·.2) ∧ (env.cells.map (·.2)).Nodup ∧ (ρ.filterMap Slot.addr?).Nodup ∧ (∀ a ∈ ρ.filterMap Slot.addr?, a ≠ env.locals ∧ a ∉ env.cells.map (·.2)) := by
  unfold wr at nd
  rw [List.nodup_cons, List.mem_append, not_or, List.nodup_append] at nd
  obtain ⟨⟨a, b⟩, c, d, e⟩ := nd
  refine ⟨a, c, d, fun x hx => ⟨fun q => b (q ▸ hx), fun q => ?_⟩⟩
  exact e x q x hx rfl

theorem Stored.offSlot {env : Env} {h h' : Heap} {c : Addr} {y : Str} {v : Value} {ρ : St} (S : Stored env h h' c y v) (nd : (wr env ρ).Nodup) {b : Addr} (hb : b ∈ ρ.filterMap Slot.addr?) : b ≠ c := fun q => by
  obtain ⟨p1, p2⟩ := (wr_apart nd).2.2.2 b hb
  rcases S.isOwn with e | ⟨x, hx⟩
  · exact p1 (q.trans e)
  · exact p2 (List.mem_map.mpr ⟨(x, c), hx, q.symm⟩)

theorem storeName_stored {M : Model} {A : Around} {E : Value → Shared → Prop} {s : Shared} {env : Env} (he : EnvOk sc env) (nd : (wr env ρ).Nodup) (hns : ∃ m, s.heap.Ns env.locals m) (hcells : ∀ x c, (x, c) ∈ env.cells → ∃ v, s.heap.IsCell c v) {i : Nat} {y : Str} {k : NameKind} (hi : sc.names[i]? = some (y, k)) (hk : k = .local ∨ k = .cell) {v : Value} {Q : Unit → Shared → Prop}
    (hv0 : k = .cell → ∃ c, env.cells.lookup y = some c) (hQ : ∀ c h' t, Stored env s.heap h' c y v → Q () { s with heap := h', toks := t }) : wpAny M A (storeName env y v) Q E s := by
  obtain ⟨apL, apC, _, _⟩ := wr_apart nd
  have kd := he.kind hi
  obtain ⟨m, hm⟩ := hns
  rcases hk with rfl | rfl
  · refine wpAny_storeName_local kd hm (fun h' hn' hs => hQ env.locals h' _ ⟨hs, .inl rfl, ns_notSeq hm, .inl ⟨kd, _, hn', if_pos rfl⟩, fun z u hz g => ?_, ⟨_, hn'⟩, fun x d hd => ?_⟩) (by rw [he.fn]; rfl)
    · rcases g with ⟨e, m', n', hm'⟩ | ⟨e, c, hc, hv⟩
      · refine .inl ⟨e, _, hn', ?_⟩
        rw [ns_unique hm n']
        exact (if_neg hz).trans hm'
      · refine .inr ⟨e, c, hc, hv.sameBut hs fun q => apL ?_⟩
        exact List.mem_map.mpr ⟨(z, c), PySem.mem_of_lookup hc, q⟩
    · obtain ⟨v', hv'⟩ := hcells x d hd
      exact ⟨v', hv'.sameBut hs fun q => apL (List.mem_map.mpr ⟨(x, d), hd, q⟩)⟩
  · obtain ⟨c, hc⟩ := hv0 rfl
    obtain ⟨v₀, hv₀⟩ := hcells y c (PySem.mem_of_lookup hc)
    have cne : c ≠ env.locals := fun q => apL (List.mem_map.mpr ⟨(y, c), PySem.mem_of_lookup hc, q⟩)
    refine wpAny_storeName_cell he.fn kd hc hv₀ fun h' hc' hs => hQ c h' _ ⟨hs, .inr ⟨y, PySem.mem_of_lookup hc⟩, cell_notSeq hv₀, .inr ⟨kd, c, hc, hc'⟩, fun z u hz g => ?_, ⟨m, hm.sameBut hs (Ne.symm cne)⟩, fun x d hd => ?_⟩
    · rcases g with ⟨e, m', n', hm'⟩ | ⟨e, c2, hc2, hv⟩
      · exact .inl ⟨e, m', n'.sameBut hs (Ne.symm cne), hm'⟩
      · refine .inr ⟨e, c2, hc2, hv.sameBut hs fun q => hz ?_⟩
        subst q
        exact PySem.name_of_addr (List.pairwise_map.mp apC) (PySem.mem_of_lookup hc2) (PySem.mem_of_lookup hc)
    · by_cases q : d = c
      · subst q; exact ⟨_, hc'⟩
      · obtain ⟨v', hv'⟩ := hcells x d hd
        exact ⟨v', hv'.sameBut hs q⟩

theorem names_inj (ok : ScOk sc) {i j : Nat} {y : Str} {k k' : NameKind} (h1 : sc.names[i]? = some (y, k)) (h2 : sc.names[j]? = some (y, k')) : i = j := by
  have e1 : (sc.names.map (·.1))[i]? = some y := by rw [List.getElem?_map, h1]; rfl
  have e2 : (sc.names.map (·.1))[j]? = some y := by rw [List.getElem?_map, h2]; rfl
  exact (List.getElem?_inj (List.getElem?_eq_some_iff.mp e1).1 ok.nd).mp (e1.trans e2.symm)

theorem Inv.stored_val {env : Env} {amb : AS} {h h' : Heap} {c : Addr} {i : Nat} {y : Str} {k : NameKind} {d : D} {v : Value} (he : EnvOk sc env) (I : Inv G env amb ρ h) (S : Stored env h h' c y v) (hi : sc.names[i]? = some (y, k))
    (r : Rel h (mu env amb ρ) d v) : Inv G env amb (ρ.set i (.val d)) h' ∧ Go h (wr env ρ) h' (wr env (ρ.set i (.val d))) := by
  have sub := set_sub (s := .val d) rfl ρ i
  have wsub : (wr env (ρ.set i (.val d))).Sublist (wr env ρ) := List.Sublist.cons_cons _ ((List.Sublist.refl _).append sub)
  have hc : c ∈ wr env ρ := by
    unfold wr
    rcases S.isOwn with rfl | ⟨x, hx⟩
    · exact List.mem_cons_self
    · exact List.mem_cons_of_mem _ (List.mem_append_left _ (List.mem_map.mpr ⟨(x, c), hx, rfl⟩))
  have kp : Kp h (mu env amb ρ) h' (mu env amb (ρ.set i (.val d))) := fun a T vs n e m => ⟨(S.same.2 a fun q => S.notSeq T vs n (q ▸ e)).trans e, fun q => m (q.imp id fun q => wsub.subset q)⟩
  refine ⟨⟨I.gl, fun b o e => ?_, fun a q => ⟨S.live (I.ambLt a q).1, (I.ambLt a q).2⟩, fun a q => ⟨S.live (I.fresh a (wsub.subset q)).1, (I.fresh a (wsub.subset q)).2⟩, I.nd.sublist wsub, S.ns, S.cells, fun j z kz sl e1 e2 => ?_⟩,
    ⟨fun a o e m => ⟨(S.same.2 a fun q => m (q ▸ hc)).trans e, fun q => m (wsub.subset q)⟩, fun _ l => S.live l⟩⟩
  · refine (S.same.2 b fun q => ?_).trans (I.top b o e)
    have := (I.fresh c hc).2
    rw [← q, e] at this; cases this
  · rw [he.is] at e1
    by_cases hj : j = i
    · subst hj
      rw [hi] at e1; cases e1
      have hlt : j < ρ.length := by have := (List.getElem?_eq_some_iff.mp e2).1; rwa [List.length_set] at this
      rw [List.getElem?_set_self hlt] at e2
      cases e2
      exact ⟨v, S.here, Rel.kp kp d v r⟩
    · rw [List.getElem?_set_ne (Ne.symm hj)] at e2
      have hz : z ≠ y := fun q => hj (names_inj he.ok (q ▸ e1) hi)
      have o := I.var he e1 e2
      cases sl with
      | unset => trivial
      | val d' => obtain ⟨u, g, r'⟩ := o; exact ⟨u, S.other z u hz g, Rel.kp kp d' u r'⟩
      | own b ds =>
        obtain ⟨g, na, vs, m', e, rs⟩ := o
        exact ⟨S.other z _ hz g, na, vs, m', (S.same.2 b fun q => S.notSeq _ vs m' (q ▸ e)).trans e, RelL.kp kp ds vs rs⟩
      | dict hf b kvs =>
        obtain ⟨g, na, r⟩ := o
        exact ⟨S.other z _ hz g, na, r.kp kp fun o e => (S.same.2 b (S.offSlot I.nd (List.mem_filterMap.mpr ⟨_, List.mem_of_getElem? e2, rfl⟩))).trans e⟩

theorem cell_lookup {env : Env} {h : Heap} {y : Str} {v : Value} (x : vget env h y v) (hk : env.kindOf y = some .cell) : ∃ c, env.cells.lookup y = some c := by
  rcases x with ⟨e, _⟩ | ⟨_, c, hc, _⟩
  · rw [hk] at e; cases e
  · exact ⟨c, hc⟩

theorem store_val {A : Around} {E : Value → Shared → Prop} {s : Shared} {env : Env} {amb : AS} {i : Nat} {y : Str} {k : NameKind} {d : D} {v : Value} {Q : Unit → Shared → Prop} (he : EnvOk sc env) (I : Inv G env amb ρ s.heap) (hi : sc.names[i]? = some (y, k)) (hk : k = .local ∨ k = .cell)
    (r : Rel s.heap (mu env amb ρ) d v) (hQ : ∀ h' t, Inv G env amb (ρ.set i (.val d)) h' → Go s.heap (wr env ρ) h' (wr env (ρ.set i (.val d))) → Q () { s with heap := h', toks := t }) :
    wpAny (model G.prog G.w) A (storeName env y v) Q E s :=
  storeName_stored he I.nd I.ns I.cells hi hk (fun e => he.cl y (e ▸ he.kind hi)) fun c h' t S => by
    obtain ⟨a, b⟩ := I.stored_val he S hi r
    exact hQ h' t a b

end
end Mine

end -- FF
section -- FG
open PySem PySem.W PyProof.Rows PySem.Calls
set_option maxRecDepth 100000
namespace Mine

section
variable {G : GC} {n : Nat} {sc : Scope} {ρ ρ₁ ρ₂ ρ₃ : St}

theorem wr_own_set {env : Env} {i : Nat} {a : Addr} {ds : List D} (nd : (wr env ρ).Nodup) (na : a ∉ wr env ρ) : (wr env (ρ.set i (.own a ds))).Nodup ∧ ∀ b ∈ wr env (ρ.set i (.own a ds)), b = a ∨ b ∈ wr env ρ := by
  obtain ⟨p1, p2, p3, p4⟩ := wr_apart nd
  have na' : env.locals ≠ a ∧ a ∉ env.cells.map (·.2) ∧ a ∉ ρ.filterMap Slot.addr? := by
    unfold wr at na
    simp only [List.mem_cons, List.mem_append, not_or] at na
    exact ⟨fun q => na.1 q.symm, na.2.1, na.2.2⟩
  obtain ⟨q1, q2⟩ := set_own (s := .own a ds) rfl ρ i p3 na'.2.2
  unfold wr
  refine ⟨?_, fun b hb => ?_⟩
  · rw [List.nodup_cons, List.mem_append, not_or, List.nodup_append]
    refine ⟨⟨p1, fun m => ?_⟩, p2, q1, fun x hx y hy e => ?_⟩
    · rcases q2 _ m with e | m
      · exact na'.1 e
      · exact (p4 _ m).1 rfl
    · subst e
      rcases q2 _ hy with e | m
      · exact na'.2.1 (e ▸ hx)
      · exact (p4 _ m).2 hx
  · simp only [List.mem_cons, List.mem_append] at hb ⊢
    rcases hb with e | e | e
    · exact .inr (.inl e)
    · exact .inr (.inr (.inl e))
    · exact (q2 b e).imp id fun q => .inr (.inr q)

theorem Inv.stored_own {env : Env} {amb : AS} {h h' : Heap} {c a : Addr} {i : Nat} {y : Str} {k : NameKind} {ds : List D} {vs : List Value} {m : Nat} (he : EnvOk sc env) (I : Inv G env (addA amb a) ρ h) (S : Stored env h h' c y (.ref a)) (hi : sc.names[i]? = some (y, k))
    (na : ¬ amb a) (nw : a ∉ wr env ρ) (e : h.get? a = some (seqObj "list" vs m)) (r : RelL h (mu env (addA amb a) ρ) ds vs) :
    Inv G env amb (ρ.set i (.own a ds)) h' ∧ ∀ h₀ W₀, Go h₀ W₀ h (wr env ρ) → h₀.get? a = Option.none → Go h₀ W₀ h' (wr env (ρ.set i (.own a ds))) := by
  obtain ⟨nd', sub⟩ := wr_own_set (i := i) (ds := ds) I.nd nw
  have hc : c ∈ wr env ρ := by
    unfold wr
    rcases S.isOwn with rfl | ⟨x, hx⟩
    · exact List.mem_cons_self
    · exact List.mem_cons_of_mem _ (List.mem_append_left _ (List.mem_map.mpr ⟨(x, c), hx, rfl⟩))
  have mup : ∀ b, mu env amb (ρ.set i (.own a ds)) b → mu env (addA amb a) ρ b := fun b q => q.elim (fun q => .inl (.inl q)) fun q => (sub b q).elim (fun q => .inl (.inr q)) .inr
  have kp : Kp h (mu env (addA amb a) ρ) h' (mu env amb (ρ.set i (.own a ds))) := fun b T us n e' m' => ⟨(S.same.2 b fun q => S.notSeq T us n (q ▸ e')).trans e', fun q => m' (mup b q)⟩
  refine ⟨⟨I.gl, fun b o e => ?_, fun b q => ⟨S.live (I.ambLt b (.inl q)).1, (I.ambLt b (.inl q)).2⟩, fun b q => ?_, nd', S.ns, S.cells, fun j z kz sl e1 e2 => ?_⟩, fun h₀ W₀ g e0 => ⟨fun b o e' m' => ?_, fun b l => S.live (g.live b l)⟩⟩
  · refine (S.same.2 b fun q => ?_).trans (I.top b o e)
    have := (I.fresh c hc).2
    rw [← q, e] at this; cases this
  · rcases sub b q with rfl | q
    · exact ⟨S.live (I.ambLt b (.inr rfl)).1, (I.ambLt b (.inr rfl)).2⟩
    · exact ⟨S.live (I.fresh b q).1, (I.fresh b q).2⟩
  · rw [he.is] at e1
    by_cases hj : j = i
    · subst hj
      rw [hi] at e1; cases e1
      have hlt : j < ρ.length := by have := (List.getElem?_eq_some_iff.mp e2).1; rwa [List.length_set] at this
      rw [List.getElem?_set_self hlt] at e2
      cases e2
      exact ⟨S.here, na, vs, m, (S.same.2 a fun q => S.notSeq _ vs m (q ▸ e)).trans e, RelL.kp kp ds vs r⟩
    · rw [List.getElem?_set_ne (Ne.symm hj)] at e2
      have hz : z ≠ y := fun q => hj (names_inj he.ok (q ▸ e1) hi)
      have o := I.var he e1 e2
      cases sl with
      | unset => trivial
      | val d' => obtain ⟨u, g, r'⟩ := o; exact ⟨u, S.other z u hz g, Rel.kp kp d' u r'⟩
      | own b ds' =>
        obtain ⟨g, na', vs', m', e', rs⟩ := o
        exact ⟨S.other z _ hz g, fun q => na' (.inl q), vs', m', (S.same.2 b fun q => S.notSeq _ vs' m' (q ▸ e')).trans e', RelL.kp kp ds' vs' rs⟩
      | dict hf b kvs =>
        obtain ⟨g, na', r⟩ := o
        exact ⟨S.other z _ hz g, fun q => na' (.inl q), r.kp kp fun o e => (S.same.2 b (S.offSlot I.nd (List.mem_filterMap.mpr ⟨_, List.mem_of_getElem? e2, rfl⟩))).trans e⟩
  · obtain ⟨p, q⟩ := g.keep b o e' m'
    refine ⟨(S.same.2 b fun t => q (t ▸ hc)).trans p, fun t => ?_⟩
    rcases sub b t with rfl | t
    · rw [e0] at e'; cases e'
    · exact q t

theorem ES.nil : ES G n sc ρ [] .next ρ := fun _ _ _ _ s _ _ _ I hQ => wpAny_execs_nil (hQ .next s.heap s.toks I (Go.refl ..) rfl)
theorem ES.cons {st : Stmt} {rest : List Stmt} {f : Fl} (x : ES1 G n sc ρ st .next ρ₁) (y : ES G n sc ρ₁ rest f ρ₂) : ES G n sc ρ (st :: rest) f ρ₂ :=
  fun env he A amb s Q E hA I hQ => wpAny_execs_cons (x env he A amb s _ E hA I fun fl h t I1 g fo => by
    rw [show fl = .next from fo]
    exact y env he A amb _ Q E hA I1 fun fl' h' t' I2 g2 fo2 => hQ fl' h' t' I2 (g.trans g2) fo2)
theorem ES.ret {st : Stmt} {rest : List Stmt} {d : D} (x : ES1 G n sc ρ st (.ret d) ρ₁) : ES G n sc ρ (st :: rest) (.ret d) ρ₁ :=
  fun env he A amb s Q E hA I hQ => wpAny_execs_cons (x env he A amb s _ E hA I fun fl h t I1 g fo => by
    obtain ⟨v, rfl, r⟩ := fo
    exact hQ _ h t I1 g ⟨v, rfl, r⟩)

theorem ES1.ret {e : Expr} {d : D} {pos : Pos} (x : EE G n sc ρ e d ρ₁) : ES1 G n sc ρ (.Return (some e) pos) (.ret d) ρ₁ :=
  fun env he A amb s Q E hA I hQ => wpAny_Return_some (x env he A amb s _ E hA I fun v h t I1 g r => hQ _ h t I1 g ⟨v, rfl, r⟩)

theorem ES1.assign (i : Nat) {y : Str} {k : NameKind} {e : Expr} {d : D} {p pos : Pos} (x : EE G n sc ρ e d ρ₁) (hi : autoParam (sc.names[i]? = some (y, k)) byRfl) (hk : autoParam (k = .local ∨ k = .cell) byDec)
    (hs : autoParam (∀ env, swapsWith e (some (.Name y p)) pos.line env = pure false) byRflA) : ES1 G n sc ρ (.Assign [.Name y p] e pos) .next (ρ₁.set i (.val d)) :=
  fun env he A amb s Q E hA I hQ => wpAny_Assign_Name (x env he A amb s _ E hA I fun v h t I1 g r => store_val he I1 hi hk r fun h' t' I2 g2 => hQ .next h' t' I2 (g.trans g2) rfl) (hs env)

theorem ES1.assign_own (i : Nat) {y : Str} {k : NameKind} {e : Expr} {ds : List D} {p pos : Pos} {rest : List Stmt} {f : Fl} (x : EF G n sc ρ e ds ρ₁) (hi : autoParam (sc.names[i]? = some (y, k)) byRfl) (hk : autoParam (k = .local ∨ k = .cell) byDec)
    (z : ∀ a, ES G n sc (ρ₁.set i (.own a ds)) rest f ρ₂)
    (hs : autoParam (∀ env, swapsWith e (some (.Name y p)) pos.line env = pure false) byRflA) : ES G n sc ρ (.Assign [.Name y p] e pos :: rest) f ρ₂ :=
  fun env he A amb s Q E hA I hQ => wpAny_execs_cons (wpAny_Assign_Name (x env he A amb s _ E hA I fun a vs m h t I1 g e0 na nw e r =>
    storeName_stored he I1.nd I1.ns I1.cells hi hk (fun q => he.cl y (q ▸ he.kind hi)) fun c h' t' S => by
      obtain ⟨I2, g2⟩ := I1.stored_own he S hi na nw e r
      exact z a env he A amb _ Q E hA I2 fun fl h'' t'' I3 g3 fo => hQ fl h'' t'' I3 ((g2 _ _ g e0).trans g3) fo) (hs env))

theorem ES1.if_t {c : Expr} {a b : List Stmt} {f : Fl} {pos : Pos} (x : ET G n sc ρ c true ρ₁) (y : ES G n sc ρ₁ a f ρ₂) : ES1 G n sc ρ (.If c a b pos) f ρ₂ :=
  fun env he A amb s Q E hA I hQ => wpAny_If (x env he A amb s _ E hA I fun h t I1 g => by
    rw [if_pos rfl]; exact y env he A amb _ Q E hA I1 fun fl h' t' I2 g2 fo => hQ fl h' t' I2 (g.trans g2) fo)
theorem ES1.if_f {c : Expr} {a b : List Stmt} {f : Fl} {pos : Pos} (x : ET G n sc ρ c false ρ₁) (y : ES G n sc ρ₁ b f ρ₂) : ES1 G n sc ρ (.If c a b pos) f ρ₂ :=
  fun env he A amb s Q E hA I hQ => wpAny_If (x env he A amb s _ E hA I fun h t I1 g => by
    rw [if_neg Bool.false_ne_true]; exact y env he A amb _ Q E hA I1 fun fl h' t' I2 g2 fo => hQ fl h' t' I2 (g.trans g2) fo)

noncomputable def EW (G : GC) (n : Nat) (sc : Scope) (ρ : St) (test : Expr) (body : List Stmt) (f : Fl) (ρ' : St) : Prop :=
  ∀ env, EnvOk sc env → ∀ A amb s R, Room n A → Inv G env amb ρ s.heap →
    (∀ fl h' t, Inv G env amb ρ' h' → Go s.heap (wr env ρ) h' (wr env ρ') → FlOk h' (mu env amb ρ') f fl → R (.ok fl) { s with heap := h', toks := t }) →
    codeAny (model G.prog G.w) A (.whileLoop test body [] env) R s

theorem EW.done {test : Expr} {body : List Stmt} (x : ET G n sc ρ test false ρ₁) : EW G n sc ρ test body .next ρ₁ :=
  fun env he A amb s R hA I hQ => by
    refine codeAny_of_tree ?_
    show wpAny _ A ((whileTurn test body [] env).onRaise (fun x => do noteFrame x env; theTreesLotGoes x)) _ _ s
    refine wpAny_noted ?_
    unfold whileTurn
    refine wpAny_bind (x env he A amb s _ _ hA I fun h t I1 g => ?_)
    rw [if_neg Bool.false_ne_true]
    exact wpAny_bind (wpAny_execs_nil (wpAny_pure (hQ .next h t I1 g rfl)))
theorem EW.step {test : Expr} {body : List Stmt} {f : Fl} (x : ET G n sc ρ test true ρ₁) (y : ES G n sc ρ₁ body .next ρ₂) (z : EW G n sc ρ₂ test body f ρ₃) : EW G n sc ρ test body f ρ₃ :=
  fun env he A amb s R hA I hQ => by
    refine codeAny_of_tree ?_
    show wpAny _ A ((whileTurn test body [] env).onRaise (fun x => do noteFrame x env; theTreesLotGoes x)) _ _ s
    refine wpAny_noted ?_
    unfold whileTurn
    refine wpAny_bind (x env he A amb s _ _ hA I fun h t I1 g => ?_)
    rw [if_pos rfl]
    refine wpAny_bind (y env he A amb _ _ _ hA I1 fun fl h' t' I2 g2 fo => ?_)
    rw [show fl = .next from fo]
    refine wpAny_pure ⟨rfl, ?_⟩
    exact z env he A amb _ R hA I2 fun fl' h'' t'' I3 g3 fo3 => hQ fl' h'' t'' I3 ((g.trans g2).trans g3) fo3
theorem EW.ret {test : Expr} {body : List Stmt} {d : D} (x : ET G n sc ρ test true ρ₁) (y : ES G n sc ρ₁ body (.ret d) ρ₂) : EW G n sc ρ test body (.ret d) ρ₂ :=
  fun env he A amb s R hA I hQ => by
    refine codeAny_of_tree ?_
    show wpAny _ A ((whileTurn test body [] env).onRaise (fun x => do noteFrame x env; theTreesLotGoes x)) _ _ s
    refine wpAny_noted ?_
    unfold whileTurn
    refine wpAny_bind (x env he A amb s _ _ hA I fun h t I1 g => ?_)
    rw [if_pos rfl]
    refine wpAny_bind (y env he A amb _ _ _ hA I1 fun fl h' t' I2 g2 fo => ?_)
    obtain ⟨v, rfl, r⟩ := fo
    exact wpAny_pure (hQ _ h' t' I2 (g.trans g2) ⟨v, rfl, r⟩)
theorem ES1.while {test : Expr} {body : List Stmt} {f : Fl} {pos : Pos} (x : EW G n sc ρ test body f ρ₁) : ES1 G n sc ρ (.While test body [] pos) f ρ₁ :=
  fun env he A amb s Q E hA I hQ => wpAny_While (x env he A amb s _ hA I fun fl h t I1 g fo => hQ fl h t I1 g fo)

inductive It where
  | val (d : D)
  | own (ds : List D)
end
end Mine

end -- FG
section -- FH
open PySem PySem.W PyProof.Rows PySem.Calls
set_option maxRecDepth 100000
namespace Mine

noncomputable def BSpec (G : GC) (bv : Value) (ds : List D) (d : D) : Prop :=
  ∀ A (M : AS) s vs Q E, A.handled = Option.none → Gl G → (∀ b o, G.h.get? b = some o → s.heap.get? b = some o) → (∀ a, M a → Live s.heap a ∧ G.h.get? a = Option.none) → RelL s.heap M ds vs →
    (∀ v h' t, (∀ b o, s.heap.get? b = some o → h'.get? b = some o) → Rel h' M d v → Q v { s with heap := h', toks := t }) →
    wpAny (model G.prog G.w) A (PySem.call bv vs) Q E s

inductive IsB : Value → Prop
  | b (id : String) : IsB (.builtin id)
  | t (T : String) : IsB (.type T)

section
variable {G : GC} {n : Nat} {sc : Scope} {ρ ρ₁ ρ₂ ρ₃ : St}

theorem callWith_isB {A : Around} {E : Value → Shared → Prop} {s : Shared} {pos : Pos} {bv : Value} {first : List Value} {args : List (Bool × Sem Value)} {Q : Value → Shared → Prop} (hb : IsB bv) (hplain : args.any (·.1) = false)
    (h : wpAny (model G.prog G.w) A (evalArgs bv true args []) (fun a s₁ => wpAny (model G.prog G.w) A (PySem.call bv (first ++ a.pos) a.kw) Q E s₁) E s) : wpAny (model G.prog G.w) A (callWith pos bv first args []) Q E s := by
  cases hb with
  | b id => exact callWith_builtin hplain h
  | t T => exact PyProof.Rows.callWith_type hplain h

theorem wpAny_builtinName {A : Around} {env : Env} (he : EnvOk sc env) {amb : AS} {s : Shared} (I : Inv G env amb ρ s.heap) {i : Nat} {f : Str} {bv : Value} {p : Pos} {Q : Value → Shared → Prop} {E : Value → Shared → Prop} (hi : sc.names[i]? = some (f, .globalImplicit)) (hf : f ∈ usedB) (hb : bootBuiltins f = some bv) (hq : Q bv s) :
    wpAny (model G.prog G.w) A (eval (.Name f p) env) Q E s :=
  Name_function_global he.fn (he.kind hi) (loadGlobal_builtin (he.gl ▸ I.gl.g.keeps I.top) (I.gl.free f hf) (he.bi ▸ I.gl.b.keeps I.top) ((I.gl.builtins f (usedB_ne f hf)).trans hb) hq) (he.nodebug hi)

theorem EE.bcall (i : Nat) {f : Str} {bv : Value} {e : Expr} {es : List Expr} {ds : List D} {d : D} {p pos : Pos} (sp : BSpec G bv ds d) (hB : IsB bv) (hf : f ∈ usedB) (hb : bootBuiltins f = some bv) (hi : sc.names[i]? = some (f, .globalImplicit)) (x : EEs G n sc ρ (e :: es) ds ρ₁)
    (hs : autoParam (∀ env, starEach (e :: es) env = (false, eval e env) :: starEach es env) byRflA) (hp : autoParam (∀ env pos, (backTo pos (starEach es env)).any (·.1) = false) byRflB) : EE G n sc ρ (.Call (.Name f p) (e :: es) [] pos) d ρ₁ :=
  fun env he A amb s Q E hA I hQ => by
    refine wpAny_Call_Name_kw (wpAny_builtinName he I hi hf hb ?_)
    show wpAny _ _ (callWith pos bv [] (backTo pos (starEach (e :: es) env)) []) _ _ _
    have hst : backTo pos (starEach (e :: es) env) = (false, eval e env) :: backTo pos (starEach es env) := by rw [hs env]; rfl
    refine callWith_isB hB (by rw [hst, List.any_cons, hp env pos]; rfl) ?_
    rw [hst]
    refine evalArgs_plain ?_
    rw [← hst]
    refine x env he pos A amb s _ E hA I fun vs h t I1 g r _ => ?_
    show wpAny _ _ (PySem.call bv ([] ++ vs) []) _ _ _
    rw [List.nil_append]
    exact sp A (mu env amb ρ₁) _ vs _ E hA.handled I1.gl I1.top (mu_ok I1) r fun v h' t' k rv => hQ v h' t' (I1.grow k) (g.trans (Go.of_keeps k)) rv

theorem keepsId (h : Heap) : ∀ b o, h.get? b = some o → h.get? b = some o := fun _ _ e => e

theorem bs_abs {a : Int} : BSpec G (.builtin "abs") [.int a] (.int (if a < 0 then -a else a)) := fun A M s vs Q E _ _ _ _ r hQ => by
  obtain ⟨_, _, rfl, ⟨t, rfl⟩, rfl⟩ := r
  exact call_abs_int fun u tk => hQ _ s.heap tk (keepsId _) ⟨_, rfl⟩
theorem bs_max {a b : Int} : BSpec G (.builtin "max") [.int a, .int b] (.int (if b > a then b else a)) := fun A M s vs Q E hh _ _ _ r hQ => by
  obtain ⟨_, _, rfl, ⟨t, rfl⟩, _, _, rfl, ⟨u, rfl⟩, rfl⟩ := r
  refine max_two_ints hh fun h' tk hk => ?_
  have := hQ (.int (if b > a then b else a) (if b > a then u else t)) h' tk hk ⟨_, rfl⟩
  by_cases c : b > a
  · simpa only [if_pos c] using this
  · simpa only [if_neg c] using this
theorem bs_min {a b : Int} : BSpec G (.builtin "min") [.int a, .int b] (.int (if b < a then b else a)) := fun A M s vs Q E hh _ _ _ r hQ => by
  obtain ⟨_, _, rfl, ⟨t, rfl⟩, _, _, rfl, ⟨u, rfl⟩, rfl⟩ := r
  refine min_two_ints hh fun h' tk hk => ?_
  have := hQ (.int (if b < a then b else a) (if b < a then u else t)) h' tk hk ⟨_, rfl⟩
  by_cases c : b < a
  · simpa only [if_pos c] using this
  · simpa only [if_neg c] using this
theorem bs_len_l {ds : List D} (hz : ds.length ≤ 1000000) : BSpec G (.builtin "len") [.lst ds] (.int ds.length) := fun A M s vs Q E _ _ _ _ r hQ => by
  obtain ⟨_, _, rfl, ⟨a, us, m, rfl, e, na, rs⟩, rfl⟩ := r
  have hl : s.heap.IsList a us.toArray := ⟨_, e, rfl, m, rfl⟩
  refine PyProof.Rows.len_list hl (by simp only [List.size_toArray]; rw [rs.length]; lia) ?_
  simp only [List.size_toArray]; rw [rs.length]
  exact hQ _ s.heap _ (keepsId _) ⟨_, rfl⟩
theorem bs_len_t {ds : List D} (hz : ds.length ≤ 1000000) : BSpec G (.builtin "len") [.tup ds] (.int ds.length) := fun A M s vs Q E _ _ _ _ r hQ => by
  obtain ⟨_, _, rfl, ⟨a, us, m, rfl, e, na, rs⟩, rfl⟩ := r
  refine PyProof.Rows.len_tuple (items := us.toArray) ⟨_, e, rfl, m, rfl⟩ (by simp only [List.size_toArray]; rw [rs.length]; lia) ?_
  simp only [List.size_toArray]; rw [rs.length]
  exact hQ _ s.heap _ (keepsId _) ⟨_, rfl⟩
theorem bs_tuple {ds : List D} (hz : ds.length ≤ 1000000) : BSpec G (.type "tuple") [.lst ds] (.tup ds) := fun A M s vs Q E _ gl top hM r hQ => by
  obtain ⟨_, _, rfl, ⟨a, us, m, rfl, e, na, rs⟩, rfl⟩ := r
  have hl : s.heap.IsList a us.toArray := ⟨_, e, rfl, m, rfl⟩
  refine call_tuple_list hl (fun h' k => ?_) (by simp only [List.size_toArray]; rw [rs.length]; exact sizeLine_ge hz)
  have k' : ∀ b o, s.heap.get? b = some o → (h'.push (seqObj "tuple" us 0)).get? b = some o := fun b o e => Heap.get?_push_of_some _ (k b o e)
  exact hQ _ _ s.toks k' ⟨_, us, 0, rfl, alloc_get .., fun q => Nat.lt_irrefl _ ((hM _ q).1.keeps k).lt, RelL.kp (Kp.of_keeps k') _ _ rs⟩
theorem bs_str {a : Int} (hz : a.natAbs.log2 < 1920) : BSpec G (.type "str") [.int a] (.str (toString a)) := fun A M s vs Q E _ gl top hM r hQ => by
  obtain ⟨_, _, rfl, ⟨t, rfl⟩, rfl⟩ := r
  exact PySem.P.str_of_int hz (hQ _ s.heap _ (keepsId _) ⟨_, rfl⟩)

theorem EE.len_own (i j : Nat) {y : Str} {k0 : NameKind} {a : Addr} {ds : List D} {p p2 pos : Pos} (e1 : sc.names[j]? = some (y, k0)) (e2 : ρ[j]? = some (.own a ds)) (hi : sc.names[i]? = some (("len" : Str), .globalImplicit)) (hz : ds.length ≤ 1000000) :
    EE G n sc ρ (.Call (.Name "len" p) [.Name y p2] [] pos) (.int ds.length) ρ :=
  fun env he A amb s Q E hA I hQ => by
    refine wpAny_Call_Name_kw (wpAny_builtinName he I hi (by decide) PySem.boot_len ?_)
    show wpAny _ _ (callWith pos (.builtin "len") [] [(false, eval (.Name y p2) env)] []) _ _ _
    refine callWith_isB (.b _) rfl (evalArgs_plain (spliced_cons ?_))
    obtain ⟨g, na, vs, m, e, r⟩ := I.var he e1 e2
    refine vget_load he g (he.nodebug e1) (spliced_nil ?_)
    have hl : s.heap.IsList a vs.toArray := ⟨_, e, rfl, m, rfl⟩
    refine PyProof.Rows.len_list hl (by simp only [List.size_toArray]; rw [r.length]; lia) ?_
    simp only [List.size_toArray]; rw [r.length]
    exact hQ _ s.heap _ I (Go.refl ..) ⟨_, rfl⟩

theorem EF.list_of (i : Nat) {e : Expr} {ds : List D} {p pos : Pos} (x : EE G n sc ρ e (.lst ds) ρ₁) (hi : sc.names[i]? = some (("list" : Str), .globalImplicit)) (hz : ds.length ≤ 1000000)
    (hs : autoParam (∀ env, starEach [e] env = [(false, eval e env)]) byRflA) : EF G n sc ρ (.Call (.Name "list" p) [e] [] pos) ds ρ₁ :=
  fun env he A amb s Q E hA I hQ => by
    refine wpAny_Call_Name_kw (wpAny_builtinName he I hi (by decide) PyProof.Rows.boot_list ?_)
    show wpAny _ _ (callWith pos (.type "list") [] (backTo pos (starEach [e] env)) []) _ _ _
    rw [hs env]
    refine callWith_isB (.t _) rfl (evalArgs_plain (spliced_cons ?_))
    refine x env he A amb s _ E hA I fun v h t I1 g r => spliced_nil ?_
    obtain ⟨a, us, m, rfl, e, na, rs⟩ := r
    refine call_list_seq a (.inl rfl) e rfl rfl (fun h' c' k e' => ?_) (by simp only [List.size_toArray]; rw [rs.length]; exact sizeLine_ge hz)
    have e0 : h.get? h.objs.size = Option.none := get_none_of_ge (Nat.le_refl _)
    refine hQ h.objs.size us c' h' t (I1.growAdd k e0 ⟨_, e'⟩) (g.trans (Go.of_keeps k)) (g.dead e0) (fun q => Nat.lt_irrefl _ (I1.ambLt _ q).1.lt) (fun q => Nat.lt_irrefl _ (wr_live I1 q).lt) e' ?_
    exact RelL.kp (fun b T vs n q mm => ⟨k _ _ q, fun x => ((mu_addA b).mp x).elim mm fun e => by subst e; rw [e0] at q; cases q⟩) _ _ rs

theorem inOrder_cons {A : Around} {E : Value → Shared → Prop} {s : Shared} {env : Env} {y : Str} {ts : List (Value → Sem Unit)} {x : Value} {xs : List Value} {Q : Unit → Shared → Prop}
    (h : wpAny (model G.prog G.w) A (storeName env y x) (fun _ s' => wpAny (model G.prog G.w) A (assignInOrder ts xs) Q E s') E s) : wpAny (model G.prog G.w) A (assignInOrder ((fun v => bindName env y v) :: ts) (x :: xs)) Q E s := by
  unfold assignInOrder
  exact wpAny_bind (wpAny_holding (wpAny_bindName h))
theorem inOrder_cons' {A : Around} {E : Value → Shared → Prop} {s : Shared} {env : Env} {y : Str} {p : Pos} {ts : List (Value → Sem Unit)} {x : Value} {xs : List Value} {Q : Unit → Shared → Prop}
    (h : wpAny (model G.prog G.w) A (storeName env y x) (fun _ s' => wpAny (model G.prog G.w) A (assignInOrder ts xs) Q E s') E s) : wpAny (model G.prog G.w) A (assignInOrder (assign (.Name y p) env :: ts) (x :: xs)) Q E s := by
  unfold assignInOrder
  exact wpAny_bind (wpAny_holding (wpAny_assign_Name h))

inductive Stores (sc : Scope) : St → List (Str × D) → St → Prop
  | nil {ρ : St} : Stores sc ρ [] ρ
  | cons {ρ ρ' : St} {y : Str} {d : D} {l : List (Str × D)} (i : Nat) (k : NameKind) (hi : sc.names[i]? = some (y, k)) (hk : k = .local ∨ k = .cell) (r : Stores sc (ρ.set i (.val d)) l ρ') : Stores sc ρ ((y, d) :: l) ρ'

inductive Tg (env : Env) : List (Value → Sem Unit) → List (Str × D) → Prop
  | nil : Tg env [] []
  | bind {y : Str} {d : D} {ts : List (Value → Sem Unit)} {l : List (Str × D)} (r : Tg env ts l) : Tg env ((fun v => bindName env y v) :: ts) ((y, d) :: l)
  | name {y : Str} {d : D} {p : Pos} {ts : List (Value → Sem Unit)} {l : List (Str × D)} (r : Tg env ts l) : Tg env (assign (.Name y p) env :: ts) ((y, d) :: l)
theorem Tg.ofBind (env : Env) : ∀ l : List (Str × D), Tg env (l.map fun x => (fun v => bindName env x.1 v)) l
  | [] => .nil
  | _ :: l => .bind (Tg.ofBind env l)

theorem stores_run {A : Around} {E : Value → Shared → Prop} {env : Env} {amb : AS} (he : EnvOk sc env) :
    ∀ {l : List (Str × D)} {ts : List (Value → Sem Unit)} {ρ ρ' : St} {s : Shared} {vs : List Value} {Q : Unit → Shared → Prop}, Tg env ts l → Stores sc ρ l ρ' → Inv G env amb ρ s.heap → RelL s.heap (mu env amb ρ) (l.map (·.2)) vs →
      (∀ h' t, Inv G env amb ρ' h' → Go s.heap (wr env ρ) h' (wr env ρ') → Q () { s with heap := h', toks := t }) → wpAny (model G.prog G.w) A (assignInOrder ts vs) Q E s := by
  intro l
  induction l with
  | nil =>
    intro ts ρ ρ' s vs Q T S I r hQ
    cases S
    rw [show vs = [] from r]
    cases T
    exact wpAny_pure (hQ s.heap s.toks I (Go.refl ..))
  | cons x l ih =>
    intro ts ρ ρ' s vs Q T S I r hQ
    obtain ⟨y, d⟩ := x
    cases S with
    | cons i k hi hk S' =>
    obtain ⟨v, vs', rfl, rv, rs⟩ := r
    cases T with
    | bind T' => exact inOrder_cons (store_val he I hi hk rv fun h' t I' g => ih T' S' I' (RelL.go rs g) fun h'' t' I'' g' => hQ h'' t' I'' (g.trans g'))
    | name T' => exact inOrder_cons' (store_val he I hi hk rv fun h' t I' g => ih T' S' I' (RelL.go rs g) fun h'' t' I'' g' => hQ h'' t' I'' (g.trans g'))

theorem ES1.assign_swap {ys : List Str} {ts : List Expr} {es : List Expr} {ds : List D} {ρ' : St} {k k' : Nat} {p p' pos : Pos} (x : EEs G n sc ρ es ds ρ₁) (S : Stores sc ρ₁ ((ys.zip ds).reverse) ρ')
    (hl : ys.length = ds.length) (hz : autoParam (es.length ≤ 1000000) byBle)
    (hsw : autoParam (∀ env, env.scope = sc → swappedStores [.Tuple ts k p] (.Tuple es k' p') env = pure (some ys)) byEnv) : ES1 G n sc ρ (.Assign [.Tuple ts k p] (.Tuple es k' p') pos) .next ρ' :=
  fun env he A amb s Q E hA I hQ => by
    show wpAny _ _ (do
      standAt pos
      if ← swapsWithSole [.Tuple ts k p] (.Tuple es k' p') pos.line env then do
        evalThenUse (.Tuple es k' p') env fun v => assignAll v ((assignEach [.Tuple ts k p] env).map (·.2))
        pure .next
      else do
        let v ← eval (.Tuple es k' p') env
        assignStores env v (← swappedStores [.Tuple ts k p] (.Tuple es k' p') env) ((assignEach [.Tuple ts k p] env).map (·.2))) _ _ _
    refine wpAny_bind (wpAny_standAt ?_)
    have e0 : swapsWithSole [.Tuple ts k p] (.Tuple es k' p') pos.line env = pure false := rfl
    rw [e0]
    refine wpAny_bind (wpAny_pure ?_)
    rw [if_neg Bool.false_ne_true]
    refine wpAny_bind (EE.tuple x hz env he A amb s _ E hA I fun v h t I1 g r => ?_)
    rw [hsw env he.is]
    refine wpAny_bind (wpAny_pure ?_)
    unfold assignStores
    dsimp only
    refine wpAny_bind (wpAny_rule ?_)
    obtain ⟨a, vs, m, rfl, e, na, rs⟩ := r
    have hv : vs.length = ys.length := by rw [rs.length, hl]
    rw [← hv]
    have ht : Heap.IsTuple h a vs.toArray := ⟨_, e, rfl, m, rfl⟩
    have hsz : vs.length = vs.toArray.size := by simp
    rw [hsz]
    refine wpAny_bind (wpAny_unpackItems_tuple hA.handled ht fun h' eb => ?_)
    have k1 : ∀ b o, h.get? b = some o → h'.get? b = some o := fun b o q => eb b o (Nat.ne_of_lt (Heap.lt_size q)) q
    have I2 := I1.grow k1
    have rs2 : RelL h' (mu env amb ρ₁) ds vs := RelL.kp (Kp.of_keeps k1) _ _ rs
    have em : (((ys.zip ds).reverse).map fun x => (fun v => bindName env x.1 v)) = ys.reverse.map fun n => bindName env n := by
      rw [List.map_reverse, List.map_reverse]
      congr 1
      have := List.map_map (l := ys.zip ds) (f := Prod.fst) (g := fun (n : Str) => fun v => bindName env n v)
      rw [List.map_fst_zip (by lia)] at this
      exact this.symm
    have er : ((ys.zip ds).reverse).map (·.2) = ds.reverse := by rw [List.map_reverse, List.map_snd_zip (by lia)]
    refine wpAny_bind ?_
    show wpAny _ _ (assignInOrder (ys.reverse.map fun n => bindName env n) vs.toArray.toList.reverse) _ _ _
    rw [← em]
    refine stores_run he (Tg.ofBind env _) S I2 (by rw [er]; exact rs2.reverse) fun h'' t' I3 g3 => wpAny_pure (hQ .next h'' t' I3 ((g.trans (Go.of_keeps k1)).trans g3) rfl)

theorem ES1.unpack {l : List (Str × D)} {ts : List Expr} {e : Expr} {ds : List D} {ρ' : St} {k : Nat} {p pos : Pos} (x : EE G n sc ρ e (.tup ds) ρ₁) (S : Stores sc ρ₁ l ρ')
    (hl : l.map (·.2) = ds) (tg : ∀ env, Tg env ((assignEach ts env).map (·.2)) l)
    (hn : ∀ env, (assignEach ts env).length = ds.length) (hst : autoParam (∀ env, (assignEach ts env).findIdx? (·.1) = Option.none) byRflA)
    (hs : autoParam (∀ env, swapsWithSole [.Tuple ts k p] e pos.line env = pure false) byRflA)
    (hsw : autoParam (∀ env, env.scope = sc → swappedStores [.Tuple ts k p] e env = pure Option.none) byEnv)
    : ES1 G n sc ρ (.Assign [.Tuple ts k p] e pos) .next ρ' :=
  fun env he A amb s Q E hA I hQ => by
    rw [arm_exec_Assign]
    refine wpAny_bind (wpAny_standAt ?_)
    rw [hs env]
    refine wpAny_bind (wpAny_pure ?_)
    rw [if_neg Bool.false_ne_true]
    refine wpAny_bind (x env he A amb s _ E hA I fun v h t I1 g r => ?_)
    rw [hsw env he.is]
    refine wpAny_bind (wpAny_pure ?_)
    obtain ⟨a, vs, m, rfl, ea, na, rs⟩ := r
    unfold assignStores
    dsimp only
    refine wpAny_bind (m := assignAll (.ref a) ((assignEach [.Tuple ts k p] env).map (·.2))) ?_
    show wpAny _ _ (PySem.assign (.Tuple ts k p) env (.ref a)) _ _ _
    have ht : Heap.IsTuple h a vs.toArray := ⟨_, ea, rfl, m, rfl⟩
    refine wpAny_assign_Tuple hA.handled ht (by rw [hn env]; simp [rs.length]) (hst env) fun h' eb => ?_
    have k1 : ∀ b o, h.get? b = some o → h'.get? b = some o := fun b o q => eb b o (Nat.ne_of_lt (Heap.lt_size q)) q
    have rs2 : RelL h' (mu env amb ρ₁) ds vs := RelL.kp (Kp.of_keeps k1) _ _ rs
    refine stores_run he (tg env) S (I1.grow k1) (by rw [hl]; exact rs2) fun h'' t' I3 g3 => wpAny_pure (hQ .next h'' t' I3 ((g.trans (Go.of_keeps k1)).trans g3) rfl)
end
end Mine

end -- FH
section -- FI
open PySem PySem.W PyProof.Rows PySem.Calls
set_option maxRecDepth 100000
namespace Mine

noncomputable def goNames : List String := ["enumerate", "zip", "dict_itemiterator", "dict_reverseitemiterator", "odict_iterator", "itertools.zip_longest", "itertools.pairwise"]
noncomputable def PlainIt (h : Heap) (I : Addr) : Prop := ∃ o n vs, h.get? I = some o ∧ o.cls = .type n ∧ o.data = .fields vs ∧ goNames.contains n = false
theorem letGo_plain {prog : Program} {w : World} {A : Around} {E : Value → Shared → Prop} {s : Shared} {elts : List Expr} {k : Nat} {pos : Pos} {I : Addr} {v : Value} {Q : Unit → Shared → Prop} (h : PlainIt s.heap I) (hQ : Q () s) :
    wpAny (model prog w) A (letOwnedTupleGo (.Tuple elts k pos) (.ref I) v) Q E s := by
  obtain ⟨o, n, vs, ho, hc, hd, hn⟩ := h
  unfold letOwnedTupleGo
  cases v with
  | ref a =>
    refine wpAny_bind (wpAny_load ho ?_)
    rw [hc, hd]
    show wpAny _ A (if (goNames.contains n && vs[0]? == some (rawInt a)) = true then _ else _) Q E s
    rw [hn, Bool.false_and, if_neg Bool.false_ne_true]
    exact wpAny_pure hQ
  | _ => exact wpAny_pure hQ

noncomputable def ItOk (G : GC) (A : Around) (h : Heap) (M : AS) (it : Value) (fp wI : List Addr) (ds : List D) : Prop :=
  ∃ (I : Addr) (n : Nat) (P : Nat → Value → Prop) (S : Nat → Heap → Prop) (i : Nat), it = .ref I ∧ Walks G.prog G.w A I fp wI n P S ∧ S i h ∧ i + ds.length = n ∧
    (∀ j h, S j h → ∀ b ∈ fp, Live h b) ∧ (∀ j h, S j h → ∀ b ∈ wI, ∀ T vs n, h.get? b ≠ some (seqObj T vs n)) ∧
    (∀ k d, ds[k]? = some d → ∀ v, P (i + k) v → Rel h M d v) ∧ ∀ j h, S j h → PlainIt h I

section
variable {G : GC} {n : Nat} {sc : Scope} {ρ ρ₁ ρ₂ ρ₃ : St}

theorem ItOk.go {A : Around} {h h' : Heap} {env : Env} {amb : AS} {it : Value} {fp wI : List Addr} {ds : List D} (x : ItOk G A h (mu env amb ρ) it fp wI ds) (g : Go h (wr env ρ) h' (wr env ρ₁)) (hf : ∀ b ∈ fp, b ∉ wr env ρ) :
    ItOk G A h' (mu env amb ρ₁) it fp wI ds ∧ ∀ b ∈ fp, b ∉ wr env ρ₁ := by
  obtain ⟨I, n, P, S, i, e, W, st, hn, l1, l2, r, hm⟩ := x
  have kf : ∀ b ∈ fp, ∀ o, h.get? b = some o → h'.get? b = some o := fun b hb o q => (g.keep b o q (hf b hb)).1
  refine ⟨⟨I, n, P, S, i, e, W, W.frame i h h' st kf, hn, l1, l2, fun k d hk v hv => Rel.go (r k d hk v hv) g, hm⟩, fun b hb => ?_⟩
  obtain ⟨o, q⟩ := l1 i h st b hb
  exact (g.keep b o q (hf b hb)).2

theorem Inv.stp {env : Env} {amb : AS} {h h' : Heap} {wI : List Addr} (I : Inv G env amb ρ h) (k : ∀ b o, b ∉ wI → h.get? b = some o → h'.get? b = some o) (h1 : ∀ b ∈ wI, b ∉ wr env ρ) (h2 : ∀ b ∈ wI, ¬ amb b) (h3 : ∀ b ∈ wI, G.h.get? b = Option.none)
    (h4 : ∀ b ∈ wI, ∀ T vs n, h.get? b ≠ some (seqObj T vs n)) : Inv G env amb ρ h' := by
  have wl : ∀ a ∈ wr env ρ, a ∉ wI := fun a ha q => h1 a q ha
  have hL : env.locals ∈ wr env ρ := List.mem_cons_self
  have hC : ∀ x c, (x, c) ∈ env.cells → c ∈ wr env ρ := fun x c hx => List.mem_cons_of_mem _ (List.mem_append_left _ (List.mem_map.mpr ⟨(x, c), hx, rfl⟩))
  have kp : Kp h (mu env amb ρ) h' (mu env amb ρ) := fun a T vs n e m => ⟨k a _ (fun q => h4 a q T vs n e) e, m⟩
  have vg : ∀ z u, vget env h z u → vget env h' z u := fun z u g => by
    rcases g with ⟨e, m, hn, hm⟩ | ⟨e, c, hc, v⟩
    · exact .inl ⟨e, m, hn.at' (fun o q => k _ o (wl _ hL) q), hm⟩
    · obtain ⟨o, ho, hd⟩ := v
      exact .inr ⟨e, c, hc, o, k _ o (wl _ (hC z c (PySem.mem_of_lookup hc))) ho, hd⟩
  refine ⟨I.gl, fun b o e => k b o (fun q => ?_) (I.top b o e), fun a q => ⟨?_, (I.ambLt a q).2⟩, fun a q => ⟨?_, (I.fresh a q).2⟩, I.nd, ?_, fun x c hx => ?_, fun i x kd s e1 e2 => ?_⟩
  · rw [h3 b q] at e; cases e
  · obtain ⟨o, ho⟩ := (I.ambLt a q).1; exact ⟨o, k a o (fun t => h2 a t q) ho⟩
  · obtain ⟨o, ho⟩ := (I.fresh a q).1; exact ⟨o, k a o (wl a q) ho⟩
  · obtain ⟨m, hn⟩ := I.ns; exact ⟨m, hn.at' fun o q => k _ o (wl _ hL) q⟩
  · obtain ⟨v, o, ho, hd⟩ := I.cells x c hx; exact ⟨v, o, k _ o (wl _ (hC x c hx)) ho, hd⟩
  · have o := I.vars i x kd s e1 e2
    cases s with
    | unset => trivial
    | val d => obtain ⟨v, g, r⟩ := o; exact ⟨v, vg _ _ g, Rel.kp kp d v r⟩
    | own a ds => obtain ⟨g, na, vs, m, e, r⟩ := o; exact ⟨vg _ _ g, na, vs, m, k a _ (fun q => h4 a q _ _ _ e) e, RelL.kp kp ds vs r⟩
    | dict hf a kvs => obtain ⟨g, na, r⟩ := o; exact ⟨vg _ _ g, na, r.kp kp fun o e => k a _ (wl a (wr_dict e2)) e⟩

structure Lp (G : GC) (env : Env) (amb : AS) (h₀ : Heap) (W₀ : List Addr) (ρ : St) (h : Heap) (fp wI : List Addr) : Prop where
  inv : Inv G env amb ρ h
  go : Go h₀ W₀ h (wr env ρ)
  ambOff : ∀ b ∈ wI, ¬ amb b
  new : ∀ b ∈ wI, h₀.get? b = Option.none
  off : ∀ b ∈ fp, b ∉ wr env ρ
  top0 : ∀ b o, G.h.get? b = some o → h₀.get? b = some o

theorem Lp.g0 {env : Env} {amb : AS} {h₀ h : Heap} {W₀ : List Addr} {fp wI : List Addr} (L : Lp G env amb h₀ W₀ ρ h fp wI) : (∀ b ∈ wI, G.h.get? b = Option.none) ∧ ∀ b ∈ wI, ¬ amb b :=
  ⟨fun b hb => (by
    cases q : G.h.get? b with
    | none => rfl
    | some o => (have := L.top0 b o q); rw [L.new b hb] at this; cases this), L.ambOff⟩

theorem Lp.stp {env : Env} {amb : AS} {h₀ h h' : Heap} {W₀ fp wI : List Addr} (L : Lp G env amb h₀ W₀ ρ h fp wI) (hs : ∀ b ∈ wI, b ∈ fp) (ns : ∀ b ∈ wI, ∀ T vs n, h.get? b ≠ some (seqObj T vs n)) (k : ∀ b o, b ∉ wI → h.get? b = some o → h'.get? b = some o) :
    Lp G env amb h₀ W₀ ρ h' fp wI := by
  obtain ⟨g1, g2⟩ := L.g0
  refine ⟨L.inv.stp k (fun b hb => L.off b (hs b hb)) g2 g1 ns, ⟨fun a o e m => ?_, fun a l => ?_⟩, L.ambOff, L.new, L.off, L.top0⟩
  · obtain ⟨p, q⟩ := L.go.keep a o e m
    exact ⟨k a o (fun t => by rw [L.new a t] at e; cases e) p, q⟩
  · have hne : a ∉ wI := fun t => l.not_none (L.new a t)
    obtain ⟨o, ho⟩ := L.go.live a l
    exact ⟨o, k a o hne ho⟩

theorem next_item' {env : Env} {A : Around} {amb : AS} {h₀ : Heap} {W₀ fp wI : List Addr} {it : Value} {d : D} {ds : List D} {s : Shared} {Q : Option Value → Shared → Prop} {E : Value → Shared → Prop} (L : Lp G env amb h₀ W₀ ρ s.heap fp wI) (x : ItOk G A s.heap (mu env amb ρ) it fp wI (d :: ds))
    (hQ : ∀ v h' t, Lp G env amb h₀ W₀ ρ h' fp wI → ItOk G A h' (mu env amb ρ) it fp wI ds → (∀ b o, b ∉ wI → s.heap.get? b = some o → h'.get? b = some o) → Kp s.heap (mu env amb ρ) h' (mu env amb ρ) → Rel h' (mu env amb ρ) d v → Q (some v) { s with heap := h', toks := t }) : wpAny (model G.prog G.w) A (pyNext it) Q E s := by
  obtain ⟨I, n, P, S, i, rfl, W, st, hn, l1, l2, r, hm⟩ := x
  simp only [List.length_cons] at hn
  refine W.item i s Q E (by lia) st fun v h' t hp st' k => ?_
  have kp : Kp s.heap (mu env amb ρ) h' (mu env amb ρ) := fun a T vs n e m => ⟨k a _ (fun q => l2 i _ st a q T vs n e) e, m⟩
  exact hQ v h' t (L.stp W.sub (l2 i _ st) k) ⟨I, n, P, S, i + 1, rfl, W, st', by lia, l1, l2, fun j d' hj v' hv' => Rel.kp kp _ _ (r (j + 1) d' (by simpa using hj) v' (by rw [show i + (j + 1) = i + 1 + j by lia]; exact hv')), hm⟩ k kp (Rel.kp kp _ _ (r 0 d rfl v hp))
theorem next_item {env : Env} {A : Around} {amb : AS} {h₀ : Heap} {W₀ fp wI : List Addr} {it : Value} {d : D} {ds : List D} {s : Shared} {Q : Option Value → Shared → Prop} {E : Value → Shared → Prop} (L : Lp G env amb h₀ W₀ ρ s.heap fp wI) (x : ItOk G A s.heap (mu env amb ρ) it fp wI (d :: ds))
    (hQ : ∀ v h' t, Lp G env amb h₀ W₀ ρ h' fp wI → ItOk G A h' (mu env amb ρ) it fp wI ds → Rel h' (mu env amb ρ) d v → Q (some v) { s with heap := h', toks := t }) : wpAny (model G.prog G.w) A (pyNext it) Q E s := by
  obtain ⟨I, n, P, S, i, rfl, W, st, hn, l1, l2, r, hm⟩ := x
  simp only [List.length_cons] at hn
  refine W.item i s Q E (by lia) st fun v h' t hp st' k => ?_
  obtain ⟨g1, g2⟩ := L.g0
  have kp : Kp s.heap (mu env amb ρ) h' (mu env amb ρ) := fun a T vs n e m => ⟨k a _ (fun q => l2 i _ st a q T vs n e) e, m⟩
  refine hQ v h' t ⟨L.inv.stp k (fun b hb => L.off b (W.sub b hb)) g2 g1 (l2 i _ st), ⟨fun a o e m => ?_, fun a l => ?_⟩, L.ambOff, L.new, L.off, L.top0⟩ ⟨I, n, P, S, i + 1, rfl, W, st', by lia, l1, l2, fun j d' hj v' hv' => Rel.kp kp _ _ (r (j + 1) d' (by simpa using hj) v' (by rw [show i + (j + 1) = i + 1 + j by lia]; exact hv')), hm⟩ (Rel.kp kp _ _ (r 0 d rfl v hp))
  · obtain ⟨p, q⟩ := L.go.keep a o e m
    exact ⟨k a o (fun t => by rw [L.new a t] at e; cases e) p, q⟩
  · have hne : a ∉ wI := fun t => l.not_none (L.new a t)
    obtain ⟨o, ho⟩ := L.go.live a l
    exact ⟨o, k a o hne ho⟩
theorem next_end {env : Env} {A : Around} {amb : AS} {h₀ : Heap} {W₀ fp wI : List Addr} {it : Value} {s : Shared} {Q : Option Value → Shared → Prop} {E : Value → Shared → Prop} (L : Lp G env amb h₀ W₀ ρ s.heap fp wI) (x : ItOk G A s.heap (mu env amb ρ) it fp wI [])
    (hQ : ∀ h' t, Inv G env amb ρ h' → Go h₀ W₀ h' (wr env ρ) → Q Option.none { s with heap := h', toks := t }) : wpAny (model G.prog G.w) A (pyNext it) Q E s := by
  obtain ⟨I, n, P, S, i, rfl, W, st, hn, l1, l2, r, hm⟩ := x
  simp only [List.length_nil, Nat.add_zero] at hn
  subst hn
  refine W.done s Q E st fun h' t k => ?_
  obtain ⟨g1, g2⟩ := L.g0
  refine hQ h' t (L.inv.stp k (fun b hb => L.off b (W.sub b hb)) g2 g1 (l2 i _ st)) ⟨fun a o e m => ?_, fun a l => ?_⟩
  · obtain ⟨p, q⟩ := L.go.keep a o e m
    exact ⟨k a o (fun t => by rw [L.new a t] at e; cases e) p, q⟩
  · have hne : a ∉ wI := fun t => l.not_none (L.new a t)
    obtain ⟨o, ho⟩ := L.go.live a l
    exact ⟨o, k a o hne ho⟩

noncomputable def EFo (G : GC) (n : Nat) (sc : Scope) (ρ : St) (tgt : Expr) (body : List Stmt) (ds : List D) (f : Fl) (ρ' : St) : Prop :=
  ∀ env, EnvOk sc env → ∀ A amb s R it h₀ W₀ fp wI, Room n A → Lp G env amb h₀ W₀ ρ s.heap fp wI → ItOk G A s.heap (mu env amb ρ) it fp wI ds →
    (∀ fl h' t, Inv G env amb ρ' h' → Go h₀ W₀ h' (wr env ρ') → FlOk h' (mu env amb ρ') f fl → R (.ok fl) { s with heap := h', toks := t }) →
    codeAny (model G.prog G.w) A (.forLoop tgt it body [] env) R s

theorem forTurn_unroll {A : Around} {R : Result → Shared → Prop} {tgt : Expr} {it : Value} {body : List Stmt} {env : Env} {s : Shared}
    (h : wpAny (model G.prog G.w) A (pyNext it) (fun r s₁ => match r with
      | Option.none => R (.ok .next) s₁
      | some v => wpAny (model G.prog G.w) A (letOwnedTupleGo tgt it v) (fun _ s₁' => wpAny (model G.prog G.w) A (assign tgt env v) (fun _ s₂ => wpAny (model G.prog G.w) A (execs body env) (fun f s₃ => match f with
            | .next | .cont => codeAny (model G.prog G.w) A (.forLoop tgt it body [] env) R s₃
            | .brk => R (.ok .next) s₃
            | .ret v => R (.ok (.ret v)) s₃) (notedBy (model G.prog G.w) A env fun e s' => R (.error e) s') s₂) (notedBy (model G.prog G.w) A env fun e s' => R (.error e) s') s₁') (notedBy (model G.prog G.w) A env fun e s' => R (.error e) s') s₁) (notedBy (model G.prog G.w) A env fun e s' => R (.error e) s') s) :
    codeAny (model G.prog G.w) A (.forLoop tgt it body [] env) R s := by
  refine codeAny_of_tree ?_
  show wpAny _ A ((forTurn tgt it body [] env).onRaise (fun x => do noteFrame x env; theTreesLotGoes x)) _ _ s
  refine wpAny_noted ?_
  simp only [forTurn]
  refine wpAny_bind (wpAny_standAt (wpAny_bind (wpAny_onRaise (wpAny_mono h (fun r s₁ h₁ => ?_) fun _ _ h' => wpAny_standAt h'))))
  cases r with
  | none => exact wpAny_pure ⟨rfl, codeAny_block (wpAny_execs_nil h₁)⟩
  | some v =>
    refine wpAny_bind (wpAny_mono h₁ (fun _ s₁' h₁' => wpAny_bind (wpAny_mono h₁' (fun _ s₂ h₂ => wpAny_bind (wpAny_mono h₂ (fun f s₃ h₃ => ?_) fun _ _ h' => h')) fun _ _ h' => h')) fun _ _ h' => h')
    cases f with
    | next => exact wpAny_pure ⟨rfl, h₃⟩
    | cont => exact wpAny_pure ⟨rfl, h₃⟩
    | brk => exact wpAny_pure h₃
    | ret v => exact wpAny_pure h₃

theorem EFo.nil {tgt : Expr} {body : List Stmt} : EFo G n sc ρ tgt body [] .next ρ :=
  fun env he A amb s R it h₀ W₀ fp wI hA L x hQ => forTurn_unroll (next_end L x fun h' t I g => hQ .next h' t I g rfl)

theorem Lp.stored {env : Env} {amb : AS} {h₀ h h' : Heap} {W₀ fp wI : List Addr} (L : Lp G env amb h₀ W₀ ρ h fp wI) (I : Inv G env amb ρ₁ h') (g : Go h (wr env ρ) h' (wr env ρ₁)) (off : ∀ b ∈ fp, b ∉ wr env ρ₁) : Lp G env amb h₀ W₀ ρ₁ h' fp wI :=
  ⟨I, L.go.trans g, L.ambOff, L.new, off, L.top0⟩

theorem EFo.cons {y : Str} {p : Pos} {k : NameKind} {body : List Stmt} {d : D} {ds : List D} {f : Fl} (i : Nat) (hi : sc.names[i]? = some (y, k)) (hk : k = .local ∨ k = .cell) (b : ES G n sc (ρ.set i (.val d)) body .next ρ₁) (r : EFo G n sc ρ₁ (.Name y p) body ds f ρ₂) :
    EFo G n sc ρ (.Name y p) body (d :: ds) f ρ₂ :=
  fun env he A amb s R it h₀ W₀ fp wI hA L x hQ => forTurn_unroll (next_item L x fun v h1 t1 L1 x1 rv => by
    show wpAny _ _ (pure ()) _ _ _
    refine wpAny_pure (wpAny_assign_Name (store_val he L1.inv hi hk rv fun h2 t2 I2 g2 => ?_))
    obtain ⟨x2, off2⟩ := x1.go g2 L1.off
    refine b env he A amb _ _ _ hA I2 fun fl h3 t3 I3 g3 fo => ?_
    rw [show fl = .next from fo]
    obtain ⟨x3, off3⟩ := x2.go g3 off2
    exact r env he A amb _ R it h₀ W₀ fp wI hA ((L1.stored I2 g2 off2).stored I3 g3 off3) x3 fun fl' h4 t4 I4 g4 fo4 => hQ fl' h4 t4 I4 g4 fo4)
theorem EFo.ret {y : Str} {p : Pos} {k : NameKind} {body : List Stmt} {d e : D} {ds : List D} (i : Nat) (hi : sc.names[i]? = some (y, k)) (hk : k = .local ∨ k = .cell) (b : ES G n sc (ρ.set i (.val d)) body (.ret e) ρ₁) :
    EFo G n sc ρ (.Name y p) body (d :: ds) (.ret e) ρ₁ :=
  fun env he A amb s R it h₀ W₀ fp wI hA L x hQ => forTurn_unroll (next_item L x fun v h1 t1 L1 x1 rv => by
    show wpAny _ _ (pure ()) _ _ _
    refine wpAny_pure (wpAny_assign_Name (store_val he L1.inv hi hk rv fun h2 t2 I2 g2 => ?_))
    obtain ⟨x2, off2⟩ := x1.go g2 L1.off
    refine b env he A amb _ _ _ hA I2 fun fl h3 t3 I3 g3 fo => ?_
    obtain ⟨u, rfl, ru⟩ := fo
    exact hQ _ h3 t3 I3 ((L1.go.trans g2).trans g3) ⟨u, rfl, ru⟩)

noncomputable def EI (G : GC) (n : Nat) (sc : Scope) (ρ : St) (e : Expr) (ds : List D) (ρ' : St) : Prop :=
  ∀ env, EnvOk sc env → ∀ A amb s Q E, Room n A → Inv G env amb ρ s.heap →
    (∀ it h' t fp wI, Lp G env amb s.heap (wr env ρ) ρ' h' fp wI → ItOk G A h' (mu env amb ρ') it fp wI ds → Q it { s with heap := h', toks := t }) →
    wpAny (model G.prog G.w) A (eval e env) (fun x s₁ => wpAny (model G.prog G.w) A (pyIter x) Q E s₁) E s

theorem ES1.for {tgt iter : Expr} {body : List Stmt} {ds : List D} {f : Fl} {pos : Pos} (x : EI G n sc ρ iter ds ρ₁) (y : EFo G n sc ρ₁ tgt body ds f ρ₂) (hs : autoParam (∀ env x, foldedSetIterable iter env x = pure x) byRflB) : ES1 G n sc ρ (.For tgt iter body [] pos) f ρ₂ :=
  fun env he A amb s Q E hA I hQ => wpAny_For (x env he A amb s _ E hA I fun it h t fp wI L xo => y env he A amb _ _ it s.heap (wr env ρ) fp wI hA L xo fun fl h' t' I' g fo => hQ fl h' t' I' g fo) (hs env)

theorem ctor_ne {c : Value} {dt : Option Addr} {fs : Array Value} {sl : Array (Option Value)} : ∀ T vs n, some (⟨c, dt, .fields fs, sl⟩ : Obj) ≠ some (seqObj T vs n) := fun T vs n e => by
  cases e

theorem EI.list {e : Expr} {ds : List D} (x : EE G n sc ρ e (.lst ds) ρ₁) : EI G n sc ρ e ds ρ₁ :=
  fun env he A amb s Q E hA I hQ => x env he A amb s _ E hA I fun v h t I1 g r => by
    obtain ⟨l, vs, m, rfl, e, na, rs⟩ := r
    have hl : h.IsList l vs.toArray := ⟨_, e, rfl, m, rfl⟩
    have e0 : h.get? h.objs.size = Option.none := get_none_of_ge (Nat.le_refl _)
    refine wpAny_pyIter_list hl ?_
    have k : ∀ b o, h.get? b = some o → (h.push { cls := .type "list_iterator", data := .fields #[.ref l, .int 0 0] }).get? b = some o := fun b o q => Heap.get?_push_of_some _ q
    have hne : l ≠ h.objs.size := fun q => by rw [q, e0] at e; cases e
    refine hQ _ _ t [h.objs.size, l] [h.objs.size] ⟨I1.grow k, g.trans (Go.of_keeps k), fun b hb q => (I.ambLt b q).1.not_none (?d b hb), ?d, fun b hb => ?_, fun b o q => I.top b o q⟩ ⟨_, _, _, _, 0, rfl, Walks.list hA.handled h.objs.size l hne vs.toArray, ⟨⟨_, Heap.get?_push_size _ rfl, rfl, rfl⟩, hl.push _⟩, by simp [rs.length], fun j h' st b hb => ?_, fun j h' st b hb T us m' q => ?_, fun j d hj v hv => ?_, fun j h' st => ?_⟩
    case d => intro b hb; simp only [List.mem_singleton] at hb; subst hb; exact g.dead e0
    · simp only [List.mem_cons, List.not_mem_nil, or_false] at hb
      rcases hb with rfl | rfl
      · exact fun q => (wr_live I1 q).not_none e0
      · exact fun q => na (.inr q)
    · simp only [List.mem_cons, List.not_mem_nil, or_false] at hb
      rcases hb with rfl | rfl
      · obtain ⟨⟨o, ho, _⟩, _⟩ := st; exact ⟨o, ho⟩
      · obtain ⟨_, o, ho, _⟩ := st; exact ⟨o, ho⟩
    · simp only [List.mem_singleton] at hb; subst hb
      obtain ⟨⟨o, ho, _, hd⟩, _⟩ := st
      rw [ho] at q; cases q; cases hd
    · obtain ⟨u, hu, ru⟩ := rs.get hj
      have : vs[0 + j]? = some v := by simpa using hv
      rw [Nat.zero_add, hu] at this; cases this
      exact Rel.kp (Kp.of_keeps k) _ _ ru
    · obtain ⟨⟨o, ho, hc, hd⟩, _⟩ := st; exact ⟨o, _, _, ho, hc, hd, by decide⟩
theorem EI.tuple {e : Expr} {ds : List D} (x : EE G n sc ρ e (.tup ds) ρ₁) : EI G n sc ρ e ds ρ₁ :=
  fun env he A amb s Q E hA I hQ => x env he A amb s _ E hA I fun v h t I1 g r => by
    obtain ⟨l, vs, m, rfl, e, na, rs⟩ := r
    have hl : h.IsTuple l vs.toArray := ⟨_, e, rfl, m, rfl⟩
    have e0 : h.get? h.objs.size = Option.none := get_none_of_ge (Nat.le_refl _)
    refine wpAny_pyIter_tuple hl ?_
    have k : ∀ b o, h.get? b = some o → (h.push { cls := .type "tuple_iterator", data := .fields #[.ref l, .int 0 0] }).get? b = some o := fun b o q => Heap.get?_push_of_some _ q
    have hne : l ≠ h.objs.size := fun q => by rw [q, e0] at e; cases e
    refine hQ _ _ t [h.objs.size, l] [h.objs.size] ⟨I1.grow k, g.trans (Go.of_keeps k), fun b hb q => (I.ambLt b q).1.not_none (?d b hb), ?d, fun b hb => ?_, fun b o q => I.top b o q⟩ ⟨_, _, _, _, 0, rfl, Walks.tuple hA.handled h.objs.size l hne vs.toArray, ⟨⟨_, Heap.get?_push_size _ rfl, rfl, rfl⟩, hl.push _⟩, by simp [rs.length], fun j h' st b hb => ?_, fun j h' st b hb T us m' q => ?_, fun j d hj v hv => ?_, fun j h' st => ?_⟩
    case d => intro b hb; simp only [List.mem_singleton] at hb; subst hb; exact g.dead e0
    · simp only [List.mem_cons, List.not_mem_nil, or_false] at hb
      rcases hb with rfl | rfl
      · exact fun q => (wr_live I1 q).not_none e0
      · exact fun q => na (.inr q)
    · simp only [List.mem_cons, List.not_mem_nil, or_false] at hb
      rcases hb with rfl | rfl
      · obtain ⟨⟨o, ho, _⟩, _⟩ := st; exact ⟨o, ho⟩
      · obtain ⟨_, o, ho, _⟩ := st; exact ⟨o, ho⟩
    · simp only [List.mem_singleton] at hb; subst hb
      obtain ⟨⟨o, ho, _, hd⟩, _⟩ := st
      rw [ho] at q; cases q; cases hd
    · obtain ⟨u, hu, ru⟩ := rs.get hj
      have : vs[0 + j]? = some v := by simpa using hv
      rw [Nat.zero_add, hu] at this; cases this
      exact Rel.kp (Kp.of_keeps k) _ _ ru
    · obtain ⟨⟨o, ho, hc, hd⟩, _⟩ := st; exact ⟨o, _, _, ho, hc, hd, by decide⟩
end
end Mine

end -- FI
section -- FJ
open PySem PySem.W PyProof.Rows PySem.Calls
set_option maxRecDepth 100000
namespace Mine
section
variable {G : GC} {n : Nat} {sc : Scope} {ρ ρ₁ ρ₂ ρ₃ : St}

theorem rangeSize_nat (m : Nat) : Builtin.Range.rangeSize 0 (m : Int) 1 = m := by
  unfold Builtin.Range.rangeSize
  (repeat' split) <;> lia
theorem range_small (m : Nat) (h : m ≤ 1000000) : Builtin.Range.small 0 (m : Int) 1 = true := by
  unfold Builtin.Range.small
  rw [rangeSize_nat]
  unfold Builtin.Range.rangeFitsLong
  simp only [Bool.and_eq_true, Bool.or_eq_true, decide_eq_true_eq, beq_iff_eq]
  refine ⟨⟨⟨⟨?_, ?_⟩, ?_⟩, ?_⟩, ?_⟩ <;> (first | lia | (right; split <;> simp only [Bool.and_eq_true, decide_eq_true_eq] <;> lia))

noncomputable def natsD (m : Nat) : List D := (List.range m).map fun (k : Nat) => .int (k : Int)

theorem EI.range (i : Nat) {e : Expr} {m : Nat} {p pos : Pos} (x : EE G n sc ρ e (.int m) ρ₁) (hi : sc.names[i]? = some (("range" : Str), .globalImplicit)) (hz : m ≤ 1000000) (hs : autoParam (∀ env, starEach [e] env = [(false, eval e env)]) byRflA) :
    EI G n sc ρ (.Call (.Name "range" p) [e] [] pos) (natsD m) ρ₁ :=
  fun env he A amb s Q E hA I hQ => by
    refine wpAny_Call_Name_kw (wpAny_builtinName he I hi (by decide) PyProof.Rows.boot_range ?_)
    show wpAny _ _ (callWith pos (.type "range") [] (backTo pos (starEach [e] env)) []) _ _ _
    rw [hs env]
    refine callWith_isB (.t _) rfl (evalArgs_plain (spliced_cons ?_))
    refine x env he A amb s _ E hA I fun v h t I1 g r => spliced_nil ?_
    obtain ⟨u, rfl⟩ := r
    refine call_range_1 ?_
    have e0 : h.get? h.objs.size = Option.none := get_none_of_ge (Nat.le_refl _)
    generalize hH : h.push { cls := .type "range", data := .fields #[.int 0 t, .int m u, .int 1 (t + 1)] } = H
    have k1 : ∀ b o, h.get? b = some o → H.get? b = some o := fun b o q => by rw [← hH]; exact Heap.get?_push_of_some _ q
    have hr : IsRange H h.objs.size 0 m 1 t u (t + 1) := by rw [← hH]; exact Heap.get?_push_size _ rfl
    refine wpAny_pyIter_range (s := { s with heap := H, toks := t + 1 + 1 }) hr (range_small m hz) ?_
    rw [rangeSize_nat]
    have e1 : H.get? H.objs.size = Option.none := get_none_of_ge (Nat.le_refl _)
    have k2 : ∀ b o, H.get? b = some o → (H.push { cls := .type "range_iterator", data := .fields #[rawInt 0, rawInt m, rawInt 1] }).get? b = some o := fun b o q => Heap.get?_push_of_some _ q
    have e2 : h.get? H.objs.size = Option.none := by
      cases q : h.get? H.objs.size with
      | none => rfl
      | some o => rw [k1 _ o q] at e1; cases e1
    refine hQ _ _ _ [H.objs.size] [H.objs.size] ⟨(I1.grow k1).grow k2, (g.trans (Go.of_keeps k1)).trans (Go.of_keeps k2), fun b hb q => (I.ambLt b q).1.not_none (?d b hb), ?d, fun b hb => ?_, fun b o q => I.top b o q⟩ ⟨_, _, _, _, 0, rfl, Walks.range hA.handled H.objs.size 0 1 m, (by simpa using Heap.get?_push_size H (o := { cls := .type "range_iterator", data := .fields #[rawInt 0, rawInt m, rawInt 1] }) rfl), by simp [natsD], fun j h' st b hb => ?_, fun j h' st b hb T us m' q => ?_, fun j d hj v hv => ?_, fun j h' st => ?_⟩
    case d => intro b hb; simp only [List.mem_singleton] at hb; subst hb; exact g.dead e2
    · simp only [List.mem_singleton] at hb; subst hb; exact fun q => (wr_live I1 q).not_none e2
    · simp only [List.mem_singleton] at hb; subst hb; exact ⟨_, st⟩
    · simp only [List.mem_singleton] at hb; subst hb
      rw [st] at q; cases q
    · obtain ⟨tk, rfl⟩ := hv
      have hjm : j < m := by
        have := (List.getElem?_eq_some_iff.mp hj).1
        simpa [natsD] using this
      have : d = .int (j : Int) := by
        unfold natsD at hj
        rw [List.getElem?_map, List.getElem?_range hjm] at hj
        exact (Option.some.inj hj).symm
      subst this
      exact ⟨tk, by simp⟩
    · exact ⟨_, _, _, st, rfl, rfl, by decide⟩

theorem EI.reversed (i : Nat) {e : Expr} {ds : List D} {p pos : Pos} (x : EE G n sc ρ e (.lst ds) ρ₁) (hi : sc.names[i]? = some (("reversed" : Str), .globalImplicit)) (hs : autoParam (∀ env, starEach [e] env = [(false, eval e env)]) byRflA) :
    EI G n sc ρ (.Call (.Name "reversed" p) [e] [] pos) ds.reverse ρ₁ :=
  fun env he A amb s Q E hA I hQ => by
    refine wpAny_Call_Name_kw (wpAny_builtinName he I hi (by decide) PyProof.Rows.boot_reversed ?_)
    show wpAny _ _ (callWith pos (.type "reversed") [] (backTo pos (starEach [e] env)) []) _ _ _
    rw [hs env]
    refine callWith_isB (.t _) rfl (evalArgs_plain (spliced_cons ?_))
    refine x env he A amb s _ E hA I fun v h t I1 g r => spliced_nil ?_
    obtain ⟨l, vs, m, rfl, e, na, rs⟩ := r
    have hl : h.IsList l vs.toArray := ⟨_, e, rfl, m, rfl⟩
    have e0 : h.get? h.objs.size = Option.none := get_none_of_ge (Nat.le_refl _)
    refine call_reversed_list hl ?_
    generalize hob : revObj l (((vs.toArray.size : Nat) : Int) - 1) = ob
    have k : ∀ b o, h.get? b = some o → (h.push ob).get? b = some o := fun b o q => Heap.get?_push_of_some _ q
    have hne : l ≠ h.objs.size := fun q => by rw [q, e0] at e; cases e
    have hit : Heap.IsRevIter (h.push ob) h.objs.size l (((vs.toArray.size : Nat) : Int) - 1) := by rw [← hob]; exact ⟨_, Heap.get?_push_size _ rfl, rfl, rfl⟩
    have W := Walks.listRev (prog := G.prog) (w := G.w) hA.handled h.objs.size l hne vs.toArray
    refine wpAny_pyIter_revIter hit ?_
    refine hQ _ _ t [h.objs.size, l] [h.objs.size] ⟨I1.grow k, g.trans (Go.of_keeps k), fun b hb q => (I.ambLt b q).1.not_none (?d b hb), ?d, fun b hb => ?_, fun b o q => I.top b o q⟩ ⟨_, _, _, _, 0, rfl, W, ⟨by simp, by simpa using hit, hl.push _⟩, by simp [rs.length], fun j h' st b hb => ?_, fun j h' st b hb T us m' q => ?_, fun j d hj v hv => ?_, fun j h' st => ?_⟩
    case d => intro b hb; simp only [List.mem_singleton] at hb; subst hb; exact g.dead e0
    · simp only [List.mem_cons, List.not_mem_nil, or_false] at hb
      rcases hb with rfl | rfl
      · exact fun q => (wr_live I1 q).not_none e0
      · exact fun q => na (.inr q)
    · simp only [List.mem_cons, List.not_mem_nil, or_false] at hb
      rcases hb with rfl | rfl
      · obtain ⟨_, ⟨o, ho, _⟩, _⟩ := st; exact ⟨o, ho⟩
      · obtain ⟨_, _, o, ho, _⟩ := st; exact ⟨o, ho⟩
    · simp only [List.mem_singleton] at hb; subst hb
      obtain ⟨_, ⟨o, ho, _, hd⟩, _⟩ := st
      rw [ho] at q; cases q; cases hd
    · obtain ⟨u, hu, ru⟩ := rs.reverse.get hj
      have hv' : vs.toArray[vs.toArray.size - 1 - (0 + j)]? = some v := hv
      have hlt : j < vs.length := by
        have := (List.getElem?_eq_some_iff.mp hu).1
        simpa using this
      rw [List.getElem?_reverse hlt] at hu
      have : vs.length - 1 - j = vs.toArray.size - 1 - (0 + j) := by simp
      rw [this] at hu
      have h2 : vs.toArray[vs.toArray.size - 1 - (0 + j)]? = vs[vs.toArray.size - 1 - (0 + j)]? := by simp
      rw [h2, hu] at hv'; cases hv'
      exact Rel.kp (Kp.of_keeps k) _ _ ru
    · obtain ⟨_, ⟨o, ho, hc, hd⟩, _⟩ := st; exact ⟨o, _, _, ho, hc, hd, by decide⟩
end
end Mine

end -- FJ
section -- FK
open PySem PySem.W PyProof.Rows PySem.Calls
set_option maxRecDepth 100000
namespace Mine
section
variable {G : GC} {n : Nat} {sc : Scope} {ρ ρ₁ ρ₂ ρ₃ : St}

structure EnOk (h : Heap) (M : AS) (e I l : Addr) (i : Nat) (ds : List D) : Prop where
  en : ∃ old, IsEnum h e I i old
  it : h.IsListIter I l i
  ls : ∃ vs m, h.get? l = some (seqObj "list" vs m) ∧ RelL h M ds (vs.drop i)
  ne : e ≠ I

theorem EnOk.go {h h' : Heap} {env : Env} {amb : AS} {e I l : Addr} {i : Nat} {ds : List D} (x : EnOk h (mu env amb ρ) e I l i ds) (g : Go h (wr env ρ) h' (wr env ρ₁)) (hf : ∀ b ∈ [e, I, l], b ∉ wr env ρ) :
    EnOk h' (mu env amb ρ₁) e I l i ds ∧ ∀ b ∈ [e, I, l], b ∉ wr env ρ₁ := by
  obtain ⟨⟨old, en⟩, it, ⟨vs, m, ls, r⟩, ne⟩ := x
  have he := g.keep e _ en (hf e (by simp))
  obtain ⟨o, ho, hc, hd⟩ := it
  have hI := g.keep I _ ho (hf I (by simp))
  have hl := g.keep l _ ls (hf l (by simp))
  refine ⟨⟨⟨old, he.1⟩, ⟨o, hI.1, hc, hd⟩, ⟨vs, m, hl.1, RelL.go r g⟩, ne⟩, fun b hb => ?_⟩
  simp only [List.mem_cons, List.not_mem_nil, or_false] at hb
  rcases hb with rfl | rfl | rfl
  · exact he.2
  · exact hI.2
  · exact hl.2

noncomputable def EFe (G : GC) (n : Nat) (sc : Scope) (ρ : St) (tgt : Expr) (body : List Stmt) (i : Nat) (ds : List D) (f : Fl) (ρ' : St) : Prop :=
  ∀ env, EnvOk sc env → ∀ A amb s R h₀ W₀ e I l, Room n A → Lp G env amb h₀ W₀ ρ s.heap [e, I, l] [e, I] → EnOk s.heap (mu env amb ρ) e I l i ds →
    (∀ fl h' t, Inv G env amb ρ' h' → Go h₀ W₀ h' (wr env ρ') → FlOk h' (mu env amb ρ') f fl → R (.ok fl) { s with heap := h', toks := t }) →
    codeAny (model G.prog G.w) A (.forLoop tgt (.ref e) body [] env) R s

theorem EnOk.notSeq {h : Heap} {M : AS} {e I l : Addr} {i : Nat} {ds : List D} (x : EnOk h M e I l i ds) : ∀ b ∈ [e, I], ∀ T vs n, h.get? b ≠ some (seqObj T vs n) := fun b hb T vs n q => by
  simp only [List.mem_cons, List.not_mem_nil, or_false] at hb
  rcases hb with rfl | rfl
  · obtain ⟨old, en⟩ := x.en
    rw [en] at q; cases q
  · obtain ⟨o, ho, _, hd⟩ := x.it
    rw [ho] at q; cases q; cases hd

theorem EFe.nil {tgt : Expr} {body : List Stmt} {i : Nat} : EFe G n sc ρ tgt body i [] .next ρ :=
  fun env he A amb s R h₀ W₀ e I l hA L x hQ => forTurn_unroll (by
    obtain ⟨old, en⟩ := x.en
    obtain ⟨vs, m, ls, r⟩ := x.ls
    have hl : s.heap.IsList l vs.toArray := ⟨_, ls, rfl, m, rfl⟩
    have hz : vs.drop i = [] := r
    refine wpAny_pyNext_enum_end hA.handled en x.it hl (by simpa using hz) fun h' eb => ?_
    have L' := L.stp (h' := h') (by simp) x.notSeq fun b o hb q => eb b o (fun t => hb (by simp [t])) q
    exact hQ .next h' s.toks L'.inv L'.go rfl)

theorem EFe.cons {y z : Str} {k1 k2 : NameKind} {p1 p2 p3 : Pos} {k : Nat} {body : List Stmt} {i : Nat} {d : D} {ds : List D} {f : Fl} (i1 i2 : Nat) (h1 : sc.names[i1]? = some (y, k1)) (c1 : k1 = .local ∨ k1 = .cell) (h2 : sc.names[i2]? = some (z, k2)) (c2 : k2 = .local ∨ k2 = .cell)
    (b : ES G n sc ((ρ.set i1 (.val (.int i))).set i2 (.val d)) body .next ρ₁) (r : EFe G n sc ρ₁ (.Tuple [.Name y p1, .Name z p2] k p3) body (i + 1) ds f ρ₂) :
    EFe G n sc ρ (.Tuple [.Name y p1, .Name z p2] k p3) body i (d :: ds) f ρ₂ :=
  fun env he A amb s R h₀ W₀ e I l hA L x hQ => forTurn_unroll (by
    obtain ⟨old, en⟩ := x.en
    obtain ⟨vs, m, ls, r'⟩ := x.ls
    have hl : s.heap.IsList l vs.toArray := ⟨_, ls, rfl, m, rfl⟩
    obtain ⟨v, vs', hvs, rv, rs⟩ := r'
    have hx : vs[i]? = some v := by
      have : (vs.drop i)[0]? = some v := by rw [hvs]; rfl
      simpa using this
    have hd : vs.drop (i + 1) = vs' := by
      rw [← List.drop_drop, hvs]; rfl
    refine wpAny_pyNext_enum_item en x.it hl (by simpa using hx) x.ne fun h1' en1 it1 tup1 sz1 kp1 => ?_
    have kk1 : ∀ b o, b ∉ [e, I] → s.heap.get? b = some o → h1'.get? b = some o := fun b o hb q => kp1 b o (fun t => hb (by simp [t])) (fun t => hb (by simp [t])) q
    have L1 := L.stp (h' := h1') (by simp) x.notSeq kk1
    have kq1 : Kp s.heap (mu env amb ρ) h1' (mu env amb ρ) := fun a T us n q mm => ⟨kk1 a _ (fun t => x.notSeq a t T us n q) q, mm⟩
    refine wpAny_letOwnedTupleGo_enum en1 fun h2' en2 sb2 => ?_
    have enS : ∀ T us n, h1'.get? e ≠ some (seqObj T us n) := fun T us n q => by rw [en1] at q; cases q
    have itS : ∀ T us n, h1'.get? I ≠ some (seqObj T us n) := fun T us n q => by obtain ⟨o, ho, _, hd⟩ := it1; rw [ho] at q; cases q; cases hd
    have ns1 : ∀ b ∈ [e, I], ∀ T us n, h1'.get? b ≠ some (seqObj T us n) := fun b hb => by
      simp only [List.mem_cons, List.not_mem_nil, or_false] at hb
      rcases hb with rfl | rfl
      · exact enS
      · exact itS
    have kk2 : ∀ b o, b ∉ [e, I] → h1'.get? b = some o → h2'.get? b = some o := fun b o hb q => sb2.extBut b o (fun t => hb (by simp [t])) q
    have L2 := L1.stp (h' := h2') (by simp) ns1 kk2
    have kq2 : Kp h1' (mu env amb ρ) h2' (mu env amb ρ) := fun a T us n q mm => ⟨kk2 a _ (fun t => ns1 a t T us n q) q, mm⟩
    have ha : s.heap.objs.size ≠ e := fun q => by have := Heap.lt_size en; rw [← q] at this; exact Nat.lt_irrefl _ this
    have haI : s.heap.objs.size ≠ I := fun q => by obtain ⟨o, ho, _⟩ := x.it; have := Heap.lt_size ho; rw [← q] at this; exact Nat.lt_irrefl _ this
    have tup2 : h2'.get? s.heap.objs.size = some (seqObj "tuple" [.int i s.toks, v] 0) := sb2.extBut _ _ ha tup1
    have ht : Heap.IsTuple h2' s.heap.objs.size #[.int i s.toks, v] := ⟨_, tup2, rfl, 0, rfl⟩
    refine wpAny_assign_Tuple hA.handled ht rfl rfl fun h3' eb => ?_
    have k3 : ∀ b o, h2'.get? b = some o → h3'.get? b = some o := fun b o q => eb b o (Nat.ne_of_lt (Heap.lt_size q)) q
    have L3 : Lp G env amb h₀ W₀ ρ h3' [e, I, l] [e, I] := L2.stp (by simp) (fun b hb T us n q => by
      simp only [List.mem_cons, List.not_mem_nil, or_false] at hb
      rcases hb with rfl | rfl
      · rw [en2] at q; cases q
      · obtain ⟨o, ho, _, hd⟩ := it1; rw [sb2.extBut _ _ (Ne.symm x.ne) ho] at q; cases q; cases hd) fun b o _ q => k3 b o q
    have kall : Kp s.heap (mu env amb ρ) h3' (mu env amb ρ) := fun a T us n q mm => ⟨k3 _ _ (kq2 a T us n (kq1 a T us n q mm).1 mm).1, mm⟩
    have rl3 : h3'.get? l = some (seqObj "list" vs m) := k3 _ _ (kk2 _ _ (fun t => x.notSeq l t _ _ _ ls) (kk1 _ _ (fun t => x.notSeq l t _ _ _ ls) ls))
    have x3 : EnOk h3' (mu env amb ρ) e I l (i + 1) ds := ⟨⟨v, k3 _ _ en2⟩, (by obtain ⟨o, ho, r⟩ := it1; exact ⟨o, k3 _ _ (sb2.extBut _ _ (Ne.symm x.ne) ho), r⟩), ⟨vs, m, rl3, by rw [hd]; exact RelL.kp kall _ _ rs⟩, x.ne⟩
    show wpAny _ _ (assignInOrder [PySem.assign (.Name y p1) env, PySem.assign (.Name z p2) env] [.int i s.toks, v]) _ _ _
    refine stores_run (l := [(y, .int i), (z, d)]) he (.name (.name .nil)) (.cons i1 k1 h1 c1 (.cons i2 k2 h2 c2 .nil)) L3.inv ⟨_, _, rfl, ⟨_, rfl⟩, _, _, rfl, Rel.kp kall _ _ rv, rfl⟩ fun h4 t4 I4 g4 => ?_
    obtain ⟨x4, off4⟩ := x3.go g4 L3.off
    refine b env he A amb _ _ _ hA I4 fun fl h5 t5 I5 g5 fo => ?_
    rw [show fl = .next from fo]
    obtain ⟨x5, off5⟩ := x4.go g5 off4
    exact r env he A amb _ R h₀ W₀ e I l hA ((L3.stored I4 g4 off4).stored I5 g5 off5) x5 fun fl' h6 t6 I6 g6 fo6 => hQ fl' h6 t6 I6 g6 fo6)

theorem ES1.for_enum (i : Nat) {tgt e : Expr} {body : List Stmt} {ds : List D} {f : Fl} {p pc pos : Pos} (x : EE G n sc ρ e (.lst ds) ρ₁) (hi : sc.names[i]? = some (("enumerate" : Str), .globalImplicit)) (y : EFe G n sc ρ₁ tgt body 0 ds f ρ₂)
    (hs : autoParam (∀ env, starEach [e] env = [(false, eval e env)]) byRflA) (hf : autoParam (∀ env x, foldedSetIterable (.Call (.Name "enumerate" p) [e] [] pc) env x = pure x) byRflB) : ES1 G n sc ρ (.For tgt (.Call (.Name "enumerate" p) [e] [] pc) body [] pos) f ρ₂ :=
  fun env he A amb s Q E hA I hQ => wpAny_For (by
    refine wpAny_Call_Name_kw (wpAny_builtinName he I hi (by decide) PyProof.Rows.boot_enumerate ?_)
    show wpAny _ _ (callWith pc (.type "enumerate") [] (backTo pc (starEach [e] env)) []) _ _ _
    rw [hs env]
    refine callWith_isB (.t _) rfl (evalArgs_plain (spliced_cons ?_))
    refine x env he A amb s _ E hA I fun v h t I1 g r => spliced_nil ?_
    obtain ⟨l, vs, m, rfl, e, na, rs⟩ := r
    refine call_enumerate_1 e fun h' en it sz k => ?_
    have e0 : h.get? h.objs.size = Option.none := get_none_of_ge (Nat.le_refl _)
    have e1 : h.get? (h.objs.size + 1) = Option.none := get_none_of_ge (Nat.le_succ _)
    refine wpAny_pyIter_enum en ?_
    refine y env he A amb _ _ s.heap (wr env ρ) (h.objs.size + 1) h.objs.size l hA ⟨I1.grow k, g.trans (Go.of_keeps k), fun b hb q => (I.ambLt b q).1.not_none (?d b hb), ?d, fun b hb => ?_, fun b o q => I.top b o q⟩ ⟨⟨_, en⟩, it, ⟨vs, m, k _ _ e, RelL.kp (Kp.of_keeps k) _ _ rs⟩, Nat.succ_ne_self _⟩ fun fl h' t' I' g' fo => hQ fl h' t' I' g' fo
    case d =>
      intro b hb
      simp only [List.mem_cons, List.not_mem_nil, or_false] at hb
      rcases hb with rfl | rfl
      · exact g.dead e1
      · exact g.dead e0
    · simp only [List.mem_cons, List.not_mem_nil, or_false] at hb
      rcases hb with rfl | rfl | rfl
      · exact fun q => (wr_live I1 q).not_none e1
      · exact fun q => (wr_live I1 q).not_none e0
      · exact fun q => na (.inr q)) (hf env)
end
end Mine

end -- FK
section -- FL
open PySem PySem.W PyProof.Rows PySem.Calls
set_option maxRecDepth 100000
namespace Mine

noncomputable def relS (sc scope : Scope) : Scope := { scope with names := scope.names.map fun (n, k) => if (k == .free && sc.kind == .function && sc.names.lookup n == some .cell) then (n, .cell) else (n, k) }
theorem relS_eq {sc scope : Scope} {env : Env} (h : env.scope = sc) : relabel scope env = relS sc scope := by
  subst h; rfl

noncomputable def capt (env : Env) : List (Str × NameKind) → List (Str × Addr) → List (Str × Addr)
  | [], acc => acc
  | (n, k) :: r, acc => if k == .free then capt env r ((n, (env.cells.lookup n).getD 0) :: acc) else capt env r acc

theorem closure_run {env : Env} (f : Str × NameKind → List (Str × Addr) → Sem (ForInStep (List (Str × Addr)))) (hf : ∀ n k cs, f (n, k) cs = if k == .free then (do let c ← cellOf env n; pure (.yield ((n, c) :: cs))) else pure (.yield cs)) :
    ∀ (names : List (Str × NameKind)) (acc : List (Str × Addr)), (∀ n, (n, NameKind.free) ∈ names → ∃ c, env.cells.lookup n = some c) → forIn names acc f = pure (capt env names acc)
  | [], acc, _ => rfl
  | (n, k) :: r, acc, h => by
    have hr : ∀ n, (n, NameKind.free) ∈ r → ∃ c, env.cells.lookup n = some c := fun n hn => h n (List.mem_cons_of_mem _ hn)
    rw [List.forIn_cons, hf]
    unfold capt
    by_cases hk : (k == NameKind.free) = true
    · rw [if_pos hk, if_pos hk]
      obtain rfl : k = .free := by simpa using hk
      obtain ⟨c, hc⟩ := h n List.mem_cons_self
      unfold cellOf
      rw [hc]
      exact closure_run f hf r _ hr
    · rw [if_neg hk, if_neg hk]
      exact closure_run f hf r _ hr
theorem closureFor_capt {scope : Scope} {env : Env} (h : ∀ n, (n, NameKind.free) ∈ scope.names → ∃ c, env.cells.lookup n = some c) : closureFor scope env = pure (capt env scope.names []) := by
  unfold closureFor
  simp only []
  rw [closure_run (env := env) _ (fun n k cs => by cases hk : (k == NameKind.free) <;> simp) scope.names [] h]
  rfl

theorem capt_mem {env : Env} : ∀ (names : List (Str × NameKind)) (acc : List (Str × Addr)) (x : Str) (c : Addr), (x, c) ∈ capt env names acc → (x, c) ∈ acc ∨ ((x, NameKind.free) ∈ names ∧ c = (env.cells.lookup x).getD 0)
  | [], acc, x, c, h => .inl h
  | (n, k) :: r, acc, x, c, h => by
    unfold capt at h
    split at h
    · rename_i hk
      obtain rfl : k = .free := by simpa using hk
      rcases capt_mem r _ x c h with h | ⟨h, e⟩
      · rcases List.mem_cons.mp h with e | h
        · cases e; exact .inr ⟨List.mem_cons_self, rfl⟩
        · exact .inl h
      · exact .inr ⟨List.mem_cons_of_mem _ h, e⟩
    · rcases capt_mem r _ x c h with h | ⟨h, e⟩
      · exact .inl h
      · exact .inr ⟨List.mem_cons_of_mem _ h, e⟩
theorem mem_capt {env : Env} : ∀ (names : List (Str × NameKind)) (acc : List (Str × Addr)) (x : Str), (x, NameKind.free) ∈ names ∨ (∃ c, (x, c) ∈ acc) → ∃ c, (x, c) ∈ capt env names acc
  | [], acc, x, h => h.elim (fun h => (nomatch h)) id
  | (n, k) :: r, acc, x, h => by
    unfold capt
    split
    · rename_i hk
      obtain rfl : k = .free := by simpa using hk
      refine mem_capt r _ x ?_
      rcases h with h | ⟨c, h⟩
      · rcases List.mem_cons.mp h with e | h
        · cases e; exact .inr ⟨_, List.mem_cons_self⟩
        · exact .inl h
      · exact .inr ⟨c, List.mem_cons_of_mem _ h⟩
    · rename_i hk
      refine mem_capt r _ x ?_
      rcases h with h | h
      · rcases List.mem_cons.mp h with e | h
        · cases e; exact absurd rfl hk
        · exact .inl h
      · exact .inr h
theorem capt_keys {env : Env} : ∀ (names : List (Str × NameKind)) (acc : List (Str × Addr)), (names.map (·.1)).Nodup → (∀ x ∈ acc, x.1 ∉ names.map (·.1)) → (acc.map (·.1)).Nodup → ((capt env names acc).map (·.1)).Nodup
  | [], _, _, _, h => h
  | (y, k) :: r, acc, nd, ha, hn => by
    simp only [List.map_cons, List.nodup_cons] at nd
    unfold capt
    split
    · refine capt_keys r _ nd.2 (fun x hx => ?_) ?_
      · rcases List.mem_cons.mp hx with rfl | hx
        · exact nd.1
        · exact fun q => ha x hx (List.mem_cons_of_mem _ q)
      · simp only [List.map_cons, List.nodup_cons]
        refine ⟨fun q => ?_, hn⟩
        obtain ⟨z, hz, hzy⟩ := List.mem_map.mp q
        exact ha z hz (by rw [hzy]; exact List.mem_cons_self)
    · exact capt_keys r acc nd.2 (fun x hx q => ha x hx (List.mem_cons_of_mem _ q)) hn

inductive Cap (sc scC : Scope) (ρ : St) : Nat → St → Prop
  | nil (j : Nat) : Cap sc scC ρ j []
  | skip {j : Nat} {r : St} (x : Cap sc scC ρ (j + 1) r) : Cap sc scC ρ j (.unset :: r)
  | take {j : Nat} {r : St} {y : Str} {d : D} (i : Nat) (h1 : scC.names[j]? = some (y, .cell)) (h2 : sc.names[i]? = some (y, .cell)) (h3 : ρ[i]? = some (.val d)) (x : Cap sc scC ρ (j + 1) r) : Cap sc scC ρ j (.val d :: r)

theorem Cap.get {sc scC : Scope} {ρ : St} : ∀ {r : St} {j : Nat}, Cap sc scC ρ j r → ∀ (k : Nat) (s : Slot), r[k]? = some s → s = .unset ∨ ∃ (y : Str) (i : Nat) (d : D), scC.names[j + k]? = some (y, NameKind.cell) ∧ sc.names[i]? = some (y, NameKind.cell) ∧ ρ[i]? = some (Slot.val d) ∧ s = Slot.val d
  | [], _, _, k, s, h => by simp at h
  | x :: r, j, c, 0, s, h => by
    cases c with
    | skip c => simp at h; exact .inl h.symm
    | take i h1 h2 h3 c => simp at h; exact .inr ⟨_, i, _, h1, h2, h3, h.symm⟩
  | x :: r, j, c, k + 1, s, h => by
    have h' : r[k]? = some s := by simpa using h
    have e : j + (k + 1) = j + 1 + k := by lia
    rw [e]
    cases c with
    | skip c => exact c.get k s h'
    | take i h1 h2 h3 c => exact c.get k s h'
theorem Cap.addr {sc scC : Scope} {ρ : St} : ∀ {r : St} {j : Nat}, Cap sc scC ρ j r → r.filterMap Slot.addr? = []
  | [], _, _ => rfl
  | x :: r, j, c => by
    cases c with
    | skip c => rw [List.filterMap_cons]; exact c.addr
    | take i h1 h2 h3 c => rw [List.filterMap_cons]; exact c.addr

section
variable {G : GC} {n : Nat} {sc scC : Scope} {ρ ρ₁ ρ₂ ρ₃ ρc ρc' ρd : St}

theorem Inv.updAmb {env : Env} {amb : AS} {h h' : Heap} {a : Addr} (I : Inv G env amb ρ h) (ha : amb a) (nw : a ∉ wr env ρ) (sb : Heap.SameBut a h h') (lv : Live h' a) : Inv G env amb ρ h' := by
  have kp : Kp h (mu env amb ρ) h' (mu env amb ρ) := fun b T vs n e m => ⟨(sb.2 b fun q => m (.inl (q ▸ ha))).trans e, m⟩
  have hL : env.locals ≠ a := fun q => nw (q ▸ List.mem_cons_self)
  have hC : ∀ x c, (x, c) ∈ env.cells → c ≠ a := fun x c hx q => nw (q ▸ List.mem_cons_of_mem _ (List.mem_append_left _ (List.mem_map.mpr ⟨(x, c), hx, rfl⟩)))
  have vg : ∀ z u, vget env h z u → vget env h' z u := fun z u g => by
    rcases g with ⟨e, m, hn, hm⟩ | ⟨e, c, hc, v⟩
    · exact .inl ⟨e, m, hn.sameBut sb hL, hm⟩
    · exact .inr ⟨e, c, hc, v.sameBut sb (hC z c (PySem.mem_of_lookup hc))⟩
  have lvs : ∀ b, Live h b → Live h' b := fun b l => by
    by_cases q : b = a
    · subst q; exact lv
    · obtain ⟨o, ho⟩ := l; exact ⟨o, (sb.2 b q).trans ho⟩
  refine ⟨I.gl, fun b o e => (sb.2 b fun q => ?_).trans (I.top b o e), fun b q => ⟨lvs b (I.ambLt b q).1, (I.ambLt b q).2⟩, fun b q => ⟨lvs b (I.fresh b q).1, (I.fresh b q).2⟩, I.nd, ?_, fun x c hx => ?_, fun i x kd s e1 e2 => ?_⟩
  · have := (I.ambLt a ha).2; rw [← q, e] at this; cases this
  · obtain ⟨m, hn⟩ := I.ns; exact ⟨m, hn.sameBut sb hL⟩
  · obtain ⟨v, hv⟩ := I.cells x c hx; exact ⟨v, hv.sameBut sb (hC x c hx)⟩
  · have o := I.vars i x kd s e1 e2
    cases s with
    | unset => trivial
    | val d => obtain ⟨v, g, r⟩ := o; exact ⟨v, vg _ _ g, Rel.kp kp d v r⟩
    | own b ds => obtain ⟨g, na, vs, m, e, r⟩ := o; exact ⟨vg _ _ g, na, vs, m, (sb.2 b fun q => na (q ▸ ha)).trans e, RelL.kp kp ds vs r⟩
    | dict hf b kvs => obtain ⟨g, na, r⟩ := o; exact ⟨vg _ _ g, na, r.kp kp fun o e => (sb.2 b fun q => na (q ▸ ha)).trans e⟩

noncomputable def K1 (h₀ : Heap) (X : List Addr) (h : Heap) (W : List Addr) : Prop := ∀ a o, h₀.get? a = some o → a ∉ X → h.get? a = some o ∧ a ∉ W
theorem K1.go {h₀ h h' : Heap} {X W W' : List Addr} (k : K1 h₀ X h W) (g : Go h W h' W') : K1 h₀ X h' W' := fun a o e m => let ⟨p, q⟩ := k a o e m; g.keep a o p q
theorem K1.stp {h₀ h h' : Heap} {X W wI : List Addr} (k : K1 h₀ X h W) (hx : ∀ b ∈ wI, b ∈ X) (s : ∀ b o, b ∉ wI → h.get? b = some o → h'.get? b = some o) : K1 h₀ X h' W := fun a o e m => let ⟨p, q⟩ := k a o e m; ⟨s a o (fun t => m (hx a t)) p, q⟩
theorem K1.upd {h₀ h h' : Heap} {X W : List Addr} {c : Addr} (k : K1 h₀ X h W) (hx : c ∈ X) (s : Heap.SameBut c h h') : K1 h₀ X h' W := fun a o e m => let ⟨p, q⟩ := k a o e m; ⟨(s.2 a fun t => m (t ▸ hx)).trans p, q⟩

noncomputable def ECo (G : GC) (n : Nat) (scC : Scope) (ρc : St) (tgt iter : Expr) (ifs : List Expr) (elt : Expr) (scope : Scope) (pos : Pos) (ds out : List D) (ρc' : St) : Prop :=
  ∀ env, EnvOk scC env → ∀ A amb s R it h₀ W₀ fp wI acc vs m ds0 hB X, Room n A → (∀ b ∈ wI, b ∈ X) → acc ∈ X → K1 hB X s.heap (wr env ρc) → Lp G env amb h₀ W₀ ρc s.heap fp wI → ItOk G A s.heap (mu env amb ρc) it fp wI ds → amb acc → acc ∉ wr env ρc → acc ∉ fp → h₀.get? acc = Option.none →
    s.heap.get? acc = some (seqObj "list" vs m) → RelL s.heap (mu env amb ρc) ds0 vs → ds0.length + ds.length ≤ 1000000 →
    (∀ h' t vs' m', K1 hB X h' (wr env ρc') → Inv G env amb ρc' h' → Go h₀ W₀ h' (wr env ρc') → h'.get? acc = some (seqObj "list" vs' m') → RelL h' (mu env amb ρc') (ds0 ++ out) vs' → R (.ok .next) { s with heap := h', toks := t }) →
    codeAny (model G.prog G.w) A (.compLoop (.ListComp elt [⟨tgt, iter, ifs, 0⟩] scope pos) 0 it (.ref acc) env) R s

theorem comp_unroll {A : Around} {R : Result → Shared → Prop} {elt tgt iter : Expr} {ifs : List Expr} {scope : Scope} {pos : Pos} {it acc : Value} {env : Env} {s : Shared}
    (h : wpAny (model G.prog G.w) A (pyNext it) (fun r s₁ => match r with
      | Option.none => R (.ok .next) s₁
      | some v => wpAny (model G.prog G.w) A (letOwnedTupleGo tgt it v) (fun _ s₁' => wpAny (model G.prog G.w) A (assign tgt env v) (fun _ s₂ =>
          wpAny (model G.prog G.w) A (forIn ifs true fun c r => if r = true then do let ok ← isTrue c env (eval c env); pure (ForInStep.yield ok) else pure (ForInStep.yield r)) (fun ok s₃ =>
            if ok = true then wpAny (model G.prog G.w) A (eval elt env) (fun x s₄ => wpAny (model G.prog G.w) A (PySem.call (.builtin "list.append") [acc, x]) (fun _ s₅ => codeAny (model G.prog G.w) A (.compLoop (.ListComp elt [⟨tgt, iter, ifs, 0⟩] scope pos) 0 it acc env) R s₅)
                (notedBy (model G.prog G.w) A env fun e s' => R (.error e) s') s₄) (notedBy (model G.prog G.w) A env fun e s' => R (.error e) s') s₃
            else codeAny (model G.prog G.w) A (.compLoop (.ListComp elt [⟨tgt, iter, ifs, 0⟩] scope pos) 0 it acc env) R s₃) (notedBy (model G.prog G.w) A env fun e s' => R (.error e) s') s₂)
          (notedBy (model G.prog G.w) A env fun e s' => R (.error e) s') s₁') (notedBy (model G.prog G.w) A env fun e s' => R (.error e) s') s₁) (notedBy (model G.prog G.w) A env fun e s' => R (.error e) s') s) :
    codeAny (model G.prog G.w) A (.compLoop (.ListComp elt [⟨tgt, iter, ifs, 0⟩] scope pos) 0 it acc env) R s := by
  refine codeAny_of_tree ?_
  show wpAny _ A ((compTurn (.ListComp elt [⟨tgt, iter, ifs, 0⟩] scope pos) 0 it acc env).onRaise (fun x => do noteFrame x env; theTreesLotGoes x)) _ _ s
  refine wpAny_noted ?_
  rw [compTurn_list]
  refine wpAny_bind (wpAny_standAt (wpAny_bind (wpAny_mono h (fun r s₁ h₁ => ?_) fun _ _ h' => h')))
  cases r with
  | none => exact wpAny_pure h₁
  | some v =>
    refine wpAny_bind (wpAny_mono h₁ (fun _ s₁' h₁' => wpAny_bind (wpAny_mono h₁' (fun _ s₂ h₂ => ?_) fun _ _ h' => h')) fun _ _ h' => h')
    refine wpAny_bind (wpAny_mono h₂ (fun ok s₃ h₃ => ?_) fun _ _ h' => h')
    cases ok with
    | true =>
      simp only [if_true] at h₃ ⊢
      exact wpAny_bind (wpAny_bind (wpAny_mono h₃ (fun x s₄ h₄ => wpAny_bind (wpAny_mono h₄ (fun _ s₅ h₅ => wpAny_pure (wpAny_pure ⟨rfl, h₅⟩)) fun _ _ h' => h')) fun _ _ h' => h'))
    | false =>
      simp only [Bool.false_eq_true, if_false] at h₃ ⊢
      exact wpAny_bind (wpAny_pure (wpAny_pure ⟨rfl, h₃⟩))

theorem ECo.nil {tgt iter elt : Expr} {ifs : List Expr} {scope : Scope} {pos : Pos} : ECo G n scC ρc tgt iter ifs elt scope pos [] [] ρc :=
  fun env he A amb s R it h₀ W₀ fp wI acc vs m ds0 hB X hA hX hX2 kx L x ha nw nf d0 e r hz hQ => comp_unroll (by
    obtain ⟨I, n', P, S, i, rfl, W, st, hn, l1, l2, r', hm⟩ := x
    simp only [List.length_nil, Nat.add_zero] at hn
    subst hn
    refine W.done s _ _ st fun h' t k => ?_
    have L' := L.stp W.sub (l2 i _ st) k
    have hacc : acc ∉ wI := fun q => L.ambOff acc q ha
    exact hQ h' t vs m (kx.stp hX k) L'.inv L'.go (k acc _ hacc e) (by rw [List.append_nil]; exact RelL.kp (fun a T us n q mm => ⟨k a _ (fun t => l2 i _ st a t T us n q) q, mm⟩) _ _ r))

theorem Go.upd {h₀ h h' : Heap} {W₀ W : List Addr} {a : Addr} (g : Go h₀ W₀ h W) (e0 : h₀.get? a = Option.none) (sb : Heap.SameBut a h h') : Go h₀ W₀ h' W :=
  ⟨fun b o e m => let ⟨p, q⟩ := g.keep b o e m; ⟨(sb.2 b fun t => by subst t; rw [e0] at e; cases e).trans p, q⟩, fun b l => by
    have hb : b ≠ a := fun t => l.not_none (t ▸ e0)
    obtain ⟨o, ho⟩ := g.live b l
    exact ⟨o, (sb.2 b hb).trans ho⟩⟩

theorem ItOk.upd {A : Around} {env : Env} {amb : AS} {h h' : Heap} {it : Value} {fp wI : List Addr} {ds : List D} {a : Addr} (x : ItOk G A h (mu env amb ρ) it fp wI ds) (ha : amb a) (nf : a ∉ fp) (sb : Heap.SameBut a h h') : ItOk G A h' (mu env amb ρ) it fp wI ds := by
  obtain ⟨I, n', P, S, i, rfl, W, st, hn, l1, l2, r, hm⟩ := x
  exact ⟨I, n', P, S, i, rfl, W, W.frame i h h' st fun b hb o q => (sb.2 b fun t => nf (t ▸ hb)).trans q, hn, l1, l2, fun k d hk v hv => Rel.kp (fun b T us n q mm => ⟨(sb.2 b fun t => mm (.inl (t ▸ ha))).trans q, mm⟩) _ _ (r k d hk v hv), hm⟩

theorem ECo.cons {y : Str} {p : Pos} {k : NameKind} {iter elt : Expr} {ifs : List Expr} {scope : Scope} {pos : Pos} {d e : D} {ds out : List D} (i : Nat) (hi : scC.names[i]? = some (y, k)) (hk : k = .local ∨ k = .cell)
    (t : ifs = [] ∧ ρc' = ρc.set i (.val d) ∨ ∃ c, ifs = [c] ∧ ET G n scC (ρc.set i (.val d)) c true ρc') (b : EE G n scC ρc' elt e ρd) (r : ECo G n scC ρd (.Name y p) iter ifs elt scope pos ds out ρ₃) :
    ECo G n scC ρc (.Name y p) iter ifs elt scope pos (d :: ds) (e :: out) ρ₃ :=
  fun env he A amb s R it h₀ W₀ fp wI acc vs m ds0 hB X hA hX hX2 kx L x ha nw nf d0 ea ra hz hQ => comp_unroll (by
    have hacc : acc ∉ wI := fun q => L.ambOff acc q ha
    refine next_item' L x fun v h1 t1 L1 x1 k1 kp1 rv => ?_
    show wpAny _ _ (pure ()) _ _ _
    refine wpAny_pure (wpAny_assign_Name (store_val he L1.inv hi hk rv fun h2 t2 I2 g2 => ?_))
    obtain ⟨x2, off2⟩ := x1.go g2 L1.off
    have L2 := L1.stored I2 g2 off2
    have fin : ∀ h3 t3, Inv G env amb ρc' h3 → Go h2 (wr env (ρc.set i (.val d))) h3 (wr env ρc') → wpAny (model G.prog G.w) A (eval elt env) (fun x s₄ => wpAny (model G.prog G.w) A (PySem.call (.builtin "list.append") [.ref acc, x]) (fun _ s₅ => codeAny (model G.prog G.w) A (.compLoop (.ListComp elt [⟨.Name y p, iter, ifs, 0⟩] scope pos) 0 it (.ref acc) env) R s₅)
                (notedBy (model G.prog G.w) A env fun e s' => R (.error e) s') s₄) (notedBy (model G.prog G.w) A env fun e s' => R (.error e) s') { s with heap := h3, toks := t3 } := fun h3 t3 I3 g3 => by
      obtain ⟨x3, off3⟩ := x2.go g3 off2
      have L3 := L2.stored I3 g3 off3
      refine b env he A amb _ _ _ hA I3 fun v4 h4 t4 I4 g4 r4 => ?_
      obtain ⟨x4, off4⟩ := x3.go g4 off3
      have L4 := L3.stored I4 g4 off4
      have gall : Go h1 (wr env ρc) h4 (wr env ρd) := (g2.trans g3).trans g4
      have ea1 : h1.get? acc = some (seqObj "list" vs m) := k1 acc _ hacc ea
      obtain ⟨ea4, nw4⟩ := gall.keep acc _ ea1 nw
      have ra4 : RelL h4 (mu env amb ρd) ds0 vs := RelL.kp (Go.kp gall) _ _ (RelL.kp kp1 _ _ ra)
      refine wpAny_list_append_plain (items := vs.toArray) ⟨m, ea4⟩ (fun h5 pl5 sb5 => ?_) (by simp only [List.size_toArray]; rw [ra4.length]; exact sizeLine_ge (by lia))
      obtain ⟨m5, e5⟩ := pl5
      have e5' : h5.get? acc = some (seqObj "list" (vs ++ [v4]) m5) := by rw [e5]; simp
      have I5 := I4.updAmb ha nw4 sb5 ⟨_, e5⟩
      have kp5 : Kp h4 (mu env amb ρd) h5 (mu env amb ρd) := fun b T us n q mm => ⟨(sb5.2 b fun t => mm (.inl (t ▸ ha))).trans q, mm⟩
      refine r env he A amb _ R it h₀ W₀ fp wI acc (vs ++ [v4]) m5 (ds0 ++ [e]) hB X hA hX hX2 (((kx.stp hX k1).go gall).upd hX2 sb5) ⟨I5, L4.go.upd d0 sb5, L4.ambOff, L4.new, off4, L4.top0⟩ (x4.upd ha nf sb5) ha nw4 nf d0 e5' ((RelL.kp kp5 _ _ ra4).append ⟨v4, [], rfl, Rel.kp kp5 _ _ r4, rfl⟩) (by simp only [List.length_append, List.length_cons, List.length_nil] at hz ⊢; lia) fun h6 t6 vs6 m6 k6 I6 g6 e6 r6 => ?_
      exact hQ h6 t6 vs6 m6 k6 I6 g6 e6 (by simpa using r6)
    rcases t with ⟨rfl, rfl⟩ | ⟨c, rfl, tc⟩
    · rw [List.forIn_nil]
      refine wpAny_pure ?_
      rw [if_pos rfl]
      exact fin h2 t2 I2 (Go.refl ..)
    · rw [List.forIn_cons]
      simp only [if_true]
      refine wpAny_bind (wpAny_bind (tc env he A amb _ _ _ hA I2 fun h3 t3 I3 g3 => ?_))
      refine wpAny_pure ?_
      dsimp only
      rw [List.forIn_nil]
      refine wpAny_pure ?_
      rw [if_pos rfl]
      exact fin h3 t3 I3 g3)

theorem ECo.skip {y : Str} {p : Pos} {k : NameKind} {iter elt c : Expr} {scope : Scope} {pos : Pos} {d : D} {ds out : List D} (i : Nat) (hi : scC.names[i]? = some (y, k)) (hk : k = .local ∨ k = .cell)
    (tc : ET G n scC (ρc.set i (.val d)) c false ρc') (r : ECo G n scC ρc' (.Name y p) iter [c] elt scope pos ds out ρ₃) :
    ECo G n scC ρc (.Name y p) iter [c] elt scope pos (d :: ds) out ρ₃ :=
  fun env he A amb s R it h₀ W₀ fp wI acc vs m ds0 hB X hA hX hX2 kx L x ha nw nf d0 ea ra hz hQ => comp_unroll (by
    have hacc : acc ∉ wI := fun q => L.ambOff acc q ha
    refine next_item' L x fun v h1 t1 L1 x1 k1 kp1 rv => ?_
    show wpAny _ _ (pure ()) _ _ _
    refine wpAny_pure (wpAny_assign_Name (store_val he L1.inv hi hk rv fun h2 t2 I2 g2 => ?_))
    obtain ⟨x2, off2⟩ := x1.go g2 L1.off
    have L2 := L1.stored I2 g2 off2
    rw [List.forIn_cons]
    simp only [if_true]
    refine wpAny_bind (wpAny_bind (tc env he A amb _ _ _ hA I2 fun h3 t3 I3 g3 => ?_))
    refine wpAny_pure ?_
    dsimp only
    rw [List.forIn_nil]
    refine wpAny_pure ?_
    rw [if_neg Bool.false_ne_true]
    obtain ⟨x3, off3⟩ := x2.go g3 off2
    have gall : Go h1 (wr env ρc) h3 (wr env ρc') := g2.trans g3
    obtain ⟨ea3, nw3⟩ := gall.keep acc _ (k1 acc _ hacc ea) nw
    exact r env he A amb _ R it h₀ W₀ fp wI acc vs m ds0 hB X hA hX hX2 ((kx.stp hX k1).go gall) (L2.stored I3 g3 off3) x3 ha nw3 nf d0 ea3 (RelL.kp (Go.kp gall) _ _ (RelL.kp kp1 _ _ ra)) (by simp only [List.length_cons] at hz; lia) hQ)
end
end Mine

end -- FL
section -- FM
open PySem PySem.W PyProof.Rows PySem.Calls
set_option maxRecDepth 100000
namespace Mine

section
variable {G : GC} {n : Nat} {sc : Scope} {ρ ρ₁ ρ₂ ρ₃ ρc ρc' : St}

theorem relS_mem {sc scope : Scope} {j : Nat} {y : Str} (hc : ∀ z ∈ scope.names, z.2 ≠ .cell) (h : (relS sc scope).names[j]? = some (y, .cell)) : (y, NameKind.free) ∈ scope.names := by
  unfold relS at h
  rw [List.getElem?_map] at h
  obtain ⟨⟨z, k⟩, hz, e⟩ := Option.map_eq_some_iff.mp h
  have hm := List.mem_of_getElem? hz
  dsimp only at e
  split at e
  · rename_i q
    cases e
    simp only [Bool.and_eq_true] at q
    obtain rfl : k = .free := by simpa using q.1.1
    exact hm
  · cases e; exact absurd rfl (hc _ hm)
theorem mem_relS {sc scope : Scope} {y : Str} (fn : sc.kind = .function) (hf : sc.names.lookup y = some .cell) (h : (y, NameKind.free) ∈ scope.names) : ∃ j : Nat, (relS sc scope).names[j]? = some (y, .cell) := by
  obtain ⟨j, hj⟩ := List.mem_iff_getElem?.mp h
  refine ⟨j, ?_⟩
  unfold relS
  rw [List.getElem?_map, hj]
  simp [fn, hf]

theorem mem_of_find {l : List (Str × NameKind)} {y : Str} (h : l.lookup y = some .cell) : ∃ j : Nat, l[j]? = some (y, .cell) := List.mem_iff_getElem?.mp (PySem.mem_of_lookup h)
noncomputable def ECa (G : GC) (scC : Scope) (ρc : St) (code : Shared → Addr → Env → (Result → Shared → Prop) → Prop) (Φ : Heap → AS → Prop) (fp wI : List Addr) (len : Nat) (out : List D) (ρc' : St) : Prop :=
  ∀ env, EnvOk scC env → ∀ amb s R h₀ W₀ acc vs m ds0 hB X, (∀ b ∈ wI, b ∈ X) → acc ∈ X → K1 hB X s.heap (wr env ρc) → Lp G env amb h₀ W₀ ρc s.heap fp wI → Φ s.heap (mu env amb ρc) → amb acc → acc ∉ wr env ρc → acc ∉ fp → h₀.get? acc = Option.none →
    s.heap.get? acc = some (seqObj "list" vs m) → RelL s.heap (mu env amb ρc) ds0 vs → ds0.length + len ≤ 1000000 →
    (∀ h' t vs' m', K1 hB X h' (wr env ρc') → Inv G env amb ρc' h' → Go h₀ W₀ h' (wr env ρc') → h'.get? acc = some (seqObj "list" vs' m') → RelL h' (mu env amb ρc') (ds0 ++ out) vs' → R (.ok .next) { s with heap := h', toks := t }) →
    code s acc env R

theorem ItOk.glue {A : Around} {h1 : Heap} {M : AS} {it : Value} {fp wI : List Addr} {ds : List D} (x : ItOk G A h1 M it fp wI ds) : (∀ b ∈ fp, Live h1 b) ∧ (∀ b ∈ wI, b ∈ fp) ∧ (∀ b ∈ wI, ∀ T vs n, h1.get? b ≠ some (seqObj T vs n)) ∧
    (∀ h' M', (∀ b o, h1.get? b = some o → h'.get? b = some o) → Kp h1 M h' M' → ItOk G A h' M' it fp wI ds) ∧
    ∀ (s' : Shared) Q' E', (∀ b o, h1.get? b = some o → s'.heap.get? b = some o) → Q' it s' → wpAny (model G.prog G.w) A (pyIter it) Q' E' s' := by
  obtain ⟨II, nn, PP, SS, ii, rfl, WW, st, hn, l1, l2, rr, hm0⟩ := x
  exact ⟨fun b hb => l1 _ _ st b hb, WW.sub, fun b hb => l2 _ _ st b hb, fun h' M' old kpC => ⟨II, nn, PP, SS, ii, rfl, WW, WW.frame ii _ _ st fun b _ o e => old b o e, hn, l1, l2, fun k d hk v hv => Rel.kp kpC _ _ (rr k d hk v hv), hm0⟩,
    fun s' Q' E' old hl => WW.self _ _ _ _ (WW.frame ii _ _ st fun b _ o e => old b o e) hl⟩

theorem comp_coreU {env : Env} (he : EnvOk sc env) {scope : Scope} {iter elt tgt : Expr} {ifs : List Expr} {pos : Pos} {ds out : List D} (okC : ScOk (relS sc scope)) (nameS : (scope.names.map (·.1)).Nodup) (fnS : scope.kind = .function) (hcell : ∀ z ∈ scope.names, z.2 ≠ .cell) (hfree : ∀ z ∈ scope.names, z.2 = .free → sc.names.lookup z.1 = some .cell)
    {A : Around} {amb : AS} {s0 : Shared} {h1 : Heap} {t1 : Nat} {it : Value} {fp wI : List Addr} {E : Value → Shared → Prop} {RR : Value → Addr → Result → Shared → Prop} (L : Lp G env amb s0.heap (wr env ρ) ρ₁ h1 fp wI) {Φ : Heap → AS → Prop} (x : Φ h1 (mu env amb ρ₁)) (wIlive : ∀ b ∈ fp, Live h1 b) (hsub : ∀ b ∈ wI, b ∈ fp) (hns : ∀ b ∈ wI, ∀ T vs n, h1.get? b ≠ some (seqObj T vs n))
    (hgrow : ∀ h' M', (∀ b o, h1.get? b = some o → h'.get? b = some o) → Kp h1 (mu env amb ρ₁) h' M' → Φ h' M')
    (hself : ∀ (s' : Shared) Q' E', (∀ b o, h1.get? b = some o → s'.heap.get? b = some o) → Q' it s' → wpAny (model G.prog G.w) A (pyIter it) Q' E' s')
    {aos : List Addr} {ρ' : St} (cin : ∀ (j : Nat) sl, ρc[j]? = some sl → sl = .unset ∨ ∃ (y : Str) (i : Nat), (relS sc scope).names[j]? = some (y, NameKind.cell) ∧ sc.names[i]? = some (y, NameKind.cell) ∧ ρ₁[i]? = some sl ∧ ∀ hf a kvs, sl ≠ .dict hf a kvs)
    (ca : ρc.filterMap Slot.addr? = aos) (aS : ∀ a ∈ aos, a ∈ ρ₁.filterMap Slot.addr?) (aNd : aos.Nodup) (fmE : ρ'.filterMap Slot.addr? = ρ₁.filterMap Slot.addr?) (aC' : ∀ a ∈ aos, a ∈ ρc'.filterMap Slot.addr?)
    (fin : ∀ (i : Nat) z k sl, sc.names[i]? = some (z, k) → ρ'[i]? = some sl → (ρ₁[i]? = some sl ∧ (z, NameKind.free) ∉ scope.names ∧ ∀ a, sl.addr? = some a → a ∉ aos) ∨
      (k = .cell ∧ ∃ j : Nat, (relS sc scope).names[j]? = some (z, .cell) ∧ ρc'[j]? = some sl ∧ ∃ sl0, ρ₁[i]? = some sl0 ∧ (∀ hf a kvs, sl ≠ .dict hf a kvs) ∧ ∀ a ds, sl = .own a ds → ∃ os, sl0 = .own a os))
    (t : ECa G (relS sc scope) ρc (fun s acc cenv R => codeAny (model G.prog G.w) A (.compLoop (.ListComp elt [⟨tgt, iter, ifs, 0⟩] scope pos) 0 it (.ref acc) cenv) R s) Φ fp wI ds.length out ρc') (hz : ds.length ≤ 1000000)
    (hQ : ∀ acc C vs m h' t, Inv G env (addA amb acc) ρ' h' → Go s0.heap (wr env ρ) h' (wr env ρ') → s0.heap.get? acc = none → ¬ amb acc → acc ∉ wr env ρ' → h'.get? acc = some (seqObj "list" vs m) → RelL h' (mu env (addA amb acc) ρ') out vs →
      (∃ m, h'.Ns C m) → C ∉ wr env ρ' → ¬ addA amb acc C → G.h.get? C = none → s0.heap.get? C = none → RR (.ref acc) C (.ok .next) { s0 with heap := h', toks := t }) :
    wpAny (model G.prog G.w) A (newList []) (fun acc s₃ => wpAny (model G.prog G.w) A (newFunctionEnv scope env.globals (capt env scope.names []) [] env.qual none .none (some env)) (fun cenv s₄ =>
      codeAny (model G.prog G.w) A (.compStart (.ListComp elt [⟨tgt, iter, ifs, 0⟩] scope pos) 0 it acc { cenv with scope := relabel scope env }) (RR acc cenv.locals) s₄) E s₃) E { s0 with heap := h1, toks := t1 } := by
  have hlook : ∀ z, (z, NameKind.free) ∈ scope.names → ∃ c, env.cells.lookup z = some c := fun z hz => he.cl z (by unfold Env.kindOf; rw [he.is]; exact hfree _ hz rfl)
  generalize hcl : capt env scope.names [] = cl
  have clSub : ∀ z c, (z, c) ∈ cl → (z, NameKind.free) ∈ scope.names ∧ env.cells.lookup z = some c := fun z c hm => by
    rw [← hcl] at hm
    rcases capt_mem _ _ _ _ hm with h | ⟨h, e⟩
    · cases h
    · obtain ⟨c', hc'⟩ := hlook z h
      rw [hc'] at e
      exact ⟨h, by rw [hc', e]; rfl⟩
  have clMem : ∀ z, (z, NameKind.free) ∈ scope.names → ∃ c, (z, c) ∈ cl := fun z hm => by rw [← hcl]; exact mem_capt _ _ _ (.inl hm)
  have clNd : (cl.map (·.1)).Nodup := by rw [← hcl]; exact capt_keys _ _ nameS (fun _ h => (nomatch h)) List.nodup_nil
  have envNd := (wr_apart L.inv.nd).2.1
  have hsc : relabel scope env = relS sc scope := relS_eq he.is
  refine wpAny_newObj_type (wpAny_newFunctionEnv hcell (by intro y hy; simp at hy) (fun h₁ hns₁ hsb₁ => ?_) fnS)
  dsimp only at hns₁ hsb₁ ⊢
  generalize hH2 : h1.push { cls := .type "list", dict := none, data := .seq ([] : List Value).toArray } = H2 at hns₁ hsb₁ ⊢
  have hC : H2.objs.size = h1.objs.size + 1 := by rw [← hH2, Heap.size_push]
  have hDC : h1.objs.size ≠ H2.objs.size := by rw [hC]; exact Nat.ne_of_lt (Nat.lt_succ_self _)
  have below : ∀ b, Live h1 b → b ≠ H2.objs.size ∧ b ≠ h1.objs.size := fun b hb => ⟨by rw [hC]; exact Nat.ne_of_lt (Nat.lt_succ_of_lt hb.lt), Nat.ne_of_lt hb.lt⟩
  have old : ∀ b o, h1.get? b = some o → h₁.get? b = some o := fun b o e => hsb₁.extBut b o (below b ⟨o, e⟩).1 (Heap.get?_push_of_some _ (hH2 ▸ Heap.get?_push_of_some _ e))
  have hacc : h₁.get? h1.objs.size = some (seqObj "list" [] 0) := hsb₁.extBut _ _ hDC (Heap.get?_push_of_some _ (hH2 ▸ Heap.get?_push_size _ rfl))
  have e0 : h1.get? h1.objs.size = Option.none := get_none_of_ge (Nat.le_refl _)
  have eC : h1.get? H2.objs.size = Option.none := get_none_of_ge (by rw [hC]; exact Nat.le_succ _)
  generalize hacn : h1.objs.size = acc at *
  generalize hCn : H2.objs.size = C at *
  have wIoff : ∀ b ∈ wI, b ∉ wr env ρ₁ := fun b hb => L.off b (hsub b hb)
  -- the comprehension's frame
  generalize hce : compEnvC scope cl C env = cenv
  have hcL : cenv.locals = C := by rw [← hce]; rfl
  have hcC : cenv.cells = cl := by rw [← hce]; rfl
  have hcS : cenv.scope = relS sc scope := by rw [← hce]; exact hsc
  have heC : EnvOk (relS sc scope) cenv := ⟨hcS, by rw [← hce]; exact he.gl, by rw [← hce]; exact he.bi, okC, fun y hy => by
    unfold Env.kindOf at hy
    rw [hcS] at hy
    obtain ⟨j, hj⟩ := mem_of_find hy
    obtain ⟨c, hc⟩ := clMem y (relS_mem hcell hj)
    exact ⟨c, by rw [hcC]; exact lookup_of_mem clNd hc⟩⟩
  have caSub : ∀ c, c ∈ cl.map (·.2) → c ∈ wr env ρ₁ := fun c hc => by
    obtain ⟨⟨z, c'⟩, hm, rfl⟩ := List.mem_map.mp hc
    exact List.mem_cons_of_mem _ (List.mem_append_left _ (List.mem_map.mpr ⟨_, PySem.mem_of_lookup (clSub _ _ hm).2, rfl⟩))
  have aoW : ∀ a ∈ aos, a ∈ wr env ρ₁ := fun a h => List.mem_cons_of_mem _ (List.mem_append_right _ (aS a h))
  have wE : wr env ρ' = wr env ρ₁ := by unfold wr; rw [fmE]
  have mE : ∀ am, mu env am ρ' = mu env am ρ₁ := fun am => by unfold mu; rw [wE]
  generalize hW1 : cl.map (·.2) ++ aos = W1
  have W1Sub : ∀ c, c ∈ W1 → c ∈ wr env ρ₁ := fun c hc => by
    rw [← hW1] at hc
    rcases List.mem_append.mp hc with hc | hc
    · exact caSub c hc
    · exact aoW c hc
  have W1cl : ∀ c, c ∈ cl.map (·.2) → c ∈ W1 := fun c hc => by rw [← hW1]; exact List.mem_append_left _ hc
  have W1a : ∀ a ∈ aos, a ∈ W1 := fun a h => by rw [← hW1]; exact List.mem_append_right _ h
  let ambC : AS := fun a => (mu env amb ρ₁ a ∧ a ∉ W1) ∨ a = acc
  have wrC : wr cenv ρc = C :: W1 := by unfold wr; rw [ca, hcL, hcC, hW1]
  have muC : ∀ a, mu cenv ambC ρc a → mu env amb ρ₁ a ∨ a = acc ∨ a = C := fun a q => by
    rcases q with (⟨q, _⟩ | q) | q
    · exact .inl q
    · exact .inr (.inl q)
    · rw [wrC] at q
      rcases List.mem_cons.mp q with q | q
      · exact .inr (.inr q)
      · exact .inl (.inr (W1Sub a q))
  have kpC : Kp h1 (mu env amb ρ₁) h₁ (mu cenv ambC ρc) := fun a T us n q mm => ⟨old _ _ q, fun w => by
    rcases muC a w with w | w | w
    · exact mm w
    · exact (below a ⟨_, q⟩).2 w
    · exact (below a ⟨_, q⟩).1 w⟩
  have topNone : ∀ a, h1.get? a = Option.none → G.h.get? a = Option.none := fun a q => L.inv.top_none q
  have IC : Inv G cenv ambC ρc h₁ := by
    refine ⟨L.inv.gl, fun b o e => old b o (L.inv.top b o e), fun a q => ?_, fun a q => ?_, ?_, ⟨_, by rw [hcL]; exact hns₁⟩, fun z c hm => ?_, fun j z k sl e1 e2 => ?_⟩
    · rcases q with ⟨q, _⟩ | rfl
      · exact ⟨(mu_live L.inv q).keeps old, mu_new L.inv q⟩
      · exact ⟨⟨_, hacc⟩, topNone _ e0⟩
    · rw [wrC] at q
      rcases List.mem_cons.mp q with rfl | q
      · obtain ⟨o, _, _, ho, _⟩ := hns₁
        exact ⟨⟨o, ho⟩, topNone _ eC⟩
      · exact ⟨(wr_live L.inv (W1Sub a q)).keeps old, (L.inv.fresh a (W1Sub a q)).2⟩
    · rw [wrC, List.nodup_cons]
      refine ⟨fun q => (below _ (wr_live L.inv (W1Sub _ q))).1 rfl, ?_⟩
      rw [← hW1, List.nodup_append]
      refine ⟨?_, aNd, fun b hb b' hb' e => ?_⟩
      rotate_left
      · obtain ⟨⟨z, c⟩, hm, rfl⟩ := List.mem_map.mp hb
        rw [← e] at hb'
        exact ((wr_apart L.inv.nd).2.2.2 _ (aS _ hb')).2 (List.mem_map.mpr ⟨_, PySem.mem_of_lookup (clSub _ _ hm).2, rfl⟩)
      refine List.pairwise_map.mpr ((List.pairwise_map.mp clNd).imp_of_mem fun {p q} hp hq hpq e => ?_)
      have h1 := PySem.mem_of_lookup (clSub p.1 p.2 hp).2
      have h2 := PySem.mem_of_lookup (clSub q.1 q.2 hq).2
      rw [e] at h1
      exact hpq (PySem.name_of_addr (List.pairwise_map.mp envNd) h1 h2)
    · rw [hcC] at hm
      obtain ⟨v, hv⟩ := L.inv.cells z c (PySem.mem_of_lookup (clSub z c hm).2)
      obtain ⟨o, ho, hd⟩ := hv
      exact ⟨v, o, old _ _ ho, hd⟩
    · rcases cin j sl e2 with rfl | ⟨y, i, f1, f2, f3, nd⟩
      · trivial
      · rw [hcS, f1] at e1; cases e1
        have o := L.inv.var he f2 f3
        have vg : ∀ v, vget env h1 z v → vget cenv h₁ z v := fun v g => by
          rcases g with ⟨q, _⟩ | ⟨q, c, hc, hv⟩
          · rw [he.kind f2] at q; cases q
          · obtain ⟨c', hc'⟩ := clMem _ (relS_mem hcell f1)
            have := (clSub _ _ hc').2
            rw [hc] at this; cases this
            obtain ⟨o, ho, hd⟩ := hv
            exact .inr ⟨heC.kind f1, c, by rw [hcC]; exact lookup_of_mem clNd hc', o, old _ _ ho, hd⟩
        cases sl with
        | unset => trivial
        | val d => obtain ⟨v, g, r⟩ := o; exact ⟨v, vg v g, Rel.kp kpC _ _ r⟩
        | own a ds' =>
          obtain ⟨g, na, us, mm, eo, ro⟩ := o
          have ha : a ∈ aos := by rw [← ca]; exact List.mem_filterMap.mpr ⟨_, List.mem_of_getElem? e2, rfl⟩
          exact ⟨vg _ g, fun q => q.elim (fun q => q.2 (W1a a ha)) fun q => (below _ ⟨_, eo⟩).2 q, us, mm, old _ _ eo, RelL.kp kpC _ _ ro⟩
        | dict hf a kvs => exact absurd rfl (nd hf a kvs)
  have LC : Lp G cenv ambC s0.heap (wr env ρ) ρc h₁ fp wI := by
    refine ⟨IC, ⟨fun a o e m => ?_, fun a l => (L.go.live a l).keeps old⟩, fun b hb q => ?_, L.new, fun b hb q => ?_, L.top0⟩
    · obtain ⟨p, q⟩ := L.go.keep a o e m
      refine ⟨old _ _ p, fun w => ?_⟩
      rw [wrC] at w
      rcases List.mem_cons.mp w with w | w
      · exact (below a ⟨o, p⟩).1 w
      · exact q (W1Sub a w)
    · rcases q with ⟨q | q, _⟩ | q
      · exact L.ambOff b hb q
      · exact wIoff b hb q
      · exact (below b (wIlive b (hsub b hb))).2 q
    · rw [wrC] at q
      rcases List.mem_cons.mp q with q | q
      · exact (below b (wIlive b hb)).1 q
      · exact L.off b hb (W1Sub b q)
  have xC : Φ h₁ (mu cenv ambC ρc) := hgrow h₁ _ old kpC
  have loop : ∀ s₃ : Shared, s₃ = { s0 with heap := h₁, toks := t1 + ([] : List (Str × Value)).length } →
      codeAny (model G.prog G.w) A (.compLoop (.ListComp elt [⟨tgt, iter, ifs, 0⟩] scope pos) 0 it (.ref acc) cenv) (RR (.ref acc) C) s₃ := by
    rintro s₃ rfl
    refine t cenv heC ambC _ _ s0.heap (wr env ρ) acc [] 0 [] h₁ (acc :: (wI ++ wr cenv ρc)) (fun b hb => List.mem_cons_of_mem _ (List.mem_append_left _ hb)) List.mem_cons_self
      (fun a o e m => ⟨e, fun q => m (List.mem_cons_of_mem _ (List.mem_append_right _ q))⟩) LC xC (.inr rfl) (fun q => ?_) (fun q => (below _ (wIlive _ q)).2 rfl) (L.go.dead e0) hacc rfl (by simpa using hz) fun h' t' vs m' k I' g e' r' => ?_
    · rw [wrC] at q
      rcases List.mem_cons.mp q with q | q
      · exact hDC q
      · exact (below _ (wr_live L.inv (W1Sub _ q))).2 rfl
    · have wrC' : C ∈ wr cenv ρc' ∧ ∀ c ∈ W1, c ∈ wr cenv ρc' := ⟨by rw [← hcL]; exact List.mem_cons_self, fun c hc => by
        rw [← hW1] at hc
        rcases List.mem_append.mp hc with hc | hc
        · exact List.mem_cons_of_mem _ (List.mem_append_left _ (by rw [hcC]; exact hc))
        · exact List.mem_cons_of_mem _ (List.mem_append_right _ (aC' c hc))⟩
      have muC' : ∀ a, mu env (addA amb acc) ρ₁ a → mu cenv ambC ρc' a := fun a q => by
        rcases (mu_addA a).mp q with q | q
        · by_cases w : a ∈ W1
          · exact .inr (wrC'.2 a w)
          · exact .inl (.inl ⟨q, w⟩)
        · exact .inl (.inr q)
      have K' : ∀ a o, h1.get? a = some o → a ∉ wI → a ∉ W1 → h'.get? a = some o := fun a o e m1 m2 => (k a o (old a o e) fun q => by
        rcases List.mem_cons.mp q with q | q
        · exact (below a ⟨o, e⟩).2 q
        · rcases List.mem_append.mp q with q | q
          · exact m1 q
          · rw [wrC] at q
            rcases List.mem_cons.mp q with q | q
            · exact (below a ⟨o, e⟩).1 q
            · exact m2 q).1
      have na : ¬ amb acc := fun q => (below _ (L.inv.ambLt _ q).1).2 rfl
      have nw : acc ∉ wr env ρ₁ := fun q => (below _ (wr_live L.inv q)).2 rfl
      have cne : ∀ z c, (z, c) ∈ env.cells → c ∈ W1 → (z, c) ∈ cl := fun z c h1 h2 => by
        rw [← hW1] at h2
        rcases List.mem_append.mp h2 with h2 | h2
        rotate_left
        · exact absurd (List.mem_map.mpr ⟨_, h1, rfl⟩) ((wr_apart L.inv.nd).2.2.2 _ (aS _ h2)).2
        obtain ⟨⟨z', c'⟩, hm, rfl⟩ := List.mem_map.mp h2
        have := PySem.name_of_addr (List.pairwise_map.mp envNd) h1 (PySem.mem_of_lookup (clSub _ _ hm).2)
        rw [this]; exact hm
      have locOff : env.locals ∉ W1 := fun q => by
        rw [← hW1] at q
        rcases List.mem_append.mp q with q | q
        rotate_left
        · exact ((wr_apart L.inv.nd).2.2.2 _ (aS _ q)).1 rfl
        obtain ⟨⟨z', c'⟩, hm, e⟩ := List.mem_map.mp q
        exact (wr_apart L.inv.nd).1 (List.mem_map.mpr ⟨_, PySem.mem_of_lookup (clSub _ _ hm).2, e⟩)
      have kpE : Kp h1 (mu env amb ρ₁) h' (mu env (addA amb acc) ρ₁) := fun a T us n q mm => ⟨K' a _ q (fun w => hns a w T us n q) fun w => mm (.inr (W1Sub a w)), fun w => ((mu_addA a).mp w).elim mm (below a ⟨_, q⟩).2⟩
      have I2 : Inv G env (addA amb acc) ρ' h' := by
        refine ⟨L.inv.gl, I'.top, fun a q => mu_ok I' a (muC' a (.inl q)), fun a q => mu_ok I' a (muC' a (.inr (wE ▸ q))), by rw [wE]; exact L.inv.nd, ?_, fun z c hm => ?_, fun i z kz sl f1 f2 => ?_⟩
        · obtain ⟨m, hm⟩ := L.inv.ns
          exact ⟨m, hm.at' fun o e => K' _ o e (fun w => wIoff _ w List.mem_cons_self) locOff⟩
        · by_cases w : c ∈ W1
          · exact I'.cells z c (by rw [hcC]; exact cne z c hm w)
          · obtain ⟨v, o, ho, hd⟩ := L.inv.cells z c hm
            exact ⟨v, o, K' _ o ho (fun q => wIoff _ q (List.mem_cons_of_mem _ (List.mem_append_left _ (List.mem_map.mpr ⟨_, hm, rfl⟩)))) w, hd⟩
        · rw [he.is] at f1
          rw [mE]
          rcases fin i z kz sl f1 f2 with ⟨f3, nf, na'⟩ | ⟨rfl, j, g1, g2, sl0, f3, f4, f5⟩
          rotate_left
          · have o' := I'.var heC g1 g2
            have vg : ∀ v, vget cenv h' z v → vget env h' z v := fun v g => by
              rcases g with ⟨q5, _⟩ | ⟨q5, c', hc', hv'⟩
              · rw [heC.kind g1] at q5; cases q5
              · rw [hcC] at hc'
                exact .inr ⟨he.kind f1, c', (clSub _ _ (PySem.mem_of_lookup hc')).2, hv'⟩
            cases sl with
            | unset => trivial
            | val d => obtain ⟨v, g, r⟩ := o'; exact ⟨v, vg v g, r.weak muC'⟩
            | own a ds' =>
              obtain ⟨g, _, us', m'', eo', ro'⟩ := o'
              obtain ⟨os, rfl⟩ := f5 a ds' rfl
              obtain ⟨_, nb, _, _, eo, _⟩ := L.inv.var he f1 f3
              exact ⟨vg _ g, fun q => q.elim nb fun q => (below _ ⟨_, eo⟩).2 q, us', m'', eo', ro'.weak muC'⟩
            | dict hf a kvs => exact absurd rfl (f4 hf a kvs)
          have cellOff : ∀ c, (z, c) ∈ env.cells → c ∉ W1 := fun c hm w => nf (clSub _ _ (cne z c hm w)).1
          have o := L.inv.var he f1 f3
          have bOff : ∀ b, sl.addr? = some b → b ∈ wr env ρ₁ ∧ b ∉ W1 := fun b hb => by
            have hs : b ∈ ρ₁.filterMap Slot.addr? := List.mem_filterMap.mpr ⟨_, List.mem_of_getElem? f3, hb⟩
            refine ⟨List.mem_cons_of_mem _ (List.mem_append_right _ hs), fun q => ?_⟩
            rw [← hW1] at q
            rcases List.mem_append.mp q with q | q
            rotate_left
            · exact na' b hb q
            obtain ⟨⟨z', c'⟩, hm, rfl⟩ := List.mem_map.mp q
            exact ((wr_apart L.inv.nd).2.2.2 _ hs).2 (List.mem_map.mpr ⟨_, PySem.mem_of_lookup (clSub _ _ hm).2, rfl⟩)
          have vg : ∀ v, vget env h1 z v → vget env h' z v := fun v gv => by
            rcases gv with ⟨q, m, hm, hmv⟩ | ⟨q, c, hc, hv⟩
            · exact .inl ⟨q, m, hm.at' fun o e => K' _ o e (fun w => wIoff _ w List.mem_cons_self) locOff, hmv⟩
            · have hm := PySem.mem_of_lookup hc
              obtain ⟨o, ho, hd⟩ := hv
              exact .inr ⟨q, c, hc, o, K' _ o ho (fun q => wIoff _ q (List.mem_cons_of_mem _ (List.mem_append_left _ (List.mem_map.mpr ⟨_, hm, rfl⟩)))) (cellOff c hm), hd⟩
          cases sl with
          | unset => trivial
          | val d => obtain ⟨v, gv, rv⟩ := o; exact ⟨v, vg v gv, Rel.kp kpE _ _ rv⟩
          | own b ds' =>
            obtain ⟨gv, nb, vs', m', eb, rb⟩ := o
            obtain ⟨hb, hb2⟩ := bOff b rfl
            exact ⟨vg _ gv, fun q => q.elim nb fun q => nw (q ▸ hb), vs', m', K' b _ eb (fun q => wIoff _ q hb) hb2, RelL.kp kpE _ _ rb⟩
          | dict hf b kvs =>
            obtain ⟨gv, nb, rb⟩ := o
            obtain ⟨hb, hb2⟩ := bOff b rfl
            exact ⟨vg _ gv, fun q => q.elim nb fun q => nw (q ▸ hb), rb.kp kpE fun o e => K' b _ e (fun q => wIoff _ q hb) hb2⟩
      refine hQ acc C vs m' h' t' I2 ⟨fun a o e m => ?_, g.live⟩ (L.go.dead e0) na (by rw [wE]; exact nw) e' (by rw [mE]; exact r'.weak muC') (by rw [← hcL]; exact I'.ns) (fun q => (below _ (wr_live L.inv (wE ▸ q))).1 rfl) (fun q => q.elim (fun q => (below _ (L.inv.ambLt _ q).1).1 rfl) fun q => hDC q.symm) (topNone _ eC) (L.go.dead eC)
      obtain ⟨p, q⟩ := L.go.keep a o e m
      exact ⟨(g.keep a o e m).1, by rw [wE]; exact q⟩
  have hl := loop _ rfl
  rw [← hce] at hl
  exact codeAny_compStart_list hl (hself _ _ _ (fun b o e => old b o e) hl)

theorem comp_coreA {env : Env} (he : EnvOk sc env) {scope : Scope} {iter elt tgt : Expr} {ifs : List Expr} {pos : Pos} {ds out : List D} (okC : ScOk (relS sc scope)) (nameS : (scope.names.map (·.1)).Nodup) (fnS : scope.kind = .function) (hcell : ∀ z ∈ scope.names, z.2 ≠ .cell) (hfree : ∀ z ∈ scope.names, z.2 = .free → sc.names.lookup z.1 = some .cell)
    {A : Around} {amb : AS} {s0 : Shared} {h1 : Heap} {t1 : Nat} {it : Value} {fp wI : List Addr} {E : Value → Shared → Prop} {RR : Value → Addr → Result → Shared → Prop} (L : Lp G env amb s0.heap (wr env ρ) ρ₁ h1 fp wI) {Φ : Heap → AS → Prop} (x : Φ h1 (mu env amb ρ₁)) (wIlive : ∀ b ∈ fp, Live h1 b) (hsub : ∀ b ∈ wI, b ∈ fp) (hns : ∀ b ∈ wI, ∀ T vs n, h1.get? b ≠ some (seqObj T vs n))
    (hgrow : ∀ h' M', (∀ b o, h1.get? b = some o → h'.get? b = some o) → Kp h1 (mu env amb ρ₁) h' M' → Φ h' M')
    (hself : ∀ (s' : Shared) Q' E', (∀ b o, h1.get? b = some o → s'.heap.get? b = some o) → Q' it s' → wpAny (model G.prog G.w) A (pyIter it) Q' E' s')
    (cap : Cap sc (relS sc scope) ρ₁ 0 ρc) (full : ∀ (k : Nat) y, (relS sc scope).names[k]? = some (y, NameKind.cell) → ∃ d, ρc[k]? = some (.val d) ∧ ρc'[k]? = some (.val d))
    (t : ECa G (relS sc scope) ρc (fun s acc cenv R => codeAny (model G.prog G.w) A (.compLoop (.ListComp elt [⟨tgt, iter, ifs, 0⟩] scope pos) 0 it (.ref acc) cenv) R s) Φ fp wI ds.length out ρc') (hz : ds.length ≤ 1000000)
    (hQ : ∀ acc C vs m h' t, Inv G env (addA amb acc) ρ₁ h' → Go s0.heap (wr env ρ) h' (wr env ρ₁) → s0.heap.get? acc = none → ¬ amb acc → acc ∉ wr env ρ₁ → h'.get? acc = some (seqObj "list" vs m) → RelL h' (mu env (addA amb acc) ρ₁) out vs →
      (∃ m, h'.Ns C m) → C ∉ wr env ρ₁ → ¬ addA amb acc C → G.h.get? C = none → s0.heap.get? C = none → RR (.ref acc) C (.ok .next) { s0 with heap := h', toks := t }) :
    wpAny (model G.prog G.w) A (newList []) (fun acc s₃ => wpAny (model G.prog G.w) A (newFunctionEnv scope env.globals (capt env scope.names []) [] env.qual none .none (some env)) (fun cenv s₄ =>
      codeAny (model G.prog G.w) A (.compStart (.ListComp elt [⟨tgt, iter, ifs, 0⟩] scope pos) 0 it acc { cenv with scope := relabel scope env }) (RR acc cenv.locals) s₄) E s₃) E { s0 with heap := h1, toks := t1 } := by
  refine comp_coreU he okC nameS fnS hcell hfree L x wIlive hsub hns hgrow hself (aos := []) (ρ' := ρ₁) (fun j sl e => (cap.get j sl e).imp id ?_) cap.addr (fun _ h => (nomatch h)) List.nodup_nil rfl (fun _ h => (nomatch h)) (fun i z k sl f1 f2 => ?_) t hz hQ
  · rintro ⟨y, i, d, f1, f2, f3, rfl⟩
    exact ⟨y, i, by rw [← f1, Nat.zero_add], f2, f3, fun _ _ _ q => (nomatch q)⟩
  · by_cases hf : (z, NameKind.free) ∈ scope.names
    · obtain ⟨j, hj⟩ := mem_relS he.ok.fn (hfree _ hf rfl) hf
      obtain ⟨d0, g1, g2⟩ := full j z hj
      rcases cap.get j _ g1 with w0 | ⟨y, i', d', q1, q2, q3, q4⟩
      · cases w0
      · rw [Nat.zero_add, hj] at q1; cases q1
        cases q4
        have hii := names_inj he.ok f1 q2
        subst hii
        rw [f2] at q3; cases q3
        rw [f1] at q2; cases q2
        exact .inr ⟨rfl, j, hj, g2, _, f2, fun _ _ _ q => (nomatch q), fun _ _ q => (nomatch q)⟩
    · exact .inl ⟨f2, hf, fun _ _ h => (nomatch h)⟩

theorem comp_core {env : Env} (he : EnvOk sc env) {scope : Scope} {iter elt tgt : Expr} {ifs : List Expr} {pos : Pos} {ds out : List D} (okC : ScOk (relS sc scope)) (nameS : (scope.names.map (·.1)).Nodup) (fnS : scope.kind = .function) (hcell : ∀ z ∈ scope.names, z.2 ≠ .cell) (hfree : ∀ z ∈ scope.names, z.2 = .free → sc.names.lookup z.1 = some .cell)
    {A : Around} {amb : AS} {s0 : Shared} {h1 : Heap} {t1 : Nat} {it : Value} {fp wI : List Addr} {E : Value → Shared → Prop} {RR : Value → Addr → Result → Shared → Prop} (hA : Room n A) (L : Lp G env amb s0.heap (wr env ρ) ρ₁ h1 fp wI) (x : ItOk G A h1 (mu env amb ρ₁) it fp wI ds)
    (cap : Cap sc (relS sc scope) ρ₁ 0 ρc) (full : ∀ (k : Nat) y, (relS sc scope).names[k]? = some (y, NameKind.cell) → ∃ d, ρc[k]? = some (.val d) ∧ ρc'[k]? = some (.val d))
    (t : ECo G n (relS sc scope) ρc tgt iter ifs elt scope pos ds out ρc') (hz : ds.length ≤ 1000000)
    (hQ : ∀ acc C vs m h' t, Inv G env (addA amb acc) ρ₁ h' → Go s0.heap (wr env ρ) h' (wr env ρ₁) → s0.heap.get? acc = none → ¬ amb acc → acc ∉ wr env ρ₁ → h'.get? acc = some (seqObj "list" vs m) → RelL h' (mu env (addA amb acc) ρ₁) out vs →
      (∃ m, h'.Ns C m) → C ∉ wr env ρ₁ → ¬ addA amb acc C → G.h.get? C = none → s0.heap.get? C = none → RR (.ref acc) C (.ok .next) { s0 with heap := h', toks := t }) :
    wpAny (model G.prog G.w) A (newList []) (fun acc s₃ => wpAny (model G.prog G.w) A (newFunctionEnv scope env.globals (capt env scope.names []) [] env.qual none .none (some env)) (fun cenv s₄ =>
      codeAny (model G.prog G.w) A (.compStart (.ListComp elt [⟨tgt, iter, ifs, 0⟩] scope pos) 0 it acc { cenv with scope := relabel scope env }) (RR acc cenv.locals) s₄) E s₃) E { s0 with heap := h1, toks := t1 } :=
  comp_coreA he okC nameS fnS hcell hfree L x x.glue.1 x.glue.2.1 x.glue.2.2.1 x.glue.2.2.2.1 x.glue.2.2.2.2 cap full (fun env h amb s R h₀ W₀ acc vs m ds0 hB X => t env h A amb s R it h₀ W₀ fp wI acc vs m ds0 hB X hA) hz hQ
end
end Mine

end -- FM
section -- FN
open PySem PySem.W PyProof.Rows PySem.Calls
set_option maxRecDepth 100000
namespace Mine

section
variable {G : GC} {n : Nat} {sc : Scope} {ρ ρ₁ ρ₂ ρ₃ ρc ρc' : St}

noncomputable def kindAt (sc : Scope) (j : Nat) : Bool := match sc.names[j]? with | some (_, .cell) => true | _ => false

inductive CapF (sc scC : Scope) (ρ : St) : Nat → St → St → Prop
  | nil {j : Nat} (h : scC.names.length = j) : CapF sc scC ρ j [] []
  | skip {j : Nat} {r r' : St} {s : Slot} (h : kindAt scC j = false) (x : CapF sc scC ρ (j + 1) r r') : CapF sc scC ρ j (.unset :: r) (s :: r')
  | take {j : Nat} {r r' : St} {y : Str} {d : D} (i : Nat) (h1 : scC.names[j]? = some (y, .cell)) (h2 : sc.names[i]? = some (y, .cell)) (h3 : ρ[i]? = some (.val d)) (x : CapF sc scC ρ (j + 1) r r') : CapF sc scC ρ j (.val d :: r) (.val d :: r')

theorem CapF.cap {sc scC : Scope} {ρ : St} {j : Nat} {r r' : St} (x : CapF sc scC ρ j r r') : Cap sc scC ρ j r := by
  induction x with
  | nil h => exact .nil _
  | skip h x ih => exact .skip ih
  | take i h1 h2 h3 x ih => exact .take i h1 h2 h3 ih

theorem CapF.full {sc scC : Scope} {ρ : St} {j : Nat} {r r' : St} (x : CapF sc scC ρ j r r') : ∀ (k : Nat) y, j ≤ k → scC.names[k]? = some (y, NameKind.cell) → ∃ d, r[k - j]? = some (.val d) ∧ r'[k - j]? = some (.val d) := by
  induction x with
  | nil h => intro k y hk e; exact absurd (Nat.lt_of_lt_of_le (List.getElem?_eq_some_iff.mp e).1 (Nat.le_trans (Nat.le_of_eq h) hk)) (Nat.lt_irrefl _)
  | @skip j r r' s h x ih =>
    intro k y hk e
    rcases Nat.lt_or_ge j k with q | q
    · obtain ⟨d, h1, h2⟩ := ih k y q e
      have : k - j = (k - (j + 1)) + 1 := (Nat.succ_pred_eq_of_pos (Nat.sub_pos_of_lt q)).symm
      exact ⟨d, by rw [this]; exact h1, by rw [this]; exact h2⟩
    · have : k = j := Nat.le_antisymm q hk
      subst this
      unfold kindAt at h
      rw [e] at h; cases h
  | @take j r r' z d i h1 h2 h3 x ih =>
    intro k y hk e
    rcases Nat.lt_or_ge j k with q | q
    · obtain ⟨d, h1, h2⟩ := ih k y q e
      have : k - j = (k - (j + 1)) + 1 := (Nat.succ_pred_eq_of_pos (Nat.sub_pos_of_lt q)).symm
      exact ⟨d, by rw [this]; exact h1, by rw [this]; exact h2⟩
    · have : k = j := Nat.le_antisymm q hk
      subst this
      exact ⟨d, by simp, by simp⟩

structure CompOk (sc scope : Scope) : Prop where
  okC : ScOk (relS sc scope)
  nameS : (scope.names.map (·.1)).Nodup
  fnS : scope.kind = .function
  hcell : ∀ z ∈ scope.names, z.2 ≠ .cell
  hfree : ∀ z ∈ scope.names, z.2 = .free → sc.names.lookup z.1 = some .cell

theorem find_of_nd {l : List (Str × NameKind)} (nd : (l.map (·.1)).Nodup) : ∀ z ∈ l, z.2 = .local → l.lookup z.1 = some .local := fun z hz e => by
  refine lookup_of_mem nd ?_
  rw [← e]; exact hz

theorem CompOk.clos {env : Env} {scope : Scope} (c : CompOk sc scope) (he : EnvOk sc env) : closureFor scope env = pure (capt env scope.names []) :=
  closureFor_capt fun z hz => he.cl z (by unfold Env.kindOf; rw [he.is]; exact c.hfree _ hz rfl)

theorem Go.aside {h₀ h h' : Heap} {W₀ W : List Addr} {C : Addr} (g : Go h₀ W₀ h W) (e0 : h₀.get? C = Option.none) (sb : Heap.SameBut C h h') : Go h₀ W₀ h' W := g.upd e0 sb

theorem Inv.aside {env : Env} {amb : AS} {h h' : Heap} {C : Addr} (I : Inv G env amb ρ h) (sb : Heap.SameBut C h h') (nw : C ∉ wr env ρ) (na : ¬ amb C) (g0 : G.h.get? C = Option.none) (ns : ∃ m, h.Ns C m) : Inv G env amb ρ h' ∧ Kp h (mu env amb ρ) h' (mu env amb ρ) := by
  have nq : ∀ T vs n, h.get? C ≠ some (seqObj T vs n) := by obtain ⟨m, hm⟩ := ns; exact ns_notSeq hm
  refine ⟨I.stp (wI := [C]) (fun b o hb e => (sb.2 b (by simpa using hb)).trans e) (fun b hb => ?_) (fun b hb => ?_) (fun b hb => ?_) fun b hb => ?_, fun a T vs n e m => ⟨(sb.2 a fun q => nq T vs n (q ▸ e)).trans e, m⟩⟩ <;>
  · rw [List.mem_singleton.mp hb]; assumption

theorem EF.comp {scope : Scope} {iter elt tgt : Expr} {ifs : List Expr} {pos : Pos} {ds out : List D} (x : EI G n sc ρ iter ds ρ₁) (cap : CapF sc (relS sc scope) ρ₁ 0 ρc ρc')
    (t : ECo G n (relS sc scope) ρc tgt iter ifs elt scope pos ds out ρc') (hz : ds.length ≤ 1000000) (c : CompOk sc scope) (hs : autoParam (∀ env x, foldedSetIterable iter env x = pure x) byRflB) : EF G n sc ρ (.ListComp elt [⟨tgt, iter, ifs, 0⟩] scope pos) out ρ₁ :=
  fun env he A amb s Q E hA I hQ => by
    rw [eval_ListComp]
    refine wpAny_comprehension_free (use := Option.none) rfl (hs env) (c.clos he) c.fnS (find_of_nd c.nameS) (x env he A amb s _ E hA I fun it h t1 fp wI L xo => ?_)
    refine comp_core he c.okC c.nameS c.fnS c.hcell c.hfree (RR := fun acc C => compPost (model G.prog G.w) A E Option.none Q acc C) hA L xo cap.cap (fun k y e => by simpa using cap.full k y (Nat.zero_le _) e) t hz ?_
    intro acc C vs m h' t' I2 g e0 na nw e r ns wC aC gC e0C
    obtain ⟨mC, hC⟩ := ns
    refine ⟨mC, hC, fun h'' sb => ?_⟩
    obtain ⟨I3, k3⟩ := I2.aside sb wC aC gC ⟨mC, hC⟩
    exact hQ acc vs m h'' t' I3 (g.aside e0C sb) e0 na nw ((sb.2 acc fun q => aC (q ▸ .inr rfl)).trans e) (RelL.kp k3 _ _ r)

theorem ES1.assign_comp (i : Nat) {y : Str} {k : NameKind} {py spos : Pos} {scope : Scope} {iter elt tgt : Expr} {ifs : List Expr} {pos : Pos} {ds out : List D} (x : EI G n sc ρ iter ds ρ₁) (cap : CapF sc (relS sc scope) ρ₁ 0 ρc ρc')
    (t : ECo G n (relS sc scope) ρc tgt iter ifs elt scope pos ds out ρc') (hz : ds.length ≤ 1000000) (c : CompOk sc scope) (hi : autoParam (sc.names[i]? = some (y, k)) byRfl) (hk : autoParam (k = .local ∨ k = .cell) byDec)
    (hs : autoParam (∀ env x, foldedSetIterable iter env x = pure x) byRflB)
    (hsw : autoParam (∀ env, env.scope = sc → swapsWith (.ListComp elt [⟨tgt, iter, ifs, 0⟩] scope pos) (some (.Name y py)) spos.line env = pure true) byEnv) :
    ES1 G n sc ρ (.Assign [.Name y py] (.ListComp elt [⟨tgt, iter, ifs, 0⟩] scope pos) spos) .next (ρ₁.set i (.val (.lst out))) :=
  fun env he A amb s Q E hA I hQ => by
    rw [exec_Assign_Name_used _ _ _ _ (hsw env he.is)]
    refine wpAny_bind (wpAny_standAt (wpAny_bind ?_))
    show wpAny _ A (do let _ ← comprehension (.ListComp elt [⟨tgt, iter, ifs, 0⟩] scope pos) scope env _ (newList []) false (eval iter env) (some (PySem.assign (.Name y py) env))) _ _ s
    refine wpAny_bind (wpAny_mono (wpAny_comprehension_free (use := some (PySem.assign (.Name y py) env)) (Q := fun _ s' => Q .next s') rfl (hs env) (c.clos he) c.fnS (find_of_nd c.nameS) (x env he A amb s _ E hA I fun it h t1 fp wI L xo => ?_)) (fun _ s' hq => wpAny_pure (wpAny_pure hq)) fun _ _ e => e)
    refine comp_core he c.okC c.nameS c.fnS c.hcell c.hfree (RR := fun acc C => compPost (model G.prog G.w) A E (some (PySem.assign (.Name y py) env)) (fun _ s' => Q .next s') acc C) hA L xo cap.cap (fun k y e => by simpa using cap.full k y (Nat.zero_le _) e) t hz ?_
    intro acc C vs m h' t' I2 g e0 na nw e r ns wC aC gC e0C
    obtain ⟨mC, hC⟩ := ns
    show wpAny _ A (PySem.assign (.Name y py) env (.ref acc)) _ _ _
    have rv : Rel h' (mu env amb ρ₁) (.lst out) (.ref acc) := ⟨acc, vs, m, rfl, e, fun q => q.elim na nw, r.weak fun b q => (mu_addA b).mpr (.inl q)⟩
    refine wpAny_assign_Name (store_val he I2.dropAdd hi hk rv fun h2 t2 I3 g3 => ?_)
    have hC2 : h2.Ns C mC := hC.at' fun o eo => (g3.keep C o eo wC).1
    have wC2 : C ∉ wr env (ρ₁.set i (.val (.lst out))) := fun q => by
      obtain ⟨o, _, _, eo, _⟩ := hC
      exact (g3.keep C o eo wC).2 q
    refine ⟨mC, hC2, fun h'' sb => ?_⟩
    obtain ⟨I4, k4⟩ := I3.aside sb wC2 (fun q => aC (.inl q)) gC ⟨mC, hC2⟩
    exact hQ .next h'' t2 I4 ((g.trans g3).aside e0C sb) rfl

theorem ES.assign_comp_own (i : Nat) {y : Str} {k : NameKind} {py spos : Pos} {scope : Scope} {iter elt tgt : Expr} {ifs : List Expr} {pos : Pos} {ds out : List D} {rest : List Stmt} {f : Fl} (x : EI G n sc ρ iter ds ρ₁) (cap : CapF sc (relS sc scope) ρ₁ 0 ρc ρc')
    (t : ECo G n (relS sc scope) ρc tgt iter ifs elt scope pos ds out ρc') (hz : ds.length ≤ 1000000) (c : CompOk sc scope) (z : ∀ a, ES G n sc (ρ₁.set i (.own a out)) rest f ρ₂) (hi : autoParam (sc.names[i]? = some (y, k)) byRfl) (hk : autoParam (k = .local ∨ k = .cell) byDec)
    (hs : autoParam (∀ env x, foldedSetIterable iter env x = pure x) byRflB)
    (hsw : autoParam (∀ env, env.scope = sc → swapsWith (.ListComp elt [⟨tgt, iter, ifs, 0⟩] scope pos) (some (.Name y py)) spos.line env = pure true) byEnv) :
    ES G n sc ρ (.Assign [.Name y py] (.ListComp elt [⟨tgt, iter, ifs, 0⟩] scope pos) spos :: rest) f ρ₂ :=
  fun env he A amb s Q E hA I hQ => by
    refine wpAny_execs_cons ?_
    rw [exec_Assign_Name_used _ _ _ _ (hsw env he.is)]
    refine wpAny_bind (wpAny_standAt (wpAny_bind ?_))
    show wpAny _ A (do let _ ← comprehension (.ListComp elt [⟨tgt, iter, ifs, 0⟩] scope pos) scope env _ (newList []) false (eval iter env) (some (PySem.assign (.Name y py) env))) _ _ s
    refine wpAny_bind (wpAny_mono (wpAny_comprehension_free (use := some (PySem.assign (.Name y py) env)) (Q := fun _ s' => wpAny (model G.prog G.w) A (execs rest env) Q E s') rfl (hs env) (c.clos he) c.fnS (find_of_nd c.nameS) (x env he A amb s _ E hA I fun it h t1 fp wI L xo => ?_)) (fun _ s' hq => wpAny_pure (wpAny_pure hq)) fun _ _ e => e)
    refine comp_core he c.okC c.nameS c.fnS c.hcell c.hfree (RR := fun acc C => compPost (model G.prog G.w) A E (some (PySem.assign (.Name y py) env)) (fun _ s' => wpAny (model G.prog G.w) A (execs rest env) Q E s') acc C) hA L xo cap.cap (fun k y e => by simpa using cap.full k y (Nat.zero_le _) e) t hz ?_
    intro acc C vs m h' t' I2 g e0 na nw e r ns wC aC gC e0C
    obtain ⟨mC, hC⟩ := ns
    show wpAny _ A (PySem.assign (.Name y py) env (.ref acc)) _ _ _
    refine wpAny_assign_Name (storeName_stored he I2.nd I2.ns I2.cells hi hk (fun q => he.cl y (q ▸ he.kind hi)) fun c' h2 t2 S => ?_)
    obtain ⟨I3, g3⟩ := I2.stored_own he S hi na nw e r
    have hcC : c' ≠ C := fun q => by
      subst q
      rcases S.isOwn with rfl | ⟨x, hx⟩
      · exact wC List.mem_cons_self
      · exact wC (List.mem_cons_of_mem _ (List.mem_append_left _ (List.mem_map.mpr ⟨(x, c'), hx, rfl⟩)))
    have hC2 : h2.Ns C mC := hC.sameBut S.same (Ne.symm hcC)
    have wC2 : C ∉ wr env (ρ₁.set i (.own acc out)) := fun q => by
      obtain ⟨_, sub⟩ := wr_own_set (i := i) (ds := out) I2.nd nw
      rcases sub C q with q | q
      · exact aC (.inr q)
      · exact wC q
    refine ⟨mC, hC2, fun h'' sb => ?_⟩
    obtain ⟨I4, k4⟩ := I3.aside sb wC2 (fun q => aC (.inl q)) gC ⟨mC, hC2⟩
    exact z acc env he A amb _ Q E hA I4 fun fl h3 t3 I5 g5 fo => hQ fl h3 t3 I5 (((g3 _ _ g e0).aside e0C sb).trans g5) fo
end
end Mine

end -- FN
section -- FO
open PySem PySem.W PyProof.Rows PySem.Calls
open PySem.SeqAt
set_option maxRecDepth 100000
set_option linter.unusedVariables false
namespace Mine

noncomputable def deqNone : D → Bool
  | .none => true
  | .bool _ => false
  | .int _ => false
  | .str _ => false
  | .tup _ => false
  | .lst _ => false
noncomputable def deqBool (a : Bool) : D → Bool
  | .none => false
  | .bool b => a == b
  | .int b => (if a then 1 else 0) == b
  | .str _ => false
  | .tup _ => false
  | .lst _ => false
noncomputable def deqInt (a : Int) : D → Bool
  | .none => false
  | .bool b => a == (if b then 1 else 0)
  | .int b => a == b
  | .str _ => false
  | .tup _ => false
  | .lst _ => false
noncomputable def deqStr (a : Str) : D → Bool
  | .none => false
  | .bool _ => false
  | .int _ => false
  | .str b => a == b
  | .tup _ => false
  | .lst _ => false
noncomputable def dTup : D → Option (List D)
  | .none => Option.none
  | .bool _ => Option.none
  | .int _ => Option.none
  | .str _ => Option.none
  | .tup b => some b
  | .lst _ => Option.none
noncomputable def dLst : D → Option (List D)
  | .none => Option.none
  | .bool _ => Option.none
  | .int _ => Option.none
  | .str _ => Option.none
  | .tup _ => Option.none
  | .lst b => some b
mutual
noncomputable def deq : D → D → Bool
  | .none, e => deqNone e
  | .bool a, e => deqBool a e
  | .int a, e => deqInt a e
  | .str a, e => deqStr a e
  | .tup a, e => match dTup e with
    | some b => deqL a b
    | Option.none => false
  | .lst a, e => match dLst e with
    | some b => deqL a b
    | Option.none => false
noncomputable def deqL : List D → List D → Bool
  | [], bs => bs.isEmpty
  | a :: as, bs => match bs with
    | [] => false
    | b :: bs => deq a b && deqL as bs
end
mutual
noncomputable def dep : D → Nat
  | .tup a => depL a + 1
  | .lst a => depL a + 1
  | _ => 0
noncomputable def depL : List D → Nat
  | [] => 0
  | a :: as => max (dep a) (depL as)
end
theorem dep_mem {d : D} : ∀ {l : List D}, d ∈ l → dep d ≤ depL l
  | a :: as, h => by
    unfold depL
    rcases List.mem_cons.mp h with rfl | h
    · exact Nat.le_max_left ..
    · exact Nat.le_trans (dep_mem h) (Nat.le_max_right ..)

theorem deqL_eq : ∀ (a b : List D), deqL a b = ((List.range (min a.length b.length)).all (fun j => deq (a.getD j .none) (b.getD j .none)) && a.length == b.length)
  | [], [] => by simp [deqL]
  | [], _ :: _ => by simp [deqL]
  | _ :: _, [] => by simp [deqL]
  | a :: as, b :: bs => by
    show (deq a b && deqL as bs) = _
    rw [deqL_eq as bs]
    have : min (a :: as).length (b :: bs).length = min as.length bs.length + 1 := by simp only [List.length_cons]; lia
    rw [this, List.range_succ_eq_map, List.all_cons, List.all_map]
    simp only [List.getD_cons_zero, List.length_cons, Bool.and_assoc]
    congr 1
    congr 1
    simp

mutual
theorem rel_inj {h : Heap} {M : AS} : ∀ (d e : D) (v : Value), Rel h M d v → Rel h M e v → d = e
  | .none, e, v, r, q => by
    rw [show v = _ from r] at q
    cases e with
    | none => rfl
    | bool b => cases (show _ = _ from q)
    | int i => obtain ⟨t, q⟩ := q; cases q
    | str s => obtain ⟨t, q⟩ := q; cases q
    | tup l => obtain ⟨_, _, _, q, _⟩ := q; cases q
    | lst l => obtain ⟨_, _, _, q, _⟩ := q; cases q
  | .bool b, e, v, r, q => by
    rw [show v = _ from r] at q
    cases e with
    | none => cases (show _ = _ from q)
    | bool b => cases (show _ = _ from q); rfl
    | int i => obtain ⟨t, q⟩ := q; cases q
    | str s => obtain ⟨t, q⟩ := q; cases q
    | tup l => obtain ⟨_, _, _, q, _⟩ := q; cases q
    | lst l => obtain ⟨_, _, _, q, _⟩ := q; cases q
  | .int i, e, v, r, q => by
    obtain ⟨t, rfl⟩ := r
    cases e with
    | none => cases (show _ = _ from q)
    | bool b => cases (show _ = _ from q)
    | int i => obtain ⟨t, q⟩ := q; cases q; rfl
    | str s => obtain ⟨t, q⟩ := q; cases q
    | tup l => obtain ⟨_, _, _, q, _⟩ := q; cases q
    | lst l => obtain ⟨_, _, _, q, _⟩ := q; cases q
  | .str i, e, v, r, q => by
    obtain ⟨t, rfl⟩ := r
    cases e with
    | none => cases (show _ = _ from q)
    | bool b => cases (show _ = _ from q)
    | int i => obtain ⟨t, q⟩ := q; cases q
    | str s => obtain ⟨t, q⟩ := q; cases q; rfl
    | tup l => obtain ⟨_, _, _, q, _⟩ := q; cases q
    | lst l => obtain ⟨_, _, _, q, _⟩ := q; cases q
  | .tup l, e, v, ⟨a, vs, n, ev, g, na, r⟩, q => by
    subst ev
    cases e with
    | none => cases (show _ = _ from q)
    | bool b => cases (show _ = _ from q)
    | int i => obtain ⟨t, q⟩ := q; cases q
    | str s => obtain ⟨t, q⟩ := q; cases q
    | tup l' =>
      obtain ⟨a', vs', n', e', g', _, r'⟩ := q
      cases e'
      rw [g] at g'
      have hv : vs = vs' := by
        have := Option.some.inj g'
        simp only [Obj.mk.injEq, Data.seq.injEq] at this
        have h2 := this.2.2.1.1
        simpa using congrArg Array.toList h2
      subst hv
      rw [relL_inj l l' vs r r']
    | lst l' =>
      obtain ⟨a', vs', n', e', g', _, r'⟩ := q
      cases e'
      rw [g] at g'
      have := Option.some.inj g'
      simp at this
  | .lst l, e, v, ⟨a, vs, n, ev, g, na, r⟩, q => by
    subst ev
    cases e with
    | none => cases (show _ = _ from q)
    | bool b => cases (show _ = _ from q)
    | int i => obtain ⟨t, q⟩ := q; cases q
    | str s => obtain ⟨t, q⟩ := q; cases q
    | lst l' =>
      obtain ⟨a', vs', n', e', g', _, r'⟩ := q
      cases e'
      rw [g] at g'
      have hv : vs = vs' := by
        have := Option.some.inj g'
        simp only [Obj.mk.injEq, Data.seq.injEq] at this
        have h2 := this.2.2.1.1
        simpa using congrArg Array.toList h2
      subst hv
      rw [relL_inj l l' vs r r']
    | tup l' =>
      obtain ⟨a', vs', n', e', g', _, r'⟩ := q
      cases e'
      rw [g] at g'
      have := Option.some.inj g'
      simp at this
theorem relL_inj {h : Heap} {M : AS} : ∀ (d e : List D) (v : List Value), RelL h M d v → RelL h M e v → d = e
  | [], e, v, r, q => by
    rw [show v = [] from r] at q
    cases e with
    | nil => rfl
    | cons _ _ => obtain ⟨_, _, q, _⟩ := q; cases q
  | d :: ds, e, v, ⟨x, xs, ev, r, rs⟩, q => by
    subst ev
    cases e with
    | nil => cases (show _ = _ from q)
    | cons e es =>
      obtain ⟨y, ys, q, q1, q2⟩ := q
      cases q
      rw [rel_inj d e x r q1, relL_inj ds es xs rs q2]
end

mutual
theorem deq_refl : ∀ d : D, deq d d = true
  | .none => rfl
  | .bool b => beq_self_eq_true b
  | .int i => beq_self_eq_true i
  | .str a => beq_self_eq_true a
  | .tup l => deqL_refl l
  | .lst l => deqL_refl l
theorem deqL_refl : ∀ d : List D, deqL d d = true
  | [] => rfl
  | a :: as => by show (deq a a && deqL as as) = true; rw [deq_refl a, deqL_refl as]; rfl
end

theorem isList_of {h : Heap} {a : Addr} {vs : List Value} {n : Nat} (e : h.get? a = some (seqObj "list" vs n)) : h.IsList a vs.toArray := ⟨_, e, rfl, n, rfl⟩
theorem isTuple_of {h : Heap} {a : Addr} {vs : List Value} {n : Nat} (e : h.get? a = some (seqObj "tuple" vs n)) : h.IsTuple a vs.toArray := ⟨_, e, rfl, n, rfl⟩

theorem items_eqAt {A : Around} {s : Shared} {M : AS} {ds es : List D} {vs us : List Value} (r : RelL s.heap M ds vs) (q : RelL s.heap M es us) (ih : ∀ e ∈ es, ∀ d v u, Rel s.heap M d v → Rel s.heap M e u → EqAt A.in1 s v u (deq d e)) :
    ∀ j (h1 : j < vs.toArray.size) (h2 : j < us.toArray.size), EqAt A.in1 s vs.toArray[j] us.toArray[j] (deq (ds.getD j .none) (es.getD j .none)) := fun j h1 h2 => by
  have h1' : j < ds.length := by rw [← r.length]; simpa using h1
  have h2' : j < es.length := by rw [← q.length]; simpa using h2
  obtain ⟨v, hv, rv⟩ := r.get (List.getElem?_eq_getElem h1')
  obtain ⟨u, hu, ru⟩ := q.get (List.getElem?_eq_getElem h2')
  have e1 : vs.toArray[j] = v := by
    have : j < vs.length := by simpa using h1
    rw [List.getElem?_eq_getElem this] at hv
    simpa using hv
  have e2 : us.toArray[j] = u := by
    have : j < us.length := by simpa using h2
    rw [List.getElem?_eq_getElem this] at hu
    simpa using hu
  rw [e1, e2]
  have e3 : ds.getD j .none = ds[j] := by simp [List.getD_eq_getElem?_getD, List.getElem?_eq_getElem h1']
  have e4 : es.getD j .none = es[j] := by simp [List.getD_eq_getElem?_getD, List.getElem?_eq_getElem h2']
  rw [e3, e4]
  exact ih _ (List.getElem_mem h2') _ _ _ rv ru

theorem rcAt_of {A : Around} {s : Shared} {M : AS} (e : D) (hu : A.units < cLine) (ih : ∀ es, (e = .tup es ∨ e = .lst es) → ∀ e' ∈ es, ∀ d v u, Rel s.heap M d v → Rel s.heap M e' u → EqAt A.in1 s v u (deq d e')) (d : D) (v u : Value) (r : Rel s.heap M d v) (q : Rel s.heap M e u) : RcAt A s v u (deq d e) := by
  cases d with
  | none =>
    rw [show v = _ from r]
    cases e with
    | none => rw [show u = _ from q]; exact RcAt.none_none
    | bool b => rw [show u = _ from q]; exact RcAt.none_bool b
    | int i => obtain ⟨t, rfl⟩ := q; exact RcAt.none_int i t
    | str i => obtain ⟨t, rfl⟩ := q; exact RcAt.none_str i t
    | tup l => obtain ⟨a, us, n, rfl, g, _, _⟩ := q; exact RcAt.none_tuple (isTuple_of g) hu
    | lst l => obtain ⟨a, us, n, rfl, g, _, _⟩ := q; exact RcAt.none_list (isList_of g) hu
  | bool x =>
    rw [show v = _ from r]
    cases e with
    | none => rw [show u = _ from q]; exact RcAt.bool_none x
    | bool b => rw [show u = _ from q]; exact RcAt.bool_bool x b
    | int i => obtain ⟨t, rfl⟩ := q; exact RcAt.bool_int x i t
    | str i => obtain ⟨t, rfl⟩ := q; exact RcAt.bool_str x i t
    | tup l => obtain ⟨a, us, n, rfl, g, _, _⟩ := q; exact RcAt.bool_tuple x (isTuple_of g) hu
    | lst l => obtain ⟨a, us, n, rfl, g, _, _⟩ := q; exact RcAt.bool_list x (isList_of g) hu
  | int x =>
    obtain ⟨t', rfl⟩ := r
    cases e with
    | none => rw [show u = _ from q]; exact RcAt.int_none x t'
    | bool b => rw [show u = _ from q]; exact RcAt.int_bool x t' b
    | int i => obtain ⟨t, rfl⟩ := q; exact RcAt.int_int x t' i t
    | str i => obtain ⟨t, rfl⟩ := q; exact RcAt.int_str x t' i t
    | tup l => obtain ⟨a, us, n, rfl, g, _, _⟩ := q; exact RcAt.int_tuple x t' (isTuple_of g) hu
    | lst l => obtain ⟨a, us, n, rfl, g, _, _⟩ := q; exact RcAt.int_list x t' (isList_of g) hu
  | str x =>
    obtain ⟨t', rfl⟩ := r
    cases e with
    | none => rw [show u = _ from q]; exact RcAt.str_none x t'
    | bool b => rw [show u = _ from q]; exact RcAt.str_bool x t' b
    | int i => obtain ⟨t, rfl⟩ := q; exact RcAt.str_int x t' i t
    | str i => obtain ⟨t, rfl⟩ := q; exact RcAt.str_str x t' i t
    | tup l => obtain ⟨a, us, n, rfl, g, _, _⟩ := q; exact RcAt.str_tuple x t' (isTuple_of g) hu
    | lst l => obtain ⟨a, us, n, rfl, g, _, _⟩ := q; exact RcAt.str_list x t' (isList_of g) hu
  | tup x =>
    obtain ⟨c, vs, m, rfl, g', _, rs⟩ := r
    cases e with
    | none => rw [show u = _ from q]; exact RcAt.tuple_none (isTuple_of g') hu
    | bool b => rw [show u = _ from q]; exact RcAt.tuple_bool b (isTuple_of g') hu
    | int i => obtain ⟨t, rfl⟩ := q; exact RcAt.tuple_int i t (isTuple_of g') hu
    | str i => obtain ⟨t, rfl⟩ := q; exact RcAt.tuple_str i t (isTuple_of g') hu
    | tup l =>
      obtain ⟨a, us, n, rfl, g, _, qs⟩ := q
      have := RcAt.tuples (isTuple_of g') (isTuple_of g) hu (items_eqAt rs qs (ih l (.inl rfl)))
      show RcAt A s _ _ (deqL x l)
      rw [deqL_eq, ← rs.length, ← qs.length]
      simpa using this
    | lst l => obtain ⟨a, us, n, rfl, g, _, _⟩ := q; exact RcAt.tuple_list (isTuple_of g') (isList_of g) hu
  | lst x =>
    obtain ⟨c, vs, m, rfl, g', _, rs⟩ := r
    cases e with
    | none => rw [show u = _ from q]; exact RcAt.list_none (isList_of g') hu
    | bool b => rw [show u = _ from q]; exact RcAt.list_bool b (isList_of g') hu
    | int i => obtain ⟨t, rfl⟩ := q; exact RcAt.list_int i t (isList_of g') hu
    | str i => obtain ⟨t, rfl⟩ := q; exact RcAt.list_str i t (isList_of g') hu
    | tup l => obtain ⟨a, us, n, rfl, g, _, _⟩ := q; exact RcAt.list_tuple (isList_of g') (isTuple_of g) hu
    | lst l =>
      obtain ⟨a, us, n, rfl, g, _, qs⟩ := q
      show RcAt A s _ _ (deqL x l)
      by_cases hl : vs.toArray.size = us.toArray.size
      · have := RcAt.lists (isList_of g') (isList_of g) hl hu (items_eqAt rs qs (ih l (.inr rfl)))
        have hlen : x.length = l.length := by rw [← rs.length, ← qs.length]; simpa using hl
        rw [deqL_eq, hlen, Nat.min_self, beq_self_eq_true, Bool.and_true, ← qs.length]
        rw [hl] at this
        simpa using this
      · have := RcAt.lists_lengths (isList_of g') (isList_of g) (by simpa using hl) hu
        have hlen : ¬ x.length = l.length := by rw [← rs.length, ← qs.length]; simpa using hl
        rw [deqL_eq, show (x.length == l.length) = false by simpa using hlen, Bool.and_false]
        exact this

theorem eqAt_of_rc {A : Around} {s : Shared} {M : AS} {d e : D} {v u : Value} (r : Rel s.heap M d v) (q : Rel s.heap M e u) (h : RcAt A s v u (deq d e)) : EqAt A s v u (deq d e) := by
  by_cases hvu : v = u
  · subst hvu
    rw [rel_inj d e v r q, deq_refl]
    exact EqAt.same v
  · intro prog w E Q hq
    unfold eqBool
    refine wpAny_holding ?_
    refine wpAny_ite_split (fun hab => absurd (eq_of_beq hab) hvu) (fun _ => ?_)
    have nf : ∀ d (v : Value), Rel s.heap M d v → ∀ x t, v ≠ .float x t := fun d v r x t e => by
      subst e
      cases d with
      | none => cases (show _ = _ from r)
      | bool b => cases (show _ = _ from r)
      | int i => obtain ⟨_, e⟩ := r; cases e
      | str i => obtain ⟨_, e⟩ := r; cases e
      | tup l => obtain ⟨_, _, _, e, _⟩ := r; cases e
      | lst l => obtain ⟨_, _, _, e, _⟩ := r; cases e
    split
    · exact (nf d v r _ _ (Prod.mk.inj ‹_›).1).elim
    · exact wpAny_bind (h prog w E _ (wpAny_truthy_bool hq))

theorem eqAt_d {s : Shared} {M : AS} : ∀ (k : Nat) (e : D), dep e ≤ k → ∀ (A : Around), A.units + k < cLine → ∀ (d : D) (v u : Value), Rel s.heap M d v → Rel s.heap M e u → EqAt A s v u (deq d e)
  | 0, e, hk, A, hu, d, v, u, r, q => eqAt_of_rc r q (rcAt_of e (by lia) (fun es he => by
      rcases he with rfl | rfl <;> simp [dep] at hk) d v u r q)
  | k + 1, e, hk, A, hu, d, v, u, r, q => eqAt_of_rc r q (rcAt_of e (by lia) (fun es he e' hm d v u r q => eqAt_d k e' (by
      have := dep_mem hm
      rcases he with rfl | rfl <;> (simp only [dep] at hk; lia)) A.in1 (by show A.units + 1 + k < cLine; lia) d v u r q) d v u r q)
theorem rcAt_d {s : Shared} {M : AS} {e : D} {A : Around} (hu : A.units + dep e < cLine) {d : D} {v u : Value} (r : Rel s.heap M d v) (q : Rel s.heap M e u) : RcAt A s v u (deq d e) :=
  rcAt_of e (by lia) (fun es he e' hm d v u r q => eqAt_d (depL es) e' (dep_mem hm) A.in1 (by
    show A.units + 1 + _ < cLine
    rcases he with rfl | rfl <;> (simp only [dep] at hu; lia)) d v u r q) d v u r q

theorem rcNeAt_d {s : Shared} {M : AS} {e : D} {A : Around} (hu' : A.units + dep e < cLine) {d : D} {v u : Value} (r : Rel s.heap M d v) (q : Rel s.heap M e u) : RcNeAt A s v u (!deq d e) := by
  have hu : A.units < cLine := by lia
  have ih : ∀ es, (e = .tup es ∨ e = .lst es) → ∀ e' ∈ es, ∀ d v u, Rel s.heap M d v → Rel s.heap M e' u → EqAt A.in1 s v u (deq d e') := fun es he e' hm d v u r q => eqAt_d (depL es) e' (dep_mem hm) A.in1 (by
    show A.units + 1 + _ < cLine
    rcases he with rfl | rfl <;> (simp only [dep] at hu'; lia)) d v u r q
  clear hu'
  cases d with
  | none =>
    rw [show v = _ from r]
    cases e with
    | none => rw [show u = _ from q]; exact RcNeAt.none_none
    | bool b => rw [show u = _ from q]; exact RcNeAt.none_bool b
    | int i => obtain ⟨t, rfl⟩ := q; exact RcNeAt.none_int i t
    | str i => obtain ⟨t, rfl⟩ := q; exact RcNeAt.none_str i t
    | tup l => obtain ⟨a, us, n, rfl, g, _, _⟩ := q; exact RcNeAt.none_tuple (isTuple_of g) hu
    | lst l => obtain ⟨a, us, n, rfl, g, _, _⟩ := q; exact RcNeAt.none_list (isList_of g) hu
  | bool x =>
    rw [show v = _ from r]
    cases e with
    | none => rw [show u = _ from q]; exact RcNeAt.bool_none x
    | bool b => rw [show u = _ from q]; exact RcNeAt.bool_bool x b
    | int i => obtain ⟨t, rfl⟩ := q; exact RcNeAt.bool_int x i t
    | str i => obtain ⟨t, rfl⟩ := q; exact RcNeAt.bool_str x i t
    | tup l => obtain ⟨a, us, n, rfl, g, _, _⟩ := q; exact RcNeAt.bool_tuple x (isTuple_of g) hu
    | lst l => obtain ⟨a, us, n, rfl, g, _, _⟩ := q; exact RcNeAt.bool_list x (isList_of g) hu
  | int x =>
    obtain ⟨t', rfl⟩ := r
    cases e with
    | none => rw [show u = _ from q]; exact RcNeAt.int_none x t'
    | bool b => rw [show u = _ from q]; exact RcNeAt.int_bool x t' b
    | int i => obtain ⟨t, rfl⟩ := q; exact RcNeAt.int_int x t' i t
    | str i => obtain ⟨t, rfl⟩ := q; exact RcNeAt.int_str x t' i t
    | tup l => obtain ⟨a, us, n, rfl, g, _, _⟩ := q; exact RcNeAt.int_tuple x t' (isTuple_of g) hu
    | lst l => obtain ⟨a, us, n, rfl, g, _, _⟩ := q; exact RcNeAt.int_list x t' (isList_of g) hu
  | str x =>
    obtain ⟨t', rfl⟩ := r
    cases e with
    | none => rw [show u = _ from q]; exact RcNeAt.str_none x t'
    | bool b => rw [show u = _ from q]; exact RcNeAt.str_bool x t' b
    | int i => obtain ⟨t, rfl⟩ := q; exact RcNeAt.str_int x t' i t
    | str i => obtain ⟨t, rfl⟩ := q; exact RcNeAt.str_str x t' i t
    | tup l => obtain ⟨a, us, n, rfl, g, _, _⟩ := q; exact RcNeAt.str_tuple x t' (isTuple_of g) hu
    | lst l => obtain ⟨a, us, n, rfl, g, _, _⟩ := q; exact RcNeAt.str_list x t' (isList_of g) hu
  | tup x =>
    obtain ⟨c, vs, m, rfl, g', _, rs⟩ := r
    cases e with
    | none => rw [show u = _ from q]; exact RcNeAt.tuple_none (isTuple_of g') hu
    | bool b => rw [show u = _ from q]; exact RcNeAt.tuple_bool b (isTuple_of g') hu
    | int i => obtain ⟨t, rfl⟩ := q; exact RcNeAt.tuple_int i t (isTuple_of g') hu
    | str i => obtain ⟨t, rfl⟩ := q; exact RcNeAt.tuple_str i t (isTuple_of g') hu
    | tup l =>
      obtain ⟨a, us, n, rfl, g, _, qs⟩ := q
      have := RcNeAt.tuples (isTuple_of g') (isTuple_of g) hu (items_eqAt rs qs (ih l (.inl rfl)))
      show RcNeAt A s _ _ (!deqL x l)
      rw [deqL_eq, ← rs.length, ← qs.length]
      simpa using this
    | lst l => obtain ⟨a, us, n, rfl, g, _, _⟩ := q; exact RcNeAt.tuple_list (isTuple_of g') (isList_of g) hu
  | lst x =>
    obtain ⟨c, vs, m, rfl, g', _, rs⟩ := r
    cases e with
    | none => rw [show u = _ from q]; exact RcNeAt.list_none (isList_of g') hu
    | bool b => rw [show u = _ from q]; exact RcNeAt.list_bool b (isList_of g') hu
    | int i => obtain ⟨t, rfl⟩ := q; exact RcNeAt.list_int i t (isList_of g') hu
    | str i => obtain ⟨t, rfl⟩ := q; exact RcNeAt.list_str i t (isList_of g') hu
    | tup l => obtain ⟨a, us, n, rfl, g, _, _⟩ := q; exact RcNeAt.list_tuple (isList_of g') (isTuple_of g) hu
    | lst l =>
      obtain ⟨a, us, n, rfl, g, _, qs⟩ := q
      show RcNeAt A s _ _ (!deqL x l)
      by_cases hl : vs.toArray.size = us.toArray.size
      · have := RcNeAt.lists (isList_of g') (isList_of g) hl hu (items_eqAt rs qs (ih l (.inr rfl)))
        have hlen : x.length = l.length := by rw [← rs.length, ← qs.length]; simpa using hl
        rw [deqL_eq, hlen, Nat.min_self, beq_self_eq_true, Bool.and_true, ← qs.length]
        rw [hl] at this
        simpa using this
      · have := RcNeAt.lists_lengths (isList_of g') (isList_of g) (by simpa using hl) hu
        have hlen : ¬ x.length = l.length := by rw [← rs.length, ← qs.length]; simpa using hl
        rw [deqL_eq, show (x.length == l.length) = false by simpa using hlen, Bool.and_false]
        exact this
end Mine

end -- FO
section -- FP
open PySem PySem.W PyProof.Rows PySem.Calls
open PySem.SeqAt
set_option maxRecDepth 100000
set_option linter.unusedVariables false
namespace Mine

section
variable {G : GC} {n : Nat} {sc : Scope} {ρ ρ₁ ρ₂ ρ₃ : St}

theorem Room.eq {A : Around} {k : Nat} (hA : Room n A) (h : k ≤ 90) : A.units + k < cLine := by have := hA.units; lia

theorem EE.eq {l r : Expr} {a b : D} {pos : Pos} (x : EE G n sc ρ l a ρ₁) (y : EE G n sc ρ₁ r b ρ₂) (hd : dep b ≤ 90) (hm : autoParam (behindInMarks .Eq r = false) byUnf) : EE G n sc ρ (.Compare l [.Eq] [r] pos) (.bool (deq a b)) ρ₂ :=
  fun env he A amb s Q E hA I hQ => wpAny_Compare1 (x env he A amb s _ E hA I fun v1 h1 t1 I1 g1 r1 => y env he A amb _ _ E hA I1 fun v2 h2 t2 I2 g2 r2 =>
    rcAt_d (hA.eq hd) (Rel.go r1 g2) r2 _ _ _ _ (hQ _ h2 t2 I2 (g1.trans g2) rfl)) hm
theorem EE.ne {l r : Expr} {a b : D} {pos : Pos} (x : EE G n sc ρ l a ρ₁) (y : EE G n sc ρ₁ r b ρ₂) (hd : dep b ≤ 90) (hm : autoParam (behindInMarks .NotEq r = false) byUnf) : EE G n sc ρ (.Compare l [.NotEq] [r] pos) (.bool (!deq a b)) ρ₂ :=
  fun env he A amb s Q E hA I hQ => wpAny_Compare1 (x env he A amb s _ E hA I fun v1 h1 t1 I1 g1 r1 => y env he A amb _ _ E hA I1 fun v2 h2 t2 I2 g2 r2 =>
    rcNeAt_d (hA.eq hd) (Rel.go r1 g2) r2 _ _ _ _ (hQ _ h2 t2 I2 (g1.trans g2) rfl)) hm
theorem ET.eq {l r : Expr} {a b : D} {pos : Pos} (x : EE G n sc ρ l a ρ₁) (y : EE G n sc ρ₁ r b ρ₂) (hd : dep b ≤ 90) (hm : autoParam (behindInMarks .Eq r = false) byUnf) : ET G n sc ρ (.Compare l [.Eq] [r] pos) (deq a b) ρ₂ :=
  fun env he A amb s Q E hA I hQ => wpAny_isTrue_Compare1 (x env he A amb s _ E hA I fun v1 h1 t1 I1 g1 r1 => y env he A amb _ _ E hA I1 fun v2 h2 t2 I2 g2 r2 =>
    rcAt_d (hA.eq hd) (Rel.go r1 g2) r2 _ _ _ _ (wpAny_truthy_bool (hQ h2 t2 I2 (g1.trans g2)))) hm
theorem ET.ne {l r : Expr} {a b : D} {pos : Pos} (x : EE G n sc ρ l a ρ₁) (y : EE G n sc ρ₁ r b ρ₂) (hd : dep b ≤ 90) (hm : autoParam (behindInMarks .NotEq r = false) byUnf) : ET G n sc ρ (.Compare l [.NotEq] [r] pos) (!deq a b) ρ₂ :=
  fun env he A amb s Q E hA I hQ => wpAny_isTrue_Compare1 (x env he A amb s _ E hA I fun v1 h1 t1 I1 g1 r1 => y env he A amb _ _ E hA I1 fun v2 h2 t2 I2 g2 r2 =>
    rcNeAt_d (hA.eq hd) (Rel.go r1 g2) r2 _ _ _ _ (wpAny_truthy_bool (hQ h2 t2 I2 (g1.trans g2)))) hm

noncomputable def isNone : D → Bool | .none => true | _ => false
theorem isNone_rel {h : Heap} {M : AS} {d : D} {v : Value} (r : Rel h M d v) : (v == Value.none) = isNone d := by
  cases d with
  | none => rw [show v = _ from r]; rfl
  | bool b => rw [show v = _ from r]; rfl
  | int i => obtain ⟨_, rfl⟩ := r; rfl
  | str i => obtain ⟨_, rfl⟩ := r; rfl
  | tup l => obtain ⟨_, _, _, rfl, _⟩ := r; rfl
  | lst l => obtain ⟨_, _, _, rfl, _⟩ := r; rfl
theorem is_none_d {A : Around} {E : Value → Shared → Prop} {s : Shared} {M : AS} {d : D} {v : Value} {Q : Value → Shared → Prop} (r : Rel s.heap M d v) (h : Q (.bool (isNone d)) s) : wpAny (model G.prog G.w) A (compareOp .Is v .none) Q E s := by
  rw [← isNone_rel r] at h
  exact is_none_gen h
theorem is_not_none_d {A : Around} {E : Value → Shared → Prop} {s : Shared} {M : AS} {d : D} {v : Value} {Q : Value → Shared → Prop} (r : Rel s.heap M d v) (h : Q (.bool (!isNone d)) s) : wpAny (model G.prog G.w) A (compareOp .IsNot v .none) Q E s := by
  have hk : isSame v .none = pure (isNone d) := by
    rw [← isNone_rel r]
    unfold isSame
    cases v <;> rfl
  unfold compareOp
  exact wpAny_bind (wpAny_of_eq hk (wpAny_pure h))

theorem EE.is_none {l : Expr} {a : D} {k : Nat} {p pos : Pos} (x : EE G n sc ρ l a ρ₁) : EE G n sc ρ (.Compare l [.Is] [.Constant .none k p] pos) (.bool (isNone a)) ρ₁ :=
  fun env he A amb s Q E hA I hQ => wpAny_Compare1 (x env he A amb s _ E hA I fun v1 h1 t1 I1 g1 r1 => (EE.none (n := n) (sc := sc)) env he A amb _ _ E hA I1 fun v2 h2 t2 I2 g2 r2 => by
    rw [show v2 = _ from r2]
    exact is_none_d (Rel.go r1 g2) (hQ _ h2 t2 I2 (g1.trans g2) rfl)) (by with_unfolding_all rfl)
theorem EE.is_not_none {l : Expr} {a : D} {k : Nat} {p pos : Pos} (x : EE G n sc ρ l a ρ₁) : EE G n sc ρ (.Compare l [.IsNot] [.Constant .none k p] pos) (.bool (!isNone a)) ρ₁ :=
  fun env he A amb s Q E hA I hQ => wpAny_Compare1 (x env he A amb s _ E hA I fun v1 h1 t1 I1 g1 r1 => (EE.none (n := n) (sc := sc)) env he A amb _ _ E hA I1 fun v2 h2 t2 I2 g2 r2 => by
    rw [show v2 = _ from r2]
    exact is_not_none_d (Rel.go r1 g2) (hQ _ h2 t2 I2 (g1.trans g2) rfl)) (by with_unfolding_all rfl)
theorem ET.is_none {l : Expr} {a : D} {k : Nat} {p pos : Pos} (x : EE G n sc ρ l a ρ₁) : ET G n sc ρ (.Compare l [.Is] [.Constant .none k p] pos) (isNone a) ρ₁ :=
  fun env he A amb s Q E hA I hQ => wpAny_isTrue_Compare1 (x env he A amb s _ E hA I fun v1 h1 t1 I1 g1 r1 => (EE.none (n := n) (sc := sc)) env he A amb _ _ E hA I1 fun v2 h2 t2 I2 g2 r2 => by
    rw [show v2 = _ from r2]
    exact is_none_d (Rel.go r1 g2) (wpAny_truthy_bool (hQ h2 t2 I2 (g1.trans g2)))) (by with_unfolding_all rfl)
theorem ET.is_not_none {l : Expr} {a : D} {k : Nat} {p pos : Pos} (x : EE G n sc ρ l a ρ₁) : ET G n sc ρ (.Compare l [.IsNot] [.Constant .none k p] pos) (!isNone a) ρ₁ :=
  fun env he A amb s Q E hA I hQ => wpAny_isTrue_Compare1 (x env he A amb s _ E hA I fun v1 h1 t1 I1 g1 r1 => (EE.none (n := n) (sc := sc)) env he A amb _ _ E hA I1 fun v2 h2 t2 I2 g2 r2 => by
    rw [show v2 = _ from r2]
    exact is_not_none_d (Rel.go r1 g2) (wpAny_truthy_bool (hQ h2 t2 I2 (g1.trans g2)))) (by with_unfolding_all rfl)

noncomputable def dAny (x : D) (l : List D) : Bool := l.any fun d => deq d x
open Classical in
noncomputable def eVal (h : Heap) (M : AS) (x : D) (y : Value) : Bool := decide (∃ d, Rel h M d y ∧ deq d x = true)
open Classical in
theorem eVal_of {h : Heap} {M : AS} {x d : D} {v : Value} (r : Rel h M d v) : eVal h M x v = deq d x := by
  unfold eVal
  cases q : deq d x with
  | true => exact decide_eq_true ⟨d, r, q⟩
  | false => exact decide_eq_false fun ⟨d', r', q'⟩ => by rw [rel_inj d d' v r r'] at q; rw [q] at q'; cases q'
theorem any_eVal {h : Heap} {M : AS} {x : D} : ∀ {ds : List D} {vs : List Value}, RelL h M ds vs → vs.any (eVal h M x) = dAny x ds
  | [], _, r => by rw [show _ = [] from r]; rfl
  | d :: ds, _, ⟨v, vs', e, r, rs⟩ => by
    rw [e]
    unfold dAny
    rw [List.any_cons, List.any_cons, eVal_of r, any_eVal rs]
    rfl
theorem RelL.mem {h : Heap} {M : AS} : ∀ {ds : List D} {vs : List Value}, RelL h M ds vs → ∀ v ∈ vs, ∃ d, d ∈ ds ∧ Rel h M d v
  | [], _, r, v, hv => by rw [show _ = [] from r] at hv; cases hv
  | d :: ds, _, ⟨u, vs', e, r, rs⟩, v, hv => by
    rw [e] at hv
    rcases List.mem_cons.mp hv with rfl | hv
    · exact ⟨d, List.mem_cons_self, r⟩
    · obtain ⟨d', h1, h2⟩ := rs.mem v hv
      exact ⟨d', List.mem_cons_of_mem _ h1, h2⟩

theorem eqAt_items {A : Around} {s : Shared} {M : AS} {ds : List D} {vs : List Value} {x : D} {u : Value} (hu : A.units + (dep x + 1) < cLine) (r : RelL s.heap M ds vs) (q : Rel s.heap M x u) : ∀ y, y ∈ vs.toArray → EqAt A.in1 s y u (eVal s.heap M x y) := fun y hy => by
  obtain ⟨d, _, rd⟩ := r.mem y (by simpa using hy)
  rw [eVal_of rd]
  exact eqAt_d (dep x) x (Nat.le_refl _) A.in1 (by show A.units + 1 + dep x < cLine; lia) d y u rd q

theorem in_tup_d {A : Around} {E : Value → Shared → Prop} {s : Shared} {M : AS} {x : D} {ds : List D} {u v : Value} {Q : Value → Shared → Prop} (hu : A.units + (dep x + 1) < cLine) (q : Rel s.heap M x u) (r : Rel s.heap M (.tup ds) v) (h : Q (.bool (dAny x ds)) s) : wpAny (model G.prog G.w) A (compareOp .In u v) Q E s := by
  obtain ⟨a, vs, m, rfl, e, _, rs⟩ := r
  refine in_tupleAt (eVal s.heap M x) (isTuple_of e) (eqAt_items hu rs q) ?_
  rw [← Array.any_toList, any_eVal rs]; exact h
theorem in_lst_d {A : Around} {E : Value → Shared → Prop} {s : Shared} {M : AS} {x : D} {ds : List D} {u v : Value} {Q : Value → Shared → Prop} (hu : A.units + (dep x + 1) < cLine) (q : Rel s.heap M x u) (r : Rel s.heap M (.lst ds) v) (h : Q (.bool (dAny x ds)) s) : wpAny (model G.prog G.w) A (compareOp .In u v) Q E s := by
  obtain ⟨a, vs, m, rfl, e, _, rs⟩ := r
  refine in_listAt (eVal s.heap M x) (isList_of e) (eqAt_items hu rs q) ?_
  rw [← Array.any_toList, any_eVal rs]; exact h
theorem notIn_lst_d {A : Around} {E : Value → Shared → Prop} {s : Shared} {M : AS} {x : D} {ds : List D} {u v : Value} {Q : Value → Shared → Prop} (hu : A.units + (dep x + 1) < cLine) (q : Rel s.heap M x u) (r : Rel s.heap M (.lst ds) v) (h : Q (.bool (!dAny x ds)) s) : wpAny (model G.prog G.w) A (compareOp .NotIn u v) Q E s := by
  obtain ⟨a, vs, m, rfl, e, _, rs⟩ := r
  refine notIn_listAt (eVal s.heap M x) (isList_of e) (eqAt_items hu rs q) ?_
  rw [← Array.any_toList, any_eVal rs]; exact h

theorem ET.in_tup {l r : Expr} {x : D} {ds : List D} {pos : Pos} (hl : EE G n sc ρ l x ρ₁) (hr : EE G n sc ρ₁ r (.tup ds) ρ₂) (hd : dep x ≤ 80) (hm : autoParam (behindInMarks .In r = false) byUnf) : ET G n sc ρ (.Compare l [.In] [r] pos) (dAny x ds) ρ₂ :=
  fun env he A amb s Q E hA I hQ => wpAny_isTrue_Compare1 (hl env he A amb s _ E hA I fun v1 h1 t1 I1 g1 r1 => hr env he A amb _ _ E hA I1 fun v2 h2 t2 I2 g2 r2 =>
    in_tup_d (hA.eq (by lia)) (Rel.go r1 g2) r2 (wpAny_truthy_bool (hQ h2 t2 I2 (g1.trans g2)))) hm
theorem ET.notIn_lst {l r : Expr} {x : D} {ds : List D} {pos : Pos} (hl : EE G n sc ρ l x ρ₁) (hr : EE G n sc ρ₁ r (.lst ds) ρ₂) (hd : dep x ≤ 80) (hm : autoParam (behindInMarks .NotIn r = false) byUnf) : ET G n sc ρ (.Compare l [.NotIn] [r] pos) (!dAny x ds) ρ₂ :=
  fun env he A amb s Q E hA I hQ => wpAny_isTrue_Compare1 (hl env he A amb s _ E hA I fun v1 h1 t1 I1 g1 r1 => hr env he A amb _ _ E hA I1 fun v2 h2 t2 I2 g2 r2 =>
    notIn_lst_d (hA.eq (by lia)) (Rel.go r1 g2) r2 (wpAny_truthy_bool (hQ h2 t2 I2 (g1.trans g2)))) hm

theorem wr_unown {env : Env} {i : Nat} {d : D} : (wr env (ρ.set i (.val d))).Sublist (wr env ρ) := List.Sublist.cons_cons _ ((List.Sublist.refl _).append (set_sub (s := .val d) rfl ρ i))

theorem filterMap_set_not {a : Addr} {ds : List D} {d : D} : ∀ (ρ : St) (i : Nat), ρ[i]? = some (.own a ds) → (ρ.filterMap Slot.addr?).Nodup → a ∉ (ρ.set i (.val d)).filterMap Slot.addr?
  | [], i, e, _ => by simp at e
  | x :: r, 0, e, nd => by
    have : x = .own a ds := by simpa using e
    subst this
    rw [List.set_cons_zero, List.filterMap_cons]
    rw [List.filterMap_cons] at nd
    exact (List.nodup_cons.mp nd).1
  | x :: r, i + 1, e, nd => by
    have e' : r[i]? = some (.own a ds) := by simpa using e
    have hm : a ∈ r.filterMap Slot.addr? := List.mem_filterMap.mpr ⟨_, List.mem_of_getElem? e', rfl⟩
    rw [List.set_cons_succ, List.filterMap_cons]
    rw [List.filterMap_cons] at nd
    cases hx : x.addr? with
    | none =>
      simp only [hx] at nd ⊢
      exact filterMap_set_not r i e' nd
    | some b =>
      simp only [hx, List.nodup_cons] at nd ⊢
      rw [List.mem_cons, not_or]
      exact ⟨fun q => nd.1 (q ▸ hm), filterMap_set_not r i e' nd.2⟩

theorem Inv.freeze {env : Env} (he : EnvOk sc env) {amb : AS} {h : Heap} {i : Nat} {y : Str} {k : NameKind} {a : Addr} {ds : List D} (I : Inv G env amb ρ h) (e1 : sc.names[i]? = some (y, k)) (e2 : ρ[i]? = some (.own a ds)) :
    Inv G env amb (ρ.set i (.val (.lst ds))) h ∧ Go h (wr env ρ) h (wr env (ρ.set i (.val (.lst ds)))) ∧ ∃ v, vget env h y v ∧ Rel h (mu env amb (ρ.set i (.val (.lst ds)))) (.lst ds) v := by
  have sub := wr_unown (env := env) (ρ := ρ) (i := i) (d := .lst ds)
  have mus : ∀ b, mu env amb (ρ.set i (.val (.lst ds))) b → mu env amb ρ b := fun b q => q.imp id fun q => sub.subset q
  obtain ⟨g, na, vs, m, e, rs⟩ := I.var he e1 e2
  have nw : a ∉ wr env (ρ.set i (.val (.lst ds))) := fun q => by
    obtain ⟨p1, p2, p3, p4⟩ := wr_apart I.nd
    have ha : a ∈ ρ.filterMap Slot.addr? := List.mem_filterMap.mpr ⟨_, List.mem_of_getElem? e2, rfl⟩
    unfold wr at q
    simp only [List.mem_cons, List.mem_append] at q
    rcases q with q | q | q
    · exact (p4 a ha).1 q
    · exact (p4 a ha).2 q
    · exact filterMap_set_not ρ i e2 p3 q
  have rv : Rel h (mu env amb (ρ.set i (.val (.lst ds)))) (.lst ds) (.ref a) := ⟨a, vs, m, rfl, e, fun q => q.elim na nw, rs.weak mus⟩
  refine ⟨⟨I.gl, I.top, I.ambLt, fun b q => I.fresh b (sub.subset q), I.nd.sublist sub, I.ns, I.cells, fun j z kz sl f1 f2 => ?_⟩, ⟨fun b o q m => ⟨q, fun w => m (sub.subset w)⟩, fun _ l => l⟩, _, g, rv⟩
  rw [he.is] at f1
  by_cases hj : j = i
  · subst hj
    rw [e1] at f1; cases f1
    have hlt : j < ρ.length := (List.getElem?_eq_some_iff.mp e2).1
    rw [List.getElem?_set_self hlt] at f2; cases f2
    exact ⟨_, g, rv⟩
  · rw [List.getElem?_set_ne (Ne.symm hj)] at f2
    have o := I.var he f1 f2
    cases sl with
    | unset => trivial
    | val d => obtain ⟨v, g', r'⟩ := o; exact ⟨v, g', r'.weak mus⟩
    | own b ds' => obtain ⟨g', nb, vs', m', e', rs'⟩ := o; exact ⟨g', nb, vs', m', e', rs'.weak mus⟩
    | dict hf b kvs => obtain ⟨g', nb, r'⟩ := o; exact ⟨g', nb, r'.kp (fun _ _ _ _ e m => ⟨e, fun x => m (mus _ x)⟩) fun _ e => e⟩

theorem EE.name_own (i : Nat) {y : Str} {k : NameKind} {pos : Pos} {a : Addr} {ds : List D} (e : sc.names[i]? = some (y, k)) (e2 : ρ[i]? = some (.own a ds)) : EE G n sc ρ (.Name y pos) (.lst ds) (ρ.set i (.val (.lst ds))) :=
  fun env he A amb s Q E hA I hQ => by
    obtain ⟨I', g, v, gv, rv⟩ := I.freeze he e e2
    exact vget_load he gv (he.nodebug e) (hQ v s.heap s.toks I' g rv)

theorem fresh_at {env : Env} {amb : AS} {h h' : Heap} {T : String} {vs : List Value} {ds : List D} {D0 : Addr} {m : Nat} (I : Inv G env amb ρ h) (k : ∀ b o, h.get? b = some o → h'.get? b = some o) (e0 : h.get? D0 = Option.none) (e : h'.get? D0 = some (seqObj T vs m)) (r : RelL h (mu env amb ρ) ds vs) :
    Inv G env amb ρ h' ∧ Go h (wr env ρ) h' (wr env ρ) ∧ ¬ mu env amb ρ D0 ∧ RelL h' (mu env amb ρ) ds vs :=
  ⟨I.grow k, Go.of_keeps k, fun q => (mu_live I q).not_none e0, RelL.kp (Kp.of_keeps k) _ _ r⟩

noncomputable abbrev sliced (h : Heap) (vl vu vk : Value) (vs : List Value) : Heap := (h.push { cls := .type "slice", data := .fields #[vl, vu, vk] }).push { cls := .type "list", data := .seq vs.toArray }
theorem slice_end {env : Env} {amb : AS} {h : Heap} {vs : List Value} {ds : List D} (vl vu vk : Value) (I : Inv G env amb ρ h) (r : RelL h (mu env amb ρ) ds vs) :
    Inv G env amb ρ (sliced h vl vu vk vs) ∧ Go h (wr env ρ) (sliced h vl vu vk vs) (wr env ρ) ∧ Rel (sliced h vl vu vk vs) (mu env amb ρ) (.lst ds) (.ref (h.objs.size + 1)) := by
  have k : ∀ b o, h.get? b = some o → (sliced h vl vu vk vs).get? b = some o := fun b o e => Heap.get?_push_of_some _ (Heap.get?_push_of_some _ e)
  have e0 : h.get? (h.objs.size + 1) = Option.none := get_none_of_ge (Nat.le_succ _)
  have e1 : (sliced h vl vu vk vs).get? (h.objs.size + 1) = some (seqObj "list" vs 0) := by
    have := Heap.get?_push_size (h.push { cls := .type "slice", data := .fields #[vl, vu, vk] }) (o := seqObj "list" vs 0) rfl
    rw [Heap.size_push] at this
    exact this
  obtain ⟨a1, a2, a3, a4⟩ := fresh_at I k e0 e1 r
  exact ⟨a1, a2, _, vs, 0, rfl, e1, a3, a4⟩

theorem EE.slice_upto {v u : Expr} {ds : List D} {b : Nat} {p pos : Pos} (x : EE G n sc ρ v (.lst ds) ρ₁) (y : EE G n sc ρ₁ u (.int b) ρ₂) (hz : ds.length ≤ 1000000)
    (hs : autoParam (∀ o i, ∃ ops, subscripted (.Slice Option.none (some u) Option.none p) false o i = operate ops (getItem o i)) byEx) : EE G n sc ρ (.Subscript v (.Slice Option.none (some u) Option.none p) pos) (.lst (ds.take b)) ρ₂ :=
  fun env he A amb s Q E hA I hQ => slice_rule (x env he A amb s _ E hA I fun v1 h1 t1 I1 g1 r1 => wpAny_evalPart_none (wpAny_evalPart_some (y env he A amb _ _ E hA I1 fun v2 h2 t2 I2 g2 r2 => wpAny_evalPart_none (by
    obtain ⟨a, vs, m, rfl, e, na, rs⟩ := Rel.go (d := .lst ds) r1 g2
    obtain ⟨t, rfl⟩ := r2
    refine ⟨a, vs, m, Option.none, some (b : Int), Option.none, rfl, e, by rw [rs.length]; exact hz, .none, .int _ _, .none, by decide, ?_⟩
    rw [slicePick_upto' vs.toArray b]
    obtain ⟨a1, a2, a3⟩ := slice_end _ _ _ I2 (rs.take b)
    exact hQ _ _ _ a1 ((g1.trans g2).trans a2) a3)))) hs
theorem EE.slice_from {v l : Expr} {ds : List D} {b : Nat} {p pos : Pos} (x : EE G n sc ρ v (.lst ds) ρ₁) (y : EE G n sc ρ₁ l (.int b) ρ₂) (hz : ds.length ≤ 1000000)
    (hs : autoParam (∀ o i, ∃ ops, subscripted (.Slice (some l) Option.none Option.none p) false o i = operate ops (getItem o i)) byEx) : EE G n sc ρ (.Subscript v (.Slice (some l) Option.none Option.none p) pos) (.lst (ds.drop b)) ρ₂ :=
  fun env he A amb s Q E hA I hQ => slice_rule (x env he A amb s _ E hA I fun v1 h1 t1 I1 g1 r1 => wpAny_evalPart_some (y env he A amb _ _ E hA I1 fun v2 h2 t2 I2 g2 r2 => wpAny_evalPart_none (wpAny_evalPart_none (by
    obtain ⟨a, vs, m, rfl, e, na, rs⟩ := Rel.go (d := .lst ds) r1 g2
    obtain ⟨t, rfl⟩ := r2
    refine ⟨a, vs, m, some (b : Int), Option.none, Option.none, rfl, e, by rw [rs.length]; exact hz, .int _ _, .none, .none, by decide, ?_⟩
    rw [slicePick_from' vs.toArray b]
    obtain ⟨a1, a2, a3⟩ := slice_end _ _ _ I2 (rs.drop b)
    exact hQ _ _ _ a1 ((g1.trans g2).trans a2) a3)))) hs
theorem EE.slice_last {v u : Expr} {ds : List D} {p pos : Pos} (x : EE G n sc ρ v (.lst ds) ρ₁) (y : EE G n sc ρ₁ u (.int (-1)) ρ₂) (hz : ds.length ≤ 1000000)
    (hs : autoParam (∀ o i, ∃ ops, subscripted (.Slice Option.none (some u) Option.none p) false o i = operate ops (getItem o i)) byEx) : EE G n sc ρ (.Subscript v (.Slice Option.none (some u) Option.none p) pos) (.lst (ds.take (ds.length - 1))) ρ₂ :=
  fun env he A amb s Q E hA I hQ => slice_rule (x env he A amb s _ E hA I fun v1 h1 t1 I1 g1 r1 => wpAny_evalPart_none (wpAny_evalPart_some (y env he A amb _ _ E hA I1 fun v2 h2 t2 I2 g2 r2 => wpAny_evalPart_none (by
    obtain ⟨a, vs, m, rfl, e, na, rs⟩ := Rel.go (d := .lst ds) r1 g2
    obtain ⟨t, rfl⟩ := r2
    refine ⟨a, vs, m, Option.none, some (-1 : Int), Option.none, rfl, e, by rw [rs.length]; exact hz, .none, .int _ _, .none, by decide, ?_⟩
    have hk := slicePick_butLast vs.toArray 1 (Nat.le_refl _)
    rw [show (-((1 : Nat) : Int)) = (-1 : Int) from rfl] at hk
    rw [hk]
    have := rs.take (ds.length - 1)
    have hlen : vs.toArray.size - 1 = ds.length - 1 := by simp [rs.length]
    rw [hlen]
    obtain ⟨a1, a2, a3⟩ := slice_end _ _ _ I2 this
    exact hQ _ _ _ a1 ((g1.trans g2).trans a2) a3)))) hs
theorem EE.slice_rev {v k : Expr} {ds : List D} {p pos : Pos} (x : EE G n sc ρ v (.lst ds) ρ₁) (y : EE G n sc ρ₁ k (.int (-1)) ρ₂) (hz : ds.length ≤ 1000000)
    (hs : autoParam (∀ o i, ∃ ops, subscripted (.Slice Option.none Option.none (some k) p) false o i = operate ops (getItem o i)) byEx) : EE G n sc ρ (.Subscript v (.Slice Option.none Option.none (some k) p) pos) (.lst ds.reverse) ρ₂ :=
  fun env he A amb s Q E hA I hQ => slice_rule (x env he A amb s _ E hA I fun v1 h1 t1 I1 g1 r1 => wpAny_evalPart_none (wpAny_evalPart_none (wpAny_evalPart_some (y env he A amb _ _ E hA I1 fun v2 h2 t2 I2 g2 r2 => by
    obtain ⟨a, vs, m, rfl, e, na, rs⟩ := Rel.go (d := .lst ds) r1 g2
    obtain ⟨t, rfl⟩ := r2
    refine ⟨a, vs, m, Option.none, Option.none, some (-1 : Int), rfl, e, by rw [rs.length]; exact hz, .none, .none, .int _ _, by decide, ?_⟩
    rw [PySem.W.krv_pick vs.toArray]
    obtain ⟨a1, a2, a3⟩ := slice_end _ _ _ I2 rs.reverse
    exact hQ _ _ _ a1 ((g1.trans g2).trans a2) a3)))) hs
end
end Mine

end -- FP
section -- FQ
open PySem PySem.W PyProof.Rows PySem.Calls
open PySem.SeqAt
set_option maxRecDepth 100000
set_option linter.unusedVariables false
namespace Mine

section
variable {G : GC} {n : Nat} {sc : Scope} {ρ ρ₁ ρ₂ ρ₃ : St}

theorem binop_end {env : Env} {amb : AS} {s : Shared} {ρ₀ : St} {h : Heap} {T : String} {vs : List Value} {ds : List D} (I : Inv G env amb ρ h) (r : RelL h (mu env amb ρ) ds vs) :
    Inv G env (addA amb h.objs.size) ρ (h.push (seqObj T vs 0)) ∧ Go h (wr env ρ) (h.push (seqObj T vs 0)) (wr env ρ) ∧ h.get? h.objs.size = Option.none ∧ ¬ amb h.objs.size ∧ h.objs.size ∉ wr env ρ ∧
      (h.push (seqObj T vs 0)).get? h.objs.size = some (seqObj T vs 0) ∧ RelL (h.push (seqObj T vs 0)) (mu env (addA amb h.objs.size) ρ) ds vs := by
  have k' : ∀ b o, h.get? b = some o → (h.push (seqObj T vs 0)).get? b = some o := fun b o e => Heap.get?_push_of_some _ e
  have e0 : h.get? h.objs.size = Option.none := get_none_of_ge (Nat.le_refl _)
  refine ⟨I.growAdd k' e0 ⟨_, Heap.get?_push_size _ rfl⟩, Go.of_keeps k', e0, fun m => Nat.lt_irrefl _ (I.ambLt _ m).1.lt, fun m => Nat.lt_irrefl _ (wr_live I m).lt, Heap.get?_push_size _ rfl, ?_⟩
  exact RelL.kp (fun b T vs n q m => ⟨k' _ _ q, fun x => ((mu_addA b).mp x).elim m fun e => by subst e; rw [e0] at q; cases q⟩) _ _ r

theorem EF.list_add {l r : Expr} {a b : List D} {pos : Pos} (x : EE G n sc ρ l (.lst a) ρ₁) (y : EE G n sc ρ₁ r (.lst b) ρ₂) (hz : a.length + b.length ≤ 1000000) : EF G n sc ρ (.BinOp l .Add r pos) (a ++ b) ρ₂ :=
  fun env he A amb s Q E hA I hQ => wpAny_BinOp (x env he A amb s _ E hA I fun v1 h1 t1 I1 g1 r1 => y env he A amb _ _ E hA I1 fun v2 h2 t2 I2 g2 r2 => by
    obtain ⟨c, vs, m, rfl, e, na, rs⟩ := Rel.go (d := .lst a) r1 g2
    obtain ⟨c', us, m', rfl, e', na', rs'⟩ := r2
    refine P.add_list e e' ?_ (by simp only [List.size_toArray]; rw [rs.length, rs'.length]; exact sizeLine_ge hz)
    obtain ⟨a1, a2, a3, a4, a5, a6, a7⟩ := fresh_end I2 (rs.append rs')
    have ha : vs.toArray ++ us.toArray = (vs ++ us).toArray := by simp
    rw [ha]
    exact hQ _ _ 0 _ t2 a1 ((g1.trans g2).trans a2) ((g1.trans g2).dead a3) a4 a5 a6 a7)

theorem EF.list_mul {l r : Expr} {a : D} {k : Int} {pos : Pos} (x : EE G n sc ρ l (.lst [a]) ρ₁) (y : EE G n sc ρ₁ r (.int k) ρ₂) (hz : k.toNat ≤ 1000) (hlo : -1000 ≤ k) : EF G n sc ρ (.BinOp l .Mult r pos) (List.replicate k.toNat a) ρ₂ :=
  fun env he A amb s Q E hA I hQ => wpAny_BinOp (x env he A amb s _ E hA I fun v1 h1 t1 I1 g1 r1 => y env he A amb _ _ E hA I1 fun v2 h2 t2 I2 g2 r2 => by
    obtain ⟨c, vs, m, rfl, e, na, rs⟩ := Rel.go (d := .lst [a]) r1 g2
    obtain ⟨u, rfl⟩ := r2
    obtain ⟨v, vs', rfl, rv, rn⟩ := rs
    rw [show vs' = [] from rn] at e
    have h64 : (k.toNat : Int) < 2 ^ 63 := by lia
    refine wpAny_binaryOp_repeat_ref (T := "list") (U := "int") (by decide) ⟨_, e, rfl⟩ (fun s' => typeIs_int s' k u) noFill_list_mul F.fills_int_mul F.slot_int_rmul repeat_list F.slot_int_index.lookup
      (call_meets F.slot_int_rmul (typeIs_int _ k u) F.entry_int_rmul (F.args_int_rmul_2 _ _) (lm_int_rmul_list_any k u c #[v] m Option.none #[])
        ⟨e, rfl, ⟨_, e, rfl⟩, call_meets F.slot_list_mul ⟨_, e, rfl⟩ F.entry_list_mul (F.args_list_mul_2 _ _)
          (lm_list_mul_any c #[v] m Option.none #[] k u (by simp [Builtin.List.listFitsIndex]; lia) (by simp; lia) (by simp [Builtin.List.listTooLong, sizeLine]; lia))
          ⟨e, ?_⟩⟩)
    rw [listMul_foldl_if]
    have he2 : (List.replicate k.toNat (#[v] : Array Value).toList).flatten.toArray = (List.replicate k.toNat v).toArray := by
      congr 1
      simp [List.flatten_replicate_singleton]
    rw [he2]
    have rs2 : RelL h2 (mu env amb ρ₂) (List.replicate k.toNat a) (List.replicate k.toNat v) := RelL.replicate rv _
    obtain ⟨a1, a2, a3, a4, a5, a6, a7⟩ := fresh_end I2 rs2
    exact hQ _ _ 0 _ t2 a1 ((g1.trans g2).trans a2) ((g1.trans g2).dead a3) a4 a5 a6 a7)

theorem EE.tuple_add {l r : Expr} {a b : List D} {pos : Pos} (x : EE G n sc ρ l (.tup a) ρ₁) (y : EE G n sc ρ₁ r (.tup b) ρ₂) (ha : a.length ≠ 0) (hb : b.length ≠ 0) (hz : a.length + b.length ≤ 1000000) : EE G n sc ρ (.BinOp l .Add r pos) (.tup (a ++ b)) ρ₂ :=
  fun env he A amb s Q E hA I hQ => wpAny_BinOp (x env he A amb s _ E hA I fun v1 h1 t1 I1 g1 r1 => y env he A amb _ _ E hA I1 fun v2 h2 t2 I2 g2 r2 => by
    obtain ⟨c, vs, m, rfl, e, na, rs⟩ := Rel.go (d := .tup a) r1 g2
    obtain ⟨c', us, m', rfl, e', na', rs'⟩ := r2
    have l1 := rs.length
    have l2 := rs'.length
    refine P.add_tuple e e' (by simp; exact fun q => ha (by rw [← l1, q]; rfl)) (by simp; exact fun q => hb (by rw [← l2, q]; rfl)) ?_ (by simp only [List.size_toArray]; rw [l1, l2]; exact sizeLine_ge hz)
    have ha : vs.toArray ++ us.toArray = (vs ++ us).toArray := by simp
    rw [ha]
    have k' : ∀ b o, h2.get? b = some o → (h2.push (seqObj "tuple" (vs ++ us) 0)).get? b = some o := fun b o e => Heap.get?_push_of_some _ e
    have e0 : h2.get? h2.objs.size = Option.none := get_none_of_ge (Nat.le_refl _)
    obtain ⟨a1, a2, a3, a4⟩ := fresh_at I2 k' e0 (Heap.get?_push_size _ rfl) (rs.append rs')
    exact hQ _ _ t2 a1 ((g1.trans g2).trans a2) ⟨_, _, 0, rfl, Heap.get?_push_size _ rfl, a3, a4⟩)

theorem EE.tup_from {v l : Expr} {ds : List D} {b : Nat} {p pos : Pos} (x : EE G n sc ρ v (.tup ds) ρ₁) (y : EE G n sc ρ₁ l (.int b) ρ₂) (h1 : 1 ≤ b) (h2 : b ≤ ds.length) (hz : ds.length ≤ 1000000)
    (hs : autoParam (∀ o i, ∃ ops, subscripted (.Slice (some l) Option.none Option.none p) false o i = operate ops (getItem o i)) byEx) : EE G n sc ρ (.Subscript v (.Slice (some l) Option.none Option.none p) pos) (.tup (ds.drop b)) ρ₂ :=
  fun env he A amb s Q E hA I hQ => by
    refine Subscript_ (x env he A amb s _ E hA I fun v1 h1' t1 I1 g1 r1 => wpAny_Slice (wpAny_evalPart_some (y env he A amb _ _ E hA I1 fun v2 h2' t2 I2 g2 r2 => wpAny_evalPart_none (wpAny_evalPart_none ?_))))
    obtain ⟨a, vs, m, rfl, e, na, rs⟩ := Rel.go (d := .tup ds) r1 g2
    obtain ⟨t, rfl⟩ := r2
    have ht : IsTup h2' a vs.toArray := ⟨_, e, rfl, m, rfl⟩
    have ht' : IsTup (h2'.push { cls := .type "slice", data := .fields #[.int b t, .none, .none] }) a vs.toArray := ht.keeps fun _ _ e => Heap.get?_push_of_some _ e
    obtain ⟨ops, hops⟩ := hs (.ref a) (.ref h2'.objs.size)
    refine tail_any (IsTup.typeIs (s := { s with heap := h2'.push { cls := .type "slice", data := .fields #[.int b t, .none, .none] }, toks := t2 }) ht') slot_tuple_getitem.lookup (getItem_tuple_from ht' (Heap.IsSliceOf.new ..) h1 (by simp [rs.length]; exact h2) ?_ (by simp only [List.size_toArray]; rw [rs.length]; exact sizeLine_ge hz)) hops
    have k : ∀ c o, h2'.get? c = some o → ((h2'.push { cls := .type "slice", data := .fields #[.int b t, .none, .none] }).push (seqObj "tuple" (vs.drop b) 0)).get? c = some o := fun c o e => Heap.get?_push_of_some _ (Heap.get?_push_of_some _ e)
    have e0 : h2'.get? (h2'.objs.size + 1) = Option.none := get_none_of_ge (Nat.le_succ _)
    have e1 : ((h2'.push { cls := .type "slice", data := .fields #[.int b t, .none, .none] }).push (seqObj "tuple" (vs.drop b) 0)).get? (h2'.objs.size + 1) = some (seqObj "tuple" (vs.drop b) 0) := by
      have := Heap.get?_push_size (h2'.push { cls := .type "slice", data := .fields #[.int b t, .none, .none] }) (o := seqObj "tuple" (vs.drop b) 0) rfl
      rw [Heap.size_push] at this
      exact this
    obtain ⟨a1, a2, a3, a4⟩ := fresh_at I2 k e0 e1 (rs.drop b)
    rw [Heap.size_push]
    exact hQ _ _ t2 a1 ((g1.trans g2).trans a2) ⟨_, _, 0, rfl, e1, a3, a4⟩

theorem ES1.aug_add (i : Nat) {y : Str} {k : NameKind} {e : Expr} {a b : Int} {p pos : Pos} (x : EE G n sc ρ e (.int b) ρ₁) (e1 : sc.names[i]? = some (y, k)) (e2 : ρ[i]? = some (.val (.int a))) (hk : autoParam (k = .local ∨ k = .cell) byDec) :
    ES1 G n sc ρ (.AugAssign (.Name y p) .Add e pos) .next (ρ₁.set i (.val (.int (a + b)))) :=
  fun env he A amb s Q E hA I hQ => by
    obtain ⟨v, gv, t, rfl⟩ := I.var he e1 e2
    refine wpAny_AugAssign_Name ?_
    have ld : wpAny (model G.prog G.w) A (loadName env y) (fun old s₁ => old = .int a t ∧ s₁ = s) E s := by
      rcases gv with ⟨q, m, hn, hm⟩ | ⟨q, c, hc, hv⟩
      · exact wpAny_loadName_local he.fn q hn hm ⟨rfl, rfl⟩
      · exact wpAny_loadName_cell he.fn q hc hv ⟨rfl, rfl⟩
    refine wpAny_mono ld (fun old s₁ ⟨ho, hs⟩ => ?_) fun _ _ e => e
    subst ho hs
    refine x env he A amb s₁ _ E hA I fun v2 h2 t2 I2 g2 r2 => ?_
    obtain ⟨u, rfl⟩ := r2
    refine wpAny_iadd_int (store_val he I2 e1 hk (d := .int (a + b)) ⟨_, rfl⟩ fun h3 t3 I3 g3 => hQ .next h3 t3 I3 (g2.trans g3) rfl)
theorem ES1.aug_sub (i : Nat) {y : Str} {k : NameKind} {e : Expr} {a b : Int} {p pos : Pos} (x : EE G n sc ρ e (.int b) ρ₁) (e1 : sc.names[i]? = some (y, k)) (e2 : ρ[i]? = some (.val (.int a))) (hk : autoParam (k = .local ∨ k = .cell) byDec) :
    ES1 G n sc ρ (.AugAssign (.Name y p) .Sub e pos) .next (ρ₁.set i (.val (.int (a - b)))) :=
  fun env he A amb s Q E hA I hQ => by
    obtain ⟨v, gv, t, rfl⟩ := I.var he e1 e2
    refine wpAny_AugAssign_Name ?_
    have ld : wpAny (model G.prog G.w) A (loadName env y) (fun old s₁ => old = .int a t ∧ s₁ = s) E s := by
      rcases gv with ⟨q, m, hn, hm⟩ | ⟨q, c, hc, hv⟩
      · exact wpAny_loadName_local he.fn q hn hm ⟨rfl, rfl⟩
      · exact wpAny_loadName_cell he.fn q hc hv ⟨rfl, rfl⟩
    refine wpAny_mono ld (fun old s₁ ⟨ho, hs⟩ => ?_) fun _ _ e => e
    subst ho hs
    refine x env he A amb s₁ _ E hA I fun v2 h2 t2 I2 g2 r2 => ?_
    obtain ⟨u, rfl⟩ := r2
    refine isub_int (store_val he I2 e1 hk (d := .int (a - b)) ⟨_, rfl⟩ fun h3 t3 I3 g3 => hQ .next h3 t3 I3 (g2.trans g3) rfl)

theorem own_inj {a : Addr} : ∀ {ρ : St} {i j : Nat} {d e : Slot}, (ρ.filterMap Slot.addr?).Nodup → ρ[i]? = some d → d.addr? = some a → ρ[j]? = some e → e.addr? = some a → i = j
  | [], i, j, d, e, nd, h1, _, h2, _ => by simp at h1
  | x :: r, 0, 0, d, e, nd, h1, _, h2, _ => rfl
  | x :: r, 0, j + 1, d, e, nd, h1, d1, h2, d2 => by
    have hx : x = d := by simpa using h1
    subst hx
    rw [List.filterMap_cons, d1] at nd
    exact absurd (List.mem_filterMap.mpr ⟨_, List.mem_of_getElem? (by simpa using h2 : r[j]? = some e), d2⟩ : a ∈ r.filterMap Slot.addr?) (List.nodup_cons.mp nd).1
  | x :: r, i + 1, 0, d, e, nd, h1, d1, h2, d2 => by
    have hx : x = e := by simpa using h2
    subst hx
    rw [List.filterMap_cons, d2] at nd
    exact absurd (List.mem_filterMap.mpr ⟨_, List.mem_of_getElem? (by simpa using h1 : r[i]? = some d), d1⟩ : a ∈ r.filterMap Slot.addr?) (List.nodup_cons.mp nd).1
  | x :: r, i + 1, j + 1, d, e, nd, h1, d1, h2, d2 => by
    have nd' : (r.filterMap Slot.addr?).Nodup := by
      rw [List.filterMap_cons] at nd
      cases hx : x.addr? with
      | none => simpa [hx] using nd
      | some c => simp only [hx, List.nodup_cons] at nd; exact nd.2
    have := own_inj (i := i) (j := j) nd' (by simpa using h1) d1 (by simpa using h2) d2
    lia
theorem own_set_addr {a : Addr} {ds ds' : List D} : ∀ {ρ : St} {i : Nat}, ρ[i]? = some (.own a ds) → (ρ.set i (.own a ds')).filterMap Slot.addr? = ρ.filterMap Slot.addr?
  | [], i, e => by simp at e
  | x :: r, 0, e => by
    have : x = .own a ds := by simpa using e
    subst this
    rfl
  | x :: r, i + 1, e => by
    rw [List.set_cons_succ, List.filterMap_cons, List.filterMap_cons, own_set_addr (ρ := r) (i := i) (by simpa using e)]
theorem Inv.updOwn {env : Env} (he : EnvOk sc env) {amb : AS} {h h' : Heap} {i : Nat} {y : Str} {k : NameKind} {a : Addr} {ds ds' : List D} {vs' : List Value} {m' : Nat} (I : Inv G env amb ρ h) (e1 : sc.names[i]? = some (y, k)) (e2 : ρ[i]? = some (.own a ds))
    (sb : Heap.SameBut a h h') (e' : h'.get? a = some (seqObj "list" vs' m')) (r : RelL h (mu env amb ρ) ds' vs') :
    Inv G env amb (ρ.set i (.own a ds')) h' ∧ Go h (wr env ρ) h' (wr env (ρ.set i (.own a ds'))) := by
  obtain ⟨gv, na, vs, m, e, rs⟩ := I.var he e1 e2
  have ha : a ∈ wr env ρ := wr_slot e2
  have fmE : (ρ.set i (.own a ds')).filterMap Slot.addr? = ρ.filterMap Slot.addr? := own_set_addr e2
  have wE : wr env (ρ.set i (.own a ds')) = wr env ρ := by unfold wr; rw [fmE]
  have mE : mu env amb (ρ.set i (.own a ds')) = mu env amb ρ := by unfold mu; rw [wE]
  have kp : Kp h (mu env amb ρ) h' (mu env amb ρ) := fun b T us n q mm => ⟨(sb.2 b fun t => mm (.inr (t ▸ ha))).trans q, mm⟩
  have hL : env.locals ≠ a := ((wr_apart I.nd).2.2.2 a (List.mem_filterMap.mpr ⟨_, List.mem_of_getElem? e2, rfl⟩)).1.symm
  have hC : ∀ x c, (x, c) ∈ env.cells → c ≠ a := fun x c hx q => ((wr_apart I.nd).2.2.2 a (List.mem_filterMap.mpr ⟨_, List.mem_of_getElem? e2, rfl⟩)).2 (List.mem_map.mpr ⟨(x, c), hx, q⟩)
  have vg : ∀ z u, vget env h z u → vget env h' z u := fun z u g => by
    rcases g with ⟨q, m, hn, hm⟩ | ⟨q, c, hc, v⟩
    · exact .inl ⟨q, m, hn.sameBut sb hL, hm⟩
    · exact .inr ⟨q, c, hc, v.sameBut sb (hC z c (PySem.mem_of_lookup hc))⟩
  have lv : ∀ b, Live h b → Live h' b := fun b ⟨o, ho⟩ => by
    by_cases q : b = a
    · subst q; exact ⟨_, e'⟩
    · exact ⟨o, (sb.2 b q).trans ho⟩
  refine ⟨⟨I.gl, fun b o q => (sb.2 b fun t => ?_).trans (I.top b o q), fun b q => ⟨lv b (I.ambLt b q).1, (I.ambLt b q).2⟩, fun b q => ?_, by rw [wE]; exact I.nd, ?_, fun x c hx => ?_, fun j z kz sl f1 f2 => ?_⟩, ⟨fun b o q m => ?_, lv⟩⟩
  · subst t; have := (I.fresh b ha).2; rw [q] at this; cases this
  · rw [wE] at q; exact ⟨lv b (I.fresh b q).1, (I.fresh b q).2⟩
  · obtain ⟨m, hn⟩ := I.ns; exact ⟨m, hn.sameBut sb hL⟩
  · obtain ⟨v, hv⟩ := I.cells x c hx; exact ⟨v, hv.sameBut sb (hC x c hx)⟩
  · rw [he.is] at f1
    rw [mE]
    by_cases hj : j = i
    · subst hj
      rw [e1] at f1; cases f1
      have hlt : j < ρ.length := (List.getElem?_eq_some_iff.mp e2).1
      rw [List.getElem?_set_self hlt] at f2; cases f2
      exact ⟨vg _ _ gv, na, vs', m', e', RelL.kp kp _ _ r⟩
    · rw [List.getElem?_set_ne (Ne.symm hj)] at f2
      have o := I.var he f1 f2
      cases sl with
      | unset => trivial
      | val d => obtain ⟨v, g', r'⟩ := o; exact ⟨v, vg _ _ g', Rel.kp kp _ _ r'⟩
      | own b ds2 =>
        obtain ⟨g', nb, us, m2, eb, rb⟩ := o
        have hba : b ≠ a := fun q => by
          subst q
          have : i = j := own_inj (wr_apart I.nd).2.2.1 e2 rfl f2 rfl
          exact hj this.symm
        exact ⟨vg _ _ g', nb, us, m2, (sb.2 b hba).trans eb, RelL.kp kp _ _ rb⟩
      | dict hf b kvs =>
        obtain ⟨g', nb, rb⟩ := o
        have hba : b ≠ a := fun q => by
          subst q
          exact hj (own_inj (wr_apart I.nd).2.2.1 e2 rfl f2 rfl).symm
        exact ⟨vg _ _ g', nb, rb.kp kp fun o e => (sb.2 b hba).trans e⟩
  · rw [wE]
    exact ⟨(sb.2 b fun t => m (t ▸ ha)).trans q, m⟩
end
end Mine

end -- FQ
section -- FR
open PySem PySem.W PyProof.Rows PySem.Calls
open PySem.SeqAt
set_option maxRecDepth 100000
set_option linter.unusedVariables false
namespace Mine

section
variable {G : GC} {n : Nat} {sc : Scope} {ρ ρ₁ ρ₂ ρ₃ : St}

theorem mapSeq_list (vs vs' : List Value) (m : Nat) (f : Array Value → Array Value) (hf : f vs.toArray = vs'.toArray) : ∃ m', Obj.mapSeq f (seqObj "list" vs m) = seqObj "list" vs' m' := by
  refine ⟨if (f vs.toArray).size == vs.toArray.size then m else m + 1, ?_⟩
  show ({ cls := .type "list", data := .seq (f vs.toArray) _ } : Obj) = _
  rw [hf]

theorem upd_list {h : Heap} {a : Addr} {vs vs' : List Value} {m : Nat} {f : Array Value → Array Value} (e : h.get? a = some (seqObj "list" vs m)) (hf : f vs.toArray = vs'.toArray) : ∃ m', (h.update a (Obj.mapSeq f)).get? a = some (seqObj "list" vs' m') ∧ Heap.SameBut a h (h.update a (Obj.mapSeq f)) := by
  obtain ⟨m', hm⟩ := mapSeq_list vs vs' m f hf
  refine ⟨m', ?_, Heap.SameBut.update ..⟩
  rw [Heap.get?_update_self _ e (by rw [hm]; rfl), hm]

theorem ES1.append (i : Nat) {y : Str} {k : NameKind} {e : Expr} {a : Addr} {ds : List D} {d : D} {p ap cp pos : Pos} (e1 : sc.names[i]? = some (y, k)) (e2 : ρ[i]? = some (.own a ds)) (x : EE G n sc ρ e d ρ₁) (e3 : ρ₁[i]? = some (.own a ds)) (hz : ds.length + 1 ≤ 1000000)
    (hbase : autoParam (∀ env, attributeBase (.Name y p) "append" env (eval (.Name y p) env) = eval (.Name y p) env) byRflA) (hline : autoParam ((ap.endLine == cp.line) = true) byRfl)
    (ht : autoParam (∀ env, backTo cp (starEach [e] env) = [(false, eval e env)]) byRflA)
    (hs : autoParam (∀ env, swapsWith (.Call (.Attribute (.Name y p) "append" ap) [e] [] cp) Option.none pos.line env = pure false) byRflA) :
    ES1 G n sc ρ (.Expr (.Call (.Attribute (.Name y p) "append" ap) [e] [] cp) pos) .next (ρ₁.set i (.own a (ds ++ [d]))) :=
  fun env he A amb s Q E hA I hQ => by
    obtain ⟨gv, na, vs0, m0, ea0, _⟩ := I.var he e1 e2
    refine wpAny_Expr ?_ (by unfold interactive; rw [he.fn]; rfl) (hs env)
    refine wpAny_Call_method1_late (hbase env) hline (ht env) (vget_load he gv (he.nodebug e1) ⟨"list", "list.append", F.plainAttrs_list, F.slot_list_append, F.type_list_append, ⟨_, ea0, rfl⟩, fun b hb => ?_, ?_⟩)
    · cases hb; exact ⟨_, ea0, rfl⟩
    · refine P.append_list (x env he A amb s _ E hA I fun v h1 t1 I1 g1 r1 => ?_)
      obtain ⟨gv1, na1, vs, m, ea, rs⟩ := I1.var he e1 e3
      refine ⟨vs.toArray, m, by simp only [List.size_toArray]; rw [rs.length]; exact sizeLine_ge (by lia), ea, ?_⟩
      obtain ⟨m', e', sb⟩ := upd_list (vs' := vs ++ [v]) (f := fun xs => xs.push v) ea (by simp)
      obtain ⟨I2, g2⟩ := I1.updOwn he e1 e3 sb e' (rs.append (es := [d]) ⟨v, [], rfl, r1, rfl⟩)
      exact hQ .next _ t1 I2 (g1.trans g2) rfl

theorem ES1.extend (i : Nat) {y : Str} {k : NameKind} {e : Expr} {a : Addr} {ds es : List D} {p ap cp pos : Pos} (e1 : sc.names[i]? = some (y, k)) (e2 : ρ[i]? = some (.own a ds)) (x : EE G n sc ρ e (.lst es) ρ₁) (e3 : ρ₁[i]? = some (.own a ds)) (hz : ds.length + es.length ≤ 1000000)
    (hbase : autoParam (∀ env, attributeBase (.Name y p) "extend" env (eval (.Name y p) env) = eval (.Name y p) env) byRflA) (hline : autoParam ((ap.endLine == cp.line) = true) byRfl)
    (ht : autoParam (∀ env, backTo cp (starEach [e] env) = [(false, eval e env)]) byRflA)
    (hs : autoParam (∀ env, swapsWith (.Call (.Attribute (.Name y p) "extend" ap) [e] [] cp) Option.none pos.line env = pure false) byRflA) :
    ES1 G n sc ρ (.Expr (.Call (.Attribute (.Name y p) "extend" ap) [e] [] cp) pos) .next (ρ₁.set i (.own a (ds ++ es))) :=
  fun env he A amb s Q E hA I hQ => by
    obtain ⟨gv, na, vs0, m0, ea0, _⟩ := I.var he e1 e2
    refine wpAny_Expr ?_ (by unfold interactive; rw [he.fn]; rfl) (hs env)
    refine wpAny_Call_method1_late (hbase env) hline (ht env) (vget_load he gv (he.nodebug e1) ⟨"list", "list.extend", F.plainAttrs_list, F.slot_list_extend, F.type_list_extend, ⟨_, ea0, rfl⟩, fun b hb => ?_, ?_⟩)
    · cases hb; exact ⟨_, ea0, rfl⟩
    · refine P.extend_list (x env he A amb s _ E hA I fun v h1 t1 I1 g1 r1 => ?_)
      obtain ⟨gv1, na1, vs, m, ea, rs⟩ := I1.var he e1 e3
      obtain ⟨b, us, m2, rfl, eb, nb, rb⟩ := r1
      have hsz : vs.toArray.size + us.toArray.size ≤ sizeLine := by simp only [List.size_toArray]; rw [rs.length, rb.length]; exact sizeLine_ge hz
      refine ⟨b, vs.toArray, us.toArray, m, m2, by lia, by lia, extend_door hsz, rfl, ea, eb, ?_⟩
      obtain ⟨m', e', sb⟩ := upd_list (vs' := vs ++ us) (f := fun xs => xs ++ us.toArray) ea (by simp)
      obtain ⟨I2, g2⟩ := I1.updOwn he e1 e3 sb e' (rs.append rb)
      exact hQ .next _ t1 I2 (g1.trans g2) rfl

theorem ES1.store_item (i : Nat) {y : Str} {k : NameKind} {e v : Expr} {a : Addr} {ds : List D} {d : D} {j : Nat} {p sp pos : Pos} (x : EE G n sc ρ v d ρ₁) (e1 : sc.names[i]? = some (y, k)) (e2 : ρ₁[i]? = some (.own a ds)) (z : EE G n sc ρ₁ e (.int (j : Int)) ρ₂) (e3 : ρ₂[i]? = some (.own a ds)) (hj : j < ds.length) (hz : ds.length ≤ 1000000)
    (hs : autoParam (∀ env, swapsWith v (some (.Subscript (.Name y p) e sp)) pos.line env = pure false) byRflA) :
    ES1 G n sc ρ (.Assign [.Subscript (.Name y p) e sp] v pos) .next (ρ₂.set i (.own a (ds.set j d))) :=
  fun env he A amb s Q E hA I hQ => wpAny_Assign_Subscript (x env he A amb s _ E hA I fun v1 h1 t1 I1 g1 r1 => by
    obtain ⟨gv1, na1, vs1, m1, ea1, _⟩ := I1.var he e1 e2
    refine vget_load he gv1 (he.nodebug e1) (z env he A amb _ _ E hA I1 fun v2 h2 t2 I2 g2 r2 => ?_)
    obtain ⟨u, rfl⟩ := r2
    obtain ⟨gv2, na2, vs, m, ea, rs⟩ := I2.var he e1 e3
    have hl := rs.length
    refine PySem.W.ki_setAt (n := m) (items := vs.toArray) ea (by lia) (by lia) (by simp; lia) ?_
    obtain ⟨m', e', sb⟩ := upd_list (vs' := vs.set j v1) (f := fun xs => xs.setIfInBounds (j : Int).toNat v1) ea (by simp)
    obtain ⟨I3, g3⟩ := I2.updOwn he e1 e3 sb e' (rs.set j (Rel.go r1 g2))
    exact hQ .next _ t2 I3 ((g1.trans g2).trans g3) rfl) (hs env)
end
end Mine

end -- FR
section -- FS
open PySem PySem.W PyProof.Rows PySem.Calls
open PySem.SeqAt
set_option maxRecDepth 100000
set_option linter.unusedVariables false
namespace Mine

noncomputable def EEsO (G : GC) (n : Nat) (sc : Scope) (ρ : St) (es : List Expr) (pre own post : List D) (ρ' : St) : Prop :=
  ∀ env, EnvOk sc env → ∀ pos A amb s Q E, Room n A → Inv G env amb ρ s.heap →
    (∀ vs1 a vsO k vs2 h' t, Inv G env (addA amb a) ρ' h' → Go s.heap (wr env ρ) h' (wr env ρ') → s.heap.get? a = Option.none → ¬ amb a → a ∉ wr env ρ' → h'.get? a = some (seqObj "list" vsO k) → RelL h' (mu env (addA amb a) ρ') own vsO →
      RelL h' (mu env (addA amb a) ρ') pre vs1 → RelL h' (mu env (addA amb a) ρ') post vs2 → Q (vs1 ++ .ref a :: vs2) { s with heap := h', toks := t }) →
    wpAny (model G.prog G.w) A (spliced (backTo pos (starEach es env))) Q E s

section
variable {G : GC} {n : Nat} {sc : Scope} {ρ ρ₁ ρ₂ ρ₃ : St}

theorem EEsO.own {e : Expr} {es : List Expr} {ds post : List D} (x : EF G n sc ρ e ds ρ₁) (y : EEs G n sc ρ₁ es post ρ₂) (hs : autoParam (∀ env, starEach (e :: es) env = (false, eval e env) :: starEach es env) byRflA) : EEsO G n sc ρ (e :: es) [] ds post ρ₂ :=
  fun env he pos A amb s Q E hA I hQ => by
    have : backTo pos (starEach (e :: es) env) = (false, eval e env) :: backTo pos (starEach es env) := by rw [hs env]; rfl
    rw [this]
    refine spliced_cons (x env he A amb s _ E hA I fun a vs k h t I1 g e0 na nw ea r => ?_)
    refine y env he pos A (addA amb a) _ _ E hA I1 fun us h2 t2 I2 g2 r2 _ => ?_
    have hg := g2.keep a _ ea nw
    exact hQ [] a vs k us h2 t2 I2 (g.trans g2) e0 na hg.2 hg.1 (RelL.go r g2) rfl r2

theorem EEsO.cons {e : Expr} {es : List Expr} {d : D} {pre ds post : List D} (x : EE G n sc ρ e d ρ₁) (y : EEsO G n sc ρ₁ es pre ds post ρ₂) (hs : autoParam (∀ env, starEach (e :: es) env = (false, eval e env) :: starEach es env) byRflA) : EEsO G n sc ρ (e :: es) (d :: pre) ds post ρ₂ :=
  fun env he pos A amb s Q E hA I hQ => by
    have : backTo pos (starEach (e :: es) env) = (false, eval e env) :: backTo pos (starEach es env) := by rw [hs env]; rfl
    rw [this]
    refine spliced_cons (x env he A amb s _ E hA I fun v h t I1 g r => ?_)
    refine y env he pos A amb _ _ E hA I1 fun vs1 a vsO k vs2 h2 t2 I2 g2 e0 na nw ea rO r1 r2 => ?_
    have rv : Rel h2 (mu env (addA amb a) ρ₂) d v := Rel.kp (fun b T us m q mm => by
      obtain ⟨p, w⟩ := g2.keep b _ q fun c => mm (.inr c)
      exact ⟨p, fun c => (mu_addA b).mp c |>.elim (fun c => c.elim (fun c => mm (.inl c)) w) fun c => by subst c; rw [e0] at q; cases q⟩) _ _ r
    exact hQ (v :: vs1) a vsO k vs2 h2 t2 I2 (g.trans g2) (g.dead e0) na nw ea rO ⟨v, vs1, rfl, rv, r1⟩ r2

theorem stores_run_app {A : Around} {E : Value → Shared → Prop} {env : Env} {amb : AS} (he : EnvOk sc env) {ts2 : List (Value → Sem Unit)} {vs2 : List Value} :
    ∀ {l : List (Str × D)} {ts : List (Value → Sem Unit)} {ρ ρ' : St} {s : Shared} {vs : List Value} {Q : Unit → Shared → Prop}, Tg env ts l → Stores sc ρ l ρ' → Inv G env amb ρ s.heap → RelL s.heap (mu env amb ρ) (l.map (·.2)) vs →
      (∀ h' t, Inv G env amb ρ' h' → Go s.heap (wr env ρ) h' (wr env ρ') → wpAny (model G.prog G.w) A (assignInOrder ts2 vs2) Q E { s with heap := h', toks := t }) → wpAny (model G.prog G.w) A (assignInOrder (ts ++ ts2) (vs ++ vs2)) Q E s := by
  intro l
  induction l with
  | nil =>
    intro ts ρ ρ' s vs Q T S I r hQ
    cases S
    rw [show vs = [] from r]
    cases T
    exact hQ s.heap s.toks I (Go.refl ..)
  | cons x l ih =>
    intro ts ρ ρ' s vs Q T S I r hQ
    obtain ⟨y, d⟩ := x
    cases S with
    | cons i k hi hk S' =>
    obtain ⟨v, vs', rfl, rv, rs⟩ := r
    cases T with
    | bind T' => exact inOrder_cons (store_val he I hi hk rv fun h' t I' g => ih T' S' I' (RelL.go rs g) fun h'' t' I'' g' => hQ h'' t' I'' (g.trans g'))
    | name T' => exact inOrder_cons' (store_val he I hi hk rv fun h' t I' g => ih T' S' I' (RelL.go rs g) fun h'' t' I'' g' => hQ h'' t' I'' (g.trans g'))

theorem zip_bind (env : Env) (ys : List Str) (ds : List D) (h : ys.length = ds.length) : (((ys.zip ds).reverse).map fun x => (fun v => bindName env x.1 v)) = (ys.map fun n => bindName env n).reverse ∧ ((ys.zip ds).reverse).map (·.2) = ds.reverse := by
  constructor
  · rw [List.map_reverse]
    congr 1
    have := List.map_map (l := ys.zip ds) (f := Prod.fst) (g := fun (n : Str) => fun v => bindName env n v)
    rw [List.map_fst_zip (by lia)] at this
    exact this.symm
  · rw [List.map_reverse, List.map_snd_zip (by lia)]

theorem ES.assign_swap_own (i : Nat) {y : Str} {ky : NameKind} {ys1 ys2 : List Str} {ts : List Expr} {es : List Expr} {pre ds post : List D} {ρ₄ : St} {ρ' : Addr → St} {k k' : Nat} {p p' pos : Pos} {rest : List Stmt} {f : Fl} (x : EEsO G n sc ρ es pre ds post ρ₁)
    (S2 : Stores sc ρ₁ ((ys2.zip post).reverse) ρ₂) (S1 : ∀ a, Stores sc (ρ₂.set i (.own a ds)) ((ys1.zip pre).reverse) (ρ' a))
    (z : ∀ a, ES G n sc (ρ' a) rest f ρ₄) (hi : autoParam (sc.names[i]? = some (y, ky)) byRfl) (hk : autoParam (ky = .local ∨ ky = .cell) byDec)
    (hl1 : autoParam (ys1.length = pre.length) byRfl) (hl2 : autoParam (ys2.length = post.length) byRfl) (hz : autoParam (pre.length + post.length ≤ 1000) byBle)
    (hsw : autoParam (∀ env, env.scope = sc → swappedStores [.Tuple ts k p] (.Tuple es k' p') env = pure (some (ys1 ++ y :: ys2))) byEnv) : ES G n sc ρ (.Assign [.Tuple ts k p] (.Tuple es k' p') pos :: rest) f ρ₄ :=
  fun env he A amb s Q E hA I hQ => by
    refine wpAny_execs_cons ?_
    show wpAny _ _ (do
      standAt pos
      if ← swapsWithSole [.Tuple ts k p] (.Tuple es k' p') pos.line env then do
        evalThenUse (.Tuple es k' p') env fun v => assignAll v ((assignEach [.Tuple ts k p] env).map (·.2))
        pure .next
      else do
        let v ← eval (.Tuple es k' p') env
        assignStores env v (← swappedStores [.Tuple ts k p] (.Tuple es k' p') env) ((assignEach [.Tuple ts k p] env).map (·.2))) _ _ _
    refine wpAny_bind (wpAny_standAt ?_)
    have e0 : swapsWithSole [.Tuple ts k p] (.Tuple es k' p') pos.line env = pure false := rfl
    rw [e0]
    refine wpAny_bind (wpAny_pure ?_)
    rw [if_neg Bool.false_ne_true]
    refine wpAny_bind (Tuple_ (x env he p' A amb s _ E hA I fun vs1 a vsO m0 vs2 h t I1 g e0 na nw ea rO r1 r2 => ?_))
    have hn1 := r1.length
    have hn2 := r2.length
    refine wpAny_newTuple ?_ (by
      rw [List.length_append, List.length_cons]
      exact sizeLine_ge (by lia))
    rw [hsw env he.is]
    refine wpAny_bind (wpAny_pure ?_)
    unfold assignStores
    dsimp only
    refine wpAny_bind (wpAny_rule ?_)
    have ht : Heap.IsTuple (h.push (seqObj "tuple" (vs1 ++ .ref a :: vs2) 0)) h.objs.size (vs1 ++ .ref a :: vs2).toArray := ⟨_, Heap.get?_push_size _ rfl, rfl, _, rfl⟩
    have hsz : (ys1 ++ y :: ys2).length = (vs1 ++ .ref a :: vs2).toArray.size := by simp [hn1, hn2, hl1, hl2]
    rw [hsz]
    refine wpAny_bind (wpAny_unpackItems_tuple hA.handled ht fun h' eb => ?_)
    have k1 : ∀ b o, h.get? b = some o → h'.get? b = some o := fun b o q => eb b o (Nat.ne_of_lt (by rw [Heap.size_push]; exact Nat.lt_succ_of_lt (Heap.lt_size q))) (Heap.get?_push_of_some _ q)
    have I2 := I1.grow k1
    have kp := Kp.of_keeps (M := mu env (addA amb a) ρ₁) k1
    have r1' := RelL.kp kp _ _ r1
    have r2' := RelL.kp kp _ _ r2
    have rO' := RelL.kp kp _ _ rO
    obtain ⟨zb2, zd2⟩ := zip_bind env ys2 post hl2
    obtain ⟨zb1, zd1⟩ := zip_bind env ys1 pre hl1
    refine wpAny_bind ?_
    have et : ((ys1 ++ y :: ys2).reverse.map fun n => bindName env n) = (ys2.map fun n => bindName env n).reverse ++ ((fun v => bindName env y v) :: (ys1.map fun n => bindName env n).reverse) := by
      simp
    have ev : (vs1 ++ .ref a :: vs2).toArray.toList.reverse = vs2.reverse ++ (.ref a :: vs1.reverse) := by simp
    show wpAny _ _ (assignInOrder ((ys1 ++ y :: ys2).reverse.map fun n => bindName env n) (vs1 ++ .ref a :: vs2).toArray.toList.reverse) _ _ _
    rw [et, ev, ← zb2]
    refine stores_run_app he (Tg.ofBind env _) S2 I2 (by rw [zd2]; exact r2'.reverse) fun h3 t3 I3 g3 => ?_
    have ea3 := g3.keep a _ (k1 _ _ ea) nw
    have rO3 := RelL.go rO' g3
    have r13 := RelL.go r1' g3
    refine inOrder_cons (storeName_stored he I3.nd I3.ns I3.cells hi hk (fun q => he.cl y (q ▸ he.kind hi)) fun c h4 t4 S => ?_)
    obtain ⟨I4, g4⟩ := I3.stored_own he S hi na ea3.2 ea3.1 rO3
    have gall := g4 _ _ ((g.trans (Go.of_keeps k1)).trans g3) e0
    have r14 : RelL h4 (mu env amb (ρ₂.set i (.own a ds))) pre vs1 := by
      refine RelL.kp (fun b T us m q mm => ?_) _ _ r13
      refine ⟨(S.same.2 b fun w => S.notSeq T us m (w ▸ q)).trans q, fun w => mm ?_⟩
      rcases w with w | w
      · exact .inl (.inl w)
      · rcases (wr_own_set (i := i) (ds := ds) I3.nd ea3.2).2 b w with w | w
        · exact .inl (.inr w)
        · exact .inr w
    rw [← zb1]
    refine stores_run he (Tg.ofBind env _) (S1 a) I4 (by rw [zd1]; exact r14.reverse) fun h5 t5 I5 g5 => wpAny_pure ?_
    exact z a env he A amb _ Q E hA I5 fun fl h6 t6 I6 g6 fo => hQ fl h6 t6 I6 ((gall.trans g5).trans g6) fo
end
end Mine

end -- FS
section -- FT
open PySem PySem.W PyProof.Rows PySem.Calls
open PySem.SeqAt
set_option maxRecDepth 100000
set_option linter.unusedVariables false
namespace Mine

noncomputable def ItemAt (ds : List D) (k : Int) (d : D) : Prop := ds.length ≤ 1000000 ∧ ∃ j, seqIndex? k ds.length = some j ∧ ds[j]? = some d

section
variable {G : GC} {n : Nat} {sc : Scope} {ρ ρ₁ ρ₂ ρ₃ : St}

theorem EE.item_t' {v i : Expr} {ds : List D} {k : Int} {d : D} {pos : Pos} (x : EE G n sc ρ v (.tup ds) ρ₁) (y : EE G n sc ρ₁ i (.int k) ρ₂) (h : ItemAt ds k d) (hs : autoParam (Sub1 i) byUnfB) : EE G n sc ρ (.Subscript v i pos) d ρ₂ :=
  let ⟨hz, _, hj, hx⟩ := h; EE.item_t x y hj hx hz hs
theorem EE.item_l' {v i : Expr} {ds : List D} {k : Int} {d : D} {pos : Pos} (x : EE G n sc ρ v (.lst ds) ρ₁) (y : EE G n sc ρ₁ i (.int k) ρ₂) (h : ItemAt ds k d) (hs : autoParam (Sub1 i) byUnfB) : EE G n sc ρ (.Subscript v i pos) d ρ₂ :=
  let ⟨hz, _, hj, hx⟩ := h; EE.item_l x y hj hx hz hs
theorem EE.item_own' {y : Str} {k0 : NameKind} (i0 : Nat) {i : Expr} {a0 : Addr} {ds : List D} {k : Int} {d : D} {p0 pos : Pos} (e1 : sc.names[i0]? = some (y, k0)) (e2 : ρ[i0]? = some (.own a0 ds))
    (x : EE G n sc ρ i (.int k) ρ₁) (e3 : ρ₁[i0]? = some (.own a0 ds)) (h : ItemAt ds k d) (hs : autoParam (Sub1 i) byUnfB) : EE G n sc ρ (.Subscript (.Name y p0) i pos) d ρ₁ :=
  let ⟨hz, _, hj, hx⟩ := h; EE.item_own i0 e1 e2 x e3 hj hx hz hs

theorem ItemAt.nat {ds : List D} {j : Nat} {d : D} (hx : ds[j]? = some d) (hz : ds.length ≤ 1000000) : ItemAt ds (j : Int) d :=
  ⟨hz, j, seqIndex_nat (List.getElem?_eq_some_iff.mp hx).1, hx⟩
theorem ItemAt.last {ds : List D} {d : D} (hx : ds[ds.length - 1]? = some d) (hz : ds.length ≤ 1000000) : ItemAt ds (-1) d := by
  have h0 : 0 < ds.length := by have := (List.getElem?_eq_some_iff.mp hx).1; lia
  refine ⟨hz, ds.length - 1, ?_, hx⟩
  have := seqIndex_neg (k := 0) (len := ds.length) h0
  simpa using this

theorem EF.list_of_t (i : Nat) {e : Expr} {ds : List D} {p pos : Pos} (x : EE G n sc ρ e (.tup ds) ρ₁) (hi : sc.names[i]? = some (("list" : Str), .globalImplicit)) (hz : ds.length ≤ 1000000)
    (hs : autoParam (∀ env, starEach [e] env = [(false, eval e env)]) byRflA) : EF G n sc ρ (.Call (.Name "list" p) [e] [] pos) ds ρ₁ :=
  fun env he A amb s Q E hA I hQ => by
    refine wpAny_Call_Name_kw (wpAny_builtinName he I hi (by decide) PyProof.Rows.boot_list ?_)
    show wpAny _ _ (callWith pos (.type "list") [] (backTo pos (starEach [e] env)) []) _ _ _
    rw [hs env]
    refine callWith_isB (.t _) rfl (evalArgs_plain (spliced_cons ?_))
    refine x env he A amb s _ E hA I fun v h t I1 g r => spliced_nil ?_
    obtain ⟨a, us, m, rfl, e, na, rs⟩ := r
    refine call_list_seq a (.inr rfl) e rfl rfl (fun h' c' k e' => ?_) (by simp only [List.size_toArray]; rw [rs.length]; exact sizeLine_ge hz)
    have e0 : h.get? h.objs.size = Option.none := get_none_of_ge (Nat.le_refl _)
    refine hQ h.objs.size us c' h' t (I1.growAdd k e0 ⟨_, e'⟩) (g.trans (Go.of_keeps k)) (g.dead e0) (fun q => Nat.lt_irrefl _ (I1.ambLt _ q).1.lt) (fun q => Nat.lt_irrefl _ (wr_live I1 q).lt) e' ?_
    exact RelL.kp (fun b T vs n q mm => ⟨k _ _ q, fun x => ((mu_addA b).mp x).elim mm fun e => by subst e; rw [e0] at q; cases q⟩) _ _ rs

theorem EE.str_add {l r : Expr} {a b : Str} {pos : Pos} (x : EE G n sc ρ l (.str a) ρ₁) (y : EE G n sc ρ₁ r (.str b) ρ₂) (hz : a.length + b.length ≤ 1000000) : EE G n sc ρ (.BinOp l .Add r pos) (.str (a ++ b)) ρ₂ :=
  fun env he A amb s Q E hA I hQ => wpAny_BinOp (x env he A amb s _ E hA I fun v1 h1 t1 I1 g1 r1 => y env he A amb _ _ E hA I1 fun v2 h2 t2 I2 g2 r2 => by
    obtain ⟨t, rfl⟩ := r1; obtain ⟨u, rfl⟩ := r2
    exact PyProof.Rows.add_str (fun t' tk => hQ _ h2 tk I2 (g1.trans g2) ⟨_, rfl⟩) (sizeLine_ge hz))

theorem EE.slt {l r : Expr} {a b : Str} {pos : Pos} (x : EE G n sc ρ l (.str a) ρ₁) (y : EE G n sc ρ₁ r (.str b) ρ₂) (hm : autoParam (behindInMarks .Lt r = false) byUnf) : EE G n sc ρ (.Compare l [.Lt] [r] pos) (.bool (decide (a.cps.toList < b.cps.toList))) ρ₂ :=
  fun env he A amb s Q E hA I hQ => wpAny_Compare1 (x env he A amb s _ E hA I fun v1 h1 t1 I1 g1 r1 => y env he A amb _ _ E hA I1 fun v2 h2 t2 I2 g2 r2 => by
    obtain ⟨t, rfl⟩ := r1; obtain ⟨u, rfl⟩ := r2
    exact PyProof.Rows.lt_str (hQ _ h2 t2 I2 (g1.trans g2) rfl)) hm
theorem ET.slt {l r : Expr} {a b : Str} {pos : Pos} (x : EE G n sc ρ l (.str a) ρ₁) (y : EE G n sc ρ₁ r (.str b) ρ₂) (hm : autoParam (behindInMarks .Lt r = false) byUnf) : ET G n sc ρ (.Compare l [.Lt] [r] pos) (decide (a.cps.toList < b.cps.toList)) ρ₂ :=
  fun env he A amb s Q E hA I hQ => wpAny_isTrue_Compare1 (x env he A amb s _ E hA I fun v1 h1 t1 I1 g1 r1 => y env he A amb _ _ E hA I1 fun v2 h2 t2 I2 g2 r2 => by
    obtain ⟨t, rfl⟩ := r1; obtain ⟨u, rfl⟩ := r2
    exact PyProof.Rows.lt_str (wpAny_truthy_bool (hQ h2 t2 I2 (g1.trans g2)))) hm
end

noncomputable def compChk (sc scope : Scope) : Bool := sc.kind == .function && scope.kind == .function && decide ((scope.names.map (·.1)).Nodup) && scope.names.all fun z => (z.2 != .cell) && (z.2 != .free || sc.names.lookup z.1 == some .cell)
end Mine

end -- FT
section -- WA
open PySem PySem.W PyProof.Rows PySem.Calls
set_option maxRecDepth 100000
namespace Mine

noncomputable def defAt (i : Nat) : Stmt := (PySem.Challenge.pw_pq0200_01.main.body[i]?).getD (.Pass ⟨0,0,0,0⟩)

noncomputable abbrev scAt (i : Nat) : Scope := scopeOf (defAt i)

noncomputable def HasDefs (G : GC) : Prop := ∀ i, nameOf (defAt i) ≠ Str.empty → DefIs G (nameOf (defAt i)) (paramsOf (defAt i)) (bodyOf (defAt i)) (scopeOf (defAt i))

noncomputable def scOk (sc : Scope) : Bool := sc.kind == .function && !sc.isGenerator && !sc.isCoroutine && decide ((sc.names.map (·.1)).Nodup) && sc.names.all fun x => !(x.1 == ("__debug__" : Str))
theorem ScOk.of {sc : Scope} (h : scOk sc = true) : ScOk sc := by
  unfold scOk at h
  simp only [Bool.and_eq_true, Bool.not_eq_true', decide_eq_true_eq, List.all_eq_true] at h
  obtain ⟨⟨⟨⟨a, b⟩, c⟩, d⟩, e⟩ := h
  exact ⟨by simpa using a, b, c, d, fun x hx => by simpa using e x hx⟩

theorem CompOk.of {sc scope : Scope} (h : (scOk (relS sc scope) && compChk sc scope) = true) : CompOk sc scope := by
  rw [Bool.and_eq_true] at h
  obtain ⟨h1, h2⟩ := h
  unfold compChk at h2
  simp only [Bool.and_eq_true, decide_eq_true_eq, List.all_eq_true, Bool.or_eq_true] at h2
  obtain ⟨⟨⟨a, b⟩, c⟩, d⟩ := h2
  refine ⟨ScOk.of h1, c, by simpa using b, fun z hz => by simpa using (d z hz).1, fun z hz e => ?_⟩
  rcases (d z hz).2 with q | q
  · rw [e] at q; simp at q
  · simpa using q

noncomputable def paramsOk (params : Arguments) (sc : Scope) : Bool := (params.args.zipIdx).all fun x => match sc.names[x.2]? with
  | some (y, k) => y == x.1.arg && (k == .local || k == .cell)
  | none => false
theorem ParamsOk.of {params : Arguments} {sc : Scope} (h : paramsOk params sc = true) : ParamsOk params sc := fun j x e => by
  unfold paramsOk at h
  rw [List.all_eq_true] at h
  rw [List.getElem?_map] at e
  obtain ⟨a, ha, rfl⟩ := Option.map_eq_some_iff.mp e
  have := h (a, j) (List.mem_iff_getElem?.mpr ⟨j, by rw [List.getElem?_zipIdx, ha]; simp⟩)
  cases q : sc.names[j]? with
  | none => simp [q] at this
  | some y =>
    obtain ⟨y, k⟩ := y
    simp only [q, Bool.and_eq_true, Bool.or_eq_true, beq_iff_eq] at this
    exact ⟨k, by rw [this.1], this.2⟩

noncomputable def vsAll : Nat → (List Value → Prop) → Prop
  | 0, P => P []
  | n + 1, P => ∀ v, vsAll n fun vs => P (v :: vs)
theorem vsAll_at : ∀ (n : Nat) {P : List Value → Prop}, vsAll n P → ∀ vs, vs.length = n → P vs
  | 0, P, h, [], _ => h
  | n + 1, P, h, v :: vs, e => vsAll_at n (h v) vs (Nat.succ.inj e)
def byVs : Lean.Syntax := tSeq #[tIntro #[tHole, tHole, tHole], Lean.mkAtom ";",
  tNode `Lean.Parser.Tactic.tacticRepeat_ #[Lean.mkAtom "repeat", tSeq #[tNode `Lean.Parser.Tactic.refine #[Lean.mkAtom "refine",
    tNode `Lean.Parser.Term.fun #[Lean.mkAtom "fun", tNode `Lean.Parser.Term.basicFun #[tNode `null #[tHole], tNode `null #[], Lean.mkAtom "=>", tNode `Lean.Parser.Term.syntheticHole #[Lean.mkAtom "?", tHole]]]]]],
  Lean.mkAtom ";", tExact (tId `rfl)]
theorem FnSpec.at {G : GC} {m : Nat} {f : Str} {ds : List D} {d : D} (i : Nat) (HD : HasDefs G) (ok : scOk (scAt i) = true) (po : paramsOk (paramsOf (defAt i)) (scAt i) = true)
    (x : ∃ ρ', ES G m (scAt i) (ini ds 10) (bodyOf (defAt i)) (.ret d) ρ') (hf : autoParam (nameOf (defAt i) = f) byRfl) (hne : autoParam (f ≠ Str.empty) byDec)
    (hb : autoParam (∀ pm cd doc, vsAll ds.length fun vs => bindArgs (docDef (nameOf (defAt i)) (paramsOf (defAt i)) (bodyOf (defAt i)) (scAt i) pm cd doc) ⟨vs, []⟩ = pure (((paramsOf (defAt i)).args.map (·.arg)).zip vs)) byVs)
    (hl : autoParam ((paramsOf (defAt i)).args.length = ds.length) byRfl) : FnSpec G m f ds d := by
  subst hf
  obtain ⟨ρ', x⟩ := x
  exact FnSpec.intro (fun _ => HD i hne) (ScOk.of ok) (ParamsOk.of po) (fun pm cd doc vs h => vsAll_at _ (hb pm cd doc) vs h) hl 10 x

theorem ok3 : scOk (scAt 3) = true := by decide +kernel
theorem po3 : paramsOk (paramsOf (defAt 3)) (scAt 3) = true := by decide +kernel

section
variable {G : GC}

theorem gcd_step (a b : Int) (ha : 0 ≤ a) (hb : 0 ≤ b) : Int.gcd a b = Int.gcd b (a % b) := by
  unfold Int.gcd
  have h : (a % b).natAbs = a.natAbs % b.natAbs := by
    obtain ⟨m, rfl⟩ := Int.eq_ofNat_of_zero_le ha
    obtain ⟨k, rfl⟩ := Int.eq_ofNat_of_zero_le hb
    simp only [Int.ofNat_eq_natCast, Int.natAbs_natCast]
    rw [← Int.natCast_emod, Int.natAbs_natCast]
  rw [h, Nat.gcd_comm b.natAbs, ← Nat.gcd_rec, Nat.gcd_comm]

theorem gcd_loop (r : St) (test : Expr) (body : List Stmt) (ht : ∀ a b : Int, ET G 0 (scAt 3) (.val (.int a) :: .val (.int b) :: r) test (b != 0) (.val (.int a) :: .val (.int b) :: r))
    (hb : ∀ a b : Int, b ≠ 0 → ES G 0 (scAt 3) (.val (.int a) :: .val (.int b) :: r) body .next (.val (.int b) :: .val (.int (a.fmod b)) :: r)) :
    ∀ (k : Nat) (a b : Int), 0 ≤ a → 0 ≤ b → b.toNat ≤ k → EW G 0 (scAt 3) (.val (.int a) :: .val (.int b) :: r) test body .next (.val (.int (Int.gcd a b)) :: .val (.int 0) :: r) := by
  intro k
  induction k with
  | zero =>
    intro a b ha hb' hk
    have : b = 0 := Int.le_antisymm (Int.toNat_eq_zero.mp (Nat.le_zero.mp hk)) hb'
    subst this
    have e : (Int.gcd a 0 : Int) = a := by rw [Int.gcd_zero_right]; exact Int.natAbs_of_nonneg ha
    rw [e]
    exact EW.done (ht a 0)
  | succ k ih =>
    intro a b ha hb' hk
    by_cases h0 : b = 0
    · subst h0
      have e : (Int.gcd a 0 : Int) = a := by rw [Int.gcd_zero_right]; exact Int.natAbs_of_nonneg ha
      rw [e]
      exact EW.done (ht a 0)
    · have e : Int.gcd a b = Int.gcd b (a.fmod b) := by
        rw [Int.fmod_eq_emod_of_nonneg a hb']
        exact gcd_step a b ha hb'
      rw [e]
      have hpb : 0 < b := Int.lt_iff_le_and_ne.mpr ⟨hb', Ne.symm h0⟩
      have h1 : 0 ≤ a.fmod b := Int.fmod_nonneg ha hb'
      have h2 : a.fmod b < b := Int.fmod_lt_of_pos a hpb
      exact EW.step ((ht a b).conv (by simpa using h0)) (hb a b h0) (ih b _ hb' h1 (Nat.le_of_lt_succ (Nat.lt_of_lt_of_le ((Int.toNat_lt_toNat hpb).mpr h2) hk)))

theorem abs_nn (a : Int) : 0 ≤ (if a < 0 then -a else a) := by
  split
  · exact Int.neg_nonneg_of_nonpos (Int.le_of_lt ‹_›)
  · exact Int.not_lt.mp ‹_›
theorem sp_gcd (HD : HasDefs G) (a b : Int) : FnSpec G 0 (Str.ofString "gcd") [.int a, .int b] (.int (Int.gcd a b)) := by
  refine FnSpec.at 3 HD ok3 po3 ⟨_, ES.cons (ρ₁ := .val (.int (if a < 0 then -a else a)) :: .val (.int (if b < 0 then -b else b)) :: List.replicate 10 .unset)
    (ES1.assign_swap (ys := [Str.ofString "a", Str.ofString "b"])
      (EEs.cons (EE.bcall 2 bs_abs (.b _) (by decide) boot_abs rfl (EEs.cons (EE.name 0 rfl rfl) EEs.nil)) (EEs.cons (EE.bcall 2 bs_abs (.b _) (by decide) boot_abs rfl (EEs.cons (EE.name 1 rfl rfl) EEs.nil)) EEs.nil))
      (.cons 1 .local rfl (.inl rfl) (.cons 0 .local rfl (.inl rfl) .nil)) rfl)
    (ES.cons (ES1.while (gcd_loop _ _ _ (fun a b => ET.ine (EE.name 1 rfl rfl) EE.int)
      (fun a b h => ES.cons (ES1.assign_swap (ys := [Str.ofString "a", Str.ofString "b"]) (EEs.cons (EE.name 1 rfl rfl) (EEs.cons (EE.mod (EE.name 0 rfl rfl) (EE.name 1 rfl rfl) h) EEs.nil)) (.cons 1 .local rfl (.inl rfl) (.cons 0 .local rfl (.inl rfl) .nil)) rfl) ES.nil)
      _ _ _ (abs_nn a) (abs_nn b) (Nat.le_refl _)))
    (ES.ret (ES1.ret (EE.conv (EE.name 0 rfl rfl) (by
        congr 1
        have e : ∀ a : Int, (if a < 0 then -a else a).natAbs = a.natAbs := fun a => by split; exact Int.natAbs_neg a; rfl
        unfold Int.gcd
        rw [e, e])))))⟩
end
end Mine

end -- WA
section -- FU
open PySem PySem.W PyProof.Rows PySem.Calls
open PySem.SeqAt
set_option maxRecDepth 100000
set_option linter.unusedVariables false
set_option linter.unusedSectionVars false
namespace Mine

section
variable {G : GC} {n : Nat} {sc : Scope} {ρ ρ₁ ρ₂ ρ₃ : St} {α : Type} {φ : α → D}

theorem ET.and_last {e : Expr} {b : Bool} {pos : Pos} (x : ET G n sc ρ e b ρ₁) : ET G n sc ρ (.BoolOp .And [e] pos) b ρ₁ := by
  cases b
  · exact ET.and_f x
  · exact ET.and_t x ET.and_nil
theorem ET.or_last {e : Expr} {b : Bool} {pos : Pos} (x : ET G n sc ρ e b ρ₁) : ET G n sc ρ (.BoolOp .Or [e] pos) b ρ₁ := by
  cases b
  · exact ET.or_f x ET.or_nil
  · exact ET.or_t x

theorem lzm {l : List α} (h : l.length ≤ 1000) : (l.map φ).length ≤ 1000000 := by rw [List.length_map]; lia
theorem itm {l : List α} (d0 : α) (j : Nat) (h : j < l.length) (hz : l.length ≤ 1000) {k : Int} (hk : k = (j : Int)) : ItemAt (l.map φ) k (φ (l.getD j d0)) := by
  subst hk
  refine ItemAt.nat ?_ (lzm hz)
  rw [List.getElem?_map, List.getElem?_eq_getElem h]
  simp [List.getD_eq_getElem?_getD, List.getElem?_eq_getElem h]
theorem itlast {l : List α} (d0 : α) (h : 0 < l.length) (hz : l.length ≤ 1000) : ItemAt (l.map φ) (-1) (φ (l.getD (l.length - 1) d0)) := by
  refine ItemAt.last ?_ (lzm hz)
  have h1 : l.length - 1 < l.length := Nat.sub_lt h Nat.one_pos
  rw [List.length_map, List.getElem?_map, List.getElem?_eq_getElem h1]
  simp [List.getD_eq_getElem?_getD, List.getElem?_eq_getElem h1]
theorem bs_len_m {l : List α} (hz : l.length ≤ 1000) : BSpec G (.builtin "len") [.lst (l.map φ)] (.int l.length) := by
  have := bs_len_l (G := G) (ds := l.map φ) (lzm hz)
  rwa [List.length_map] at this
theorem EE.len_own_m (i j : Nat) {y : Str} {k0 : NameKind} {a : Addr} {l : List α} {p p2 pos : Pos} (e1 : sc.names[j]? = some (y, k0)) (e2 : ρ[j]? = some (.own a (l.map φ))) (hi : sc.names[i]? = some (("len" : Str), .globalImplicit)) (hz : l.length ≤ 1000) : EE G n sc ρ (.Call (.Name "len" p) [.Name y p2] [] pos) (.int l.length) ρ := by
  have := EE.len_own (G := G) (n := n) (p := p) (p2 := p2) (pos := pos) i j e1 e2 hi (lzm hz)
  rwa [List.length_map] at this
theorem EE.slice_upto_m {v u : Expr} {l : List α} {b : Nat} {p pos : Pos} (x : EE G n sc ρ v (.lst (l.map φ)) ρ₁) (y : EE G n sc ρ₁ u (.int b) ρ₂) (hz : l.length ≤ 1000)
    (hs : autoParam (∀ o i, ∃ ops, subscripted (.Slice Option.none (some u) Option.none p) false o i = operate ops (getItem o i)) byEx) : EE G n sc ρ (.Subscript v (.Slice Option.none (some u) Option.none p) pos) (.lst ((l.take b).map φ)) ρ₂ := by
  rw [List.map_take]; exact EE.slice_upto x y (lzm hz) hs
theorem EE.slice_from_m {v u : Expr} {l : List α} {b : Nat} {p pos : Pos} (x : EE G n sc ρ v (.lst (l.map φ)) ρ₁) (y : EE G n sc ρ₁ u (.int b) ρ₂) (hz : l.length ≤ 1000)
    (hs : autoParam (∀ o i, ∃ ops, subscripted (.Slice (some u) Option.none Option.none p) false o i = operate ops (getItem o i)) byEx) : EE G n sc ρ (.Subscript v (.Slice (some u) Option.none Option.none p) pos) (.lst ((l.drop b).map φ)) ρ₂ := by
  rw [List.map_drop]; exact EE.slice_from x y (lzm hz) hs
theorem EE.slice_last_m {v u : Expr} {l : List α} {p pos : Pos} (x : EE G n sc ρ v (.lst (l.map φ)) ρ₁) (y : EE G n sc ρ₁ u (.int (-1)) ρ₂) (hz : l.length ≤ 1000)
    (hs : autoParam (∀ o i, ∃ ops, subscripted (.Slice Option.none (some u) Option.none p) false o i = operate ops (getItem o i)) byEx) : EE G n sc ρ (.Subscript v (.Slice Option.none (some u) Option.none p) pos) (.lst ((l.take (l.length - 1)).map φ)) ρ₂ := by
  have := EE.slice_last (p := p) (pos := pos) x y (lzm hz) hs
  rwa [List.length_map, ← List.map_take] at this
theorem EE.slice_rev_m {v u : Expr} {l : List α} {p pos : Pos} (x : EE G n sc ρ v (.lst (l.map φ)) ρ₁) (y : EE G n sc ρ₁ u (.int (-1)) ρ₂) (hz : l.length ≤ 1000)
    (hs : autoParam (∀ o i, ∃ ops, subscripted (.Slice Option.none Option.none (some u) p) false o i = operate ops (getItem o i)) byEx) : EE G n sc ρ (.Subscript v (.Slice Option.none Option.none (some u) p) pos) (.lst ((l.reverse).map φ)) ρ₂ := by
  rw [List.map_reverse]; exact EE.slice_rev x y (lzm hz) hs
theorem EF.list_add_m {l r : Expr} {a b : List α} {pos : Pos} (x : EE G n sc ρ l (.lst (a.map φ)) ρ₁) (y : EE G n sc ρ₁ r (.lst (b.map φ)) ρ₂) (hz : a.length + b.length ≤ 1000) : EF G n sc ρ (.BinOp l .Add r pos) ((a ++ b).map φ) ρ₂ := by
  rw [List.map_append]; exact EF.list_add x y (by rw [List.length_map, List.length_map]; lia)
theorem EF.list_mul_m {l r : Expr} {a : α} {k : Int} {m : Nat} {pos : Pos} (x : EE G n sc ρ l (.lst [φ a]) ρ₁) (y : EE G n sc ρ₁ r (.int k) ρ₂) (hk : k.toNat = m) (hz : m ≤ 1000) (hlo : -1000 ≤ k) : EF G n sc ρ (.BinOp l .Mult r pos) ((List.replicate m a).map φ) ρ₂ := by
  subst hk
  rw [List.map_replicate]; exact EF.list_mul x y hz hlo
theorem EF.list_of_m (i : Nat) {e : Expr} {l : List α} {p pos : Pos} (x : EE G n sc ρ e (.lst (l.map φ)) ρ₁) (hi : sc.names[i]? = some (("list" : Str), .globalImplicit)) (hz : l.length ≤ 1000)
    (hs : autoParam (∀ env, starEach [e] env = [(false, eval e env)]) byRflA) : EF G n sc ρ (.Call (.Name "list" p) [e] [] pos) (l.map φ) ρ₁ := EF.list_of i x hi (lzm hz) hs
theorem EI.reversed_m (i : Nat) {e : Expr} {l : List α} {p pos : Pos} (x : EE G n sc ρ e (.lst (l.map φ)) ρ₁) (hi : sc.names[i]? = some (("reversed" : Str), .globalImplicit)) (hs : autoParam (∀ env, starEach [e] env = [(false, eval e env)]) byRflA) :
    EI G n sc ρ (.Call (.Name "reversed" p) [e] [] pos) ((l.reverse).map φ) ρ₁ := by
  rw [List.map_reverse]; exact EI.reversed i x hi hs
theorem ES1.store_item_m (i : Nat) {y : Str} {k : NameKind} {e v : Expr} {a : Addr} {l : List α} {d : α} {kk : Int} {p sp pos : Pos} (j : Nat) (x : EE G n sc ρ v (φ d) ρ₁) (e1 : sc.names[i]? = some (y, k)) (e2 : ρ₁[i]? = some (.own a (l.map φ))) (z : EE G n sc ρ₁ e (.int kk) ρ₂) (e3 : ρ₂[i]? = some (.own a (l.map φ))) (hk : kk = (j : Int)) (hj : j < l.length) (hz : l.length ≤ 1000)
    (hs : autoParam (∀ env, swapsWith v (some (.Subscript (.Name y p) e sp)) pos.line env = pure false) byRflA) :
    ES1 G n sc ρ (.Assign [.Subscript (.Name y p) e sp] v pos) .next (ρ₂.set i (.own a ((l.set j d).map φ))) := by
  subst hk
  have := ES1.store_item (G := G) (n := n) i (p := p) (sp := sp) (pos := pos) x e1 e2 z e3 (by rw [List.length_map]; exact hj) (lzm hz) hs
  rwa [← List.map_set] at this
theorem ES1.append_m (i : Nat) {y : Str} {k : NameKind} {e : Expr} {a : Addr} {l : List α} {d : α} {p ap cp pos : Pos} (e1 : sc.names[i]? = some (y, k)) (e2 : ρ[i]? = some (.own a (l.map φ))) (x : EE G n sc ρ e (φ d) ρ₁) (e3 : ρ₁[i]? = some (.own a (l.map φ))) (hz : l.length + 1 ≤ 1000)
    (hbase : autoParam (∀ env, attributeBase (.Name y p) "append" env (eval (.Name y p) env) = eval (.Name y p) env) byRflA) (hline : autoParam ((ap.endLine == cp.line) = true) byRfl)
    (ht : autoParam (∀ env, backTo cp (starEach [e] env) = [(false, eval e env)]) byRflA)
    (hs : autoParam (∀ env, swapsWith (.Call (.Attribute (.Name y p) "append" ap) [e] [] cp) Option.none pos.line env = pure false) byRflA) :
    ES1 G n sc ρ (.Expr (.Call (.Attribute (.Name y p) "append" ap) [e] [] cp) pos) .next (ρ₁.set i (.own a ((l ++ [d]).map φ))) := by
  have := ES1.append (G := G) (n := n) i (p := p) (ap := ap) (cp := cp) (pos := pos) e1 e2 x e3 (by rw [List.length_map]; lia) hbase hline ht hs
  rw [List.map_append]; exact this
end

theorem Inv.forget {G : GC} {env : Env} {amb : AS} {ρ : St} {h : Heap} (I : Inv G env amb ρ h) : Inv G env amb [] h ∧ (∀ a, a ∈ wr env [] → a ∈ wr env ρ) := by
  have sub : (wr env []).Sublist (wr env ρ) := List.Sublist.cons_cons _ (by rw [List.filterMap_nil, List.append_nil]; exact List.sublist_append_left _ _)
  refine ⟨⟨I.gl, I.top, I.ambLt, fun a q => I.fresh a (sub.subset q), I.nd.sublist sub, I.ns, I.cells, fun i x k s e1 e2 => ?_⟩, fun a q => sub.subset q⟩
  simp at e2
theorem ES.forget {G : GC} {n : Nat} {sc : Scope} {ρ ρ' : St} {st : List Stmt} {f : Fl} (x : ES G n sc ρ st f ρ') : ES G n sc ρ st f [] :=
  fun env he A amb s Q E hA I hQ => x env he A amb s Q E hA I fun fl h t I' g fo => by
    obtain ⟨I2, sub⟩ := I'.forget
    refine hQ fl h t I2 ⟨fun a o e m => let ⟨p, q⟩ := g.keep a o e m; ⟨p, fun w => q (sub a w)⟩, g.live⟩ ?_
    cases f with
    | next => exact fo
    | ret d => obtain ⟨v, e, r⟩ := fo; exact ⟨v, e, r.weak fun a q => q.imp id (sub a)⟩

noncomputable def ConstIs (G : GC) (y : Str) (d : D) : Prop := Gl G → ∃ v, G.mg y = some v ∧ Rel G.h (fun a => G.h.get? a = Option.none) d v

noncomputable def stIn (l : List Stmt) (k : Nat) : Stmt := (l[k]?).getD (.Pass ⟨0, 0, 0, 0⟩)
noncomputable def stAt (i k : Nat) : Stmt := stIn (bodyOf (defAt i)) k
noncomputable def loopBody : Stmt → List Stmt
  | .For _ _ b _ _ => b
  | .While _ b _ _ => b
  | _ => []
noncomputable def loopTest : Stmt → Expr
  | .While t _ _ _ => t
  | .For t _ _ _ _ => t
  | _ => .Constant .none 0 ⟨0, 0, 0, 0⟩

noncomputable def mapO {α β : Type} (f : α → Option β) : List α → Option (List β)
  | [] => some []
  | a :: as => match f a with
    | none => none
    | some b => match mapO f as with
      | none => none
      | some bs => some (b :: bs)
theorem mapO_cons {α β : Type} {f : α → Option β} {a : α} {as : List α} {r : List β} (h : mapO f (a :: as) = some r) : ∃ b bs, f a = some b ∧ mapO f as = some bs ∧ r = b :: bs := by
  unfold mapO at h
  cases h1 : f a with
  | none => rw [h1] at h; cases h
  | some b =>
    rw [h1] at h
    dsimp only at h
    cases h2 : mapO f as with
    | none => rw [h2] at h; cases h
    | some bs => rw [h2] at h; cases h; exact ⟨b, bs, rfl, rfl, rfl⟩
noncomputable def fin {α : Type} (φ : α → D) : Slot → List α → Slot
  | s, [] => s
  | _, a :: as => fin φ (.val (φ a)) as

theorem eco_map_aux {G : GC} {n : Nat} {scC : Scope} {α β : Type} {φ : α → D} {ψ : β → D} {ρc : St} {y : Str} {p : Pos} {k : NameKind} {iter elt : Expr} {scope : Scope} {pos : Pos} (i : Nat) (hi : scC.names[i]? = some (y, k)) (hk : k = .local ∨ k = .cell) (g : α → Option β) :
    ∀ (l : List α) (r : List β) (s0 : Slot), mapO g l = some r → (∀ a b, a ∈ l → g a = some b → EE G n scC (ρc.set i (.val (φ a))) elt (ψ b) (ρc.set i (.val (φ a)))) →
      ECo G n scC (ρc.set i s0) (.Name y p) iter [] elt scope pos (l.map φ) (r.map ψ) (ρc.set i (fin φ s0 l))
  | [], r, s0, h, _ => by cases h; exact ECo.nil
  | a :: as, r, s0, h, b => by
    obtain ⟨x, xs, h1, h2, rfl⟩ := mapO_cons h
    rw [List.map_cons, List.map_cons]
    unfold fin
    refine ECo.cons i hi hk (.inl ⟨rfl, ?_⟩) (b a x List.mem_cons_self h1) (eco_map_aux i hi hk g as xs _ h2 fun a' b' hm => b a' b' (List.mem_cons_of_mem _ hm))
    rw [List.set_set]
theorem eco_map {G : GC} {n : Nat} {scC : Scope} {α β : Type} {φ : α → D} {ψ : β → D} {ρc : St} {y : Str} {p : Pos} {k : NameKind} {iter elt : Expr} {scope : Scope} {pos : Pos} (i : Nat) (g : α → Option β) {l : List α} {r : List β} (h : mapO g l = some r)
    (b : ∀ a b, a ∈ l → g a = some b → EE G n scC (ρc.set i (.val (φ a))) elt (ψ b) (ρc.set i (.val (φ a)))) (hi : autoParam (scC.names[i]? = some (y, k)) byRfl) (hk : autoParam (k = .local ∨ k = .cell) byDec) (h0 : autoParam (ρc.set i .unset = ρc) byRfl) :
      ECo G n scC ρc (.Name y p) iter [] elt scope pos (l.map φ) (r.map ψ) (ρc.set i (fin φ .unset l)) := by
  have := eco_map_aux (G := G) (n := n) (φ := φ) (ψ := ψ) (ρc := ρc) (p := p) (iter := iter) (elt := elt) (scope := scope) (pos := pos) i hi hk g l r .unset h b
  rwa [h0] at this
theorem mapO_some {α β : Type} {f : α → β} : ∀ l : List α, mapO (fun a => some (f a)) l = some (l.map f)
  | [] => rfl
  | a :: as => by unfold mapO; rw [mapO_some as]; rfl
theorem mapO_length {α β : Type} {f : α → Option β} : ∀ {l : List α} {r : List β}, mapO f l = some r → r.length = l.length
  | [], r, h => by cases h; rfl
  | a :: as, r, h => by
    obtain ⟨b, bs, _, h2, rfl⟩ := mapO_cons h
    rw [List.length_cons, List.length_cons, mapO_length h2]
end Mine

end -- FU
section -- FV
open PySem PySem.W PyProof.Rows PySem.Calls
open PySem.SeqAt
set_option maxRecDepth 100000
set_option linter.unusedVariables false
set_option linter.unusedSectionVars false
namespace Mine

section
variable {G : GC} {n : Nat} {sc : Scope} {ρ ρ₁ ρ₂ ρ₃ : St}

theorem EFo.cons_tup {ts : List Expr} {k : Nat} {p : Pos} {body : List Stmt} {l : List (Str × D)} {ds0 : List D} {ds : List D} {f : Fl} (S : Stores sc ρ l ρ₁) (hl : l.map (·.2) = ds0) (tg : ∀ env, Tg env ((assignEach ts env).map (·.2)) l)
    (hn : ∀ env, (assignEach ts env).length = ds0.length) (b : ES G n sc ρ₁ body .next ρ₂) (r : EFo G n sc ρ₂ (.Tuple ts k p) body ds f ρ₃) (hst : autoParam (∀ env, (assignEach ts env).findIdx? (·.1) = Option.none) byRflA) (hz : autoParam (ds0.length ≤ 1000) byBle) :
    EFo G n sc ρ (.Tuple ts k p) body (.tup ds0 :: ds) f ρ₃ :=
  fun env he A amb s R it h₀ W₀ fp wI hA L x hQ => forTurn_unroll (next_item L x fun v h1 t1 L1 x1 rv => by
    have x1' := x1
    obtain ⟨I0, n0, P0, S0, i0, rfl, _, st0, _, _, _, _, hm0⟩ := x1'
    refine letGo_plain (hm0 _ _ st0) ?_
    obtain ⟨a, vs, m, rfl, ea, na, rs⟩ := rv
    have ht : Heap.IsTuple h1 a vs.toArray := ⟨_, ea, rfl, m, rfl⟩
    refine wpAny_assign_Tuple hA.handled ht (by rw [hn env]; simp [rs.length]) (hst env) fun h' eb => ?_
    have k1 : ∀ b o, h1.get? b = some o → h'.get? b = some o := fun b o q => eb b o (Nat.ne_of_lt (Heap.lt_size q)) q
    have I1' := L1.inv.grow k1
    have rs2 : RelL h' (mu env amb ρ) ds0 vs := RelL.kp (Kp.of_keeps k1) _ _ rs
    refine stores_run he (tg env) S I1' (by rw [hl]; exact rs2) fun h2 t2 I2 g2 => ?_
    have g2' : Go h1 (wr env ρ) h2 (wr env ρ₁) := (Go.of_keeps k1).trans g2
    obtain ⟨x2, off2⟩ := x1.go g2' L1.off
    refine b env he A amb _ _ _ hA I2 fun fl h3 t3 I3 g3 fo => ?_
    rw [show fl = .next from fo]
    obtain ⟨x3, off3⟩ := x2.go g3 off2
    exact r env he A amb _ R _ h₀ W₀ fp wI hA ((L1.stored I2 g2' off2).stored I3 g3 off3) x3 fun fl' h4 t4 I4 g4 fo4 => hQ fl' h4 t4 I4 g4 fo4)
end
end Mine

end -- FV
section -- FW
open PySem PySem.W PyProof.Rows PySem.Calls
open PySem.SeqAt
set_option maxRecDepth 100000
set_option linter.unusedVariables false
set_option linter.unusedSectionVars false
namespace Mine

mutual
noncomputable def hk : D → Bool
  | .int _ => true
  | .str _ => true
  | .tup l => hkL l
  | _ => false
noncomputable def hkL : List D → Bool
  | [] => true
  | a :: as => hk a && hkL as
end
mutual
noncomputable def hashD (w : World) : D → Int
  | .int i => hashInt i
  | .str s => hashStr w s
  | .tup l => reduceHash (Builtin.Tuple.tupleHashOf (hashDL w l))
  | _ => 0
noncomputable def hashDL (w : World) : List D → List Int
  | [] => []
  | a :: as => hashD w a :: hashDL w as
end
mutual
noncomputable def drawsD : D → Nat
  | .int _ => 1
  | .str _ => 1
  | .tup l => drawsDL l + 1
  | _ => 0
noncomputable def drawsDL : List D → Nat
  | [] => 0
  | a :: as => drawsD a + drawsDL as
end
theorem hkL_mem : ∀ {l : List D}, hkL l = true → ∀ d ∈ l, hk d = true
  | a :: as, h, d, hd => by
    unfold hkL at h
    simp only [Bool.and_eq_true] at h
    rcases List.mem_cons.mp hd with rfl | hd
    · exact h.1
    · exact hkL_mem h.2 d hd
theorem hashDL_append (w : World) : ∀ (a b : List D), hashDL w (a ++ b) = hashDL w a ++ hashDL w b
  | [], b => by simp [hashDL]
  | x :: a, b => by simp [hashDL, hashDL_append w a b]
theorem drawsDL_append : ∀ (a b : List D), drawsDL (a ++ b) = drawsDL a + drawsDL b
  | [], b => by simp [drawsDL]
  | x :: a, b => by simp [drawsDL, drawsDL_append a b, Nat.add_assoc]

mutual
theorem deq_of_hk : ∀ (x y : D), hk x = true → hk y = true → deq x y = true → x = y
  | .none, _, h, _, _ => by simp [hk] at h
  | .bool _, _, h, _, _ => by simp [hk] at h
  | .lst _, _, h, _, _ => by simp [hk] at h
  | .int i, y, _, h, e => by
    cases y with
    | int j => exact congrArg D.int (eq_of_beq (show (i == j) = true from e))
    | bool _ => cases (show false = true from h)
    | _ => cases (show false = true from e)
  | .str i, y, _, h, e => by
    cases y with
    | str j => exact congrArg D.str (eq_of_beq (show (i == j) = true from e))
    | _ => cases (show false = true from e)
  | .tup l, y, hx, h, e => by
    cases y with
    | tup m =>
      rw [deqL_of_hk l m hx h e]
    | _ => cases (show false = true from e)
theorem deqL_of_hk : ∀ (x y : List D), hkL x = true → hkL y = true → deqL x y = true → x = y
  | [], y, _, _, e => by
    cases y with
    | nil => rfl
    | cons _ _ => simp [deqL] at e
  | a :: as, y, hx, hy, e => by
    cases y with
    | nil => simp [deqL] at e
    | cons b bs =>
      simp only [hkL, Bool.and_eq_true] at hx hy
      simp only [deqL, Bool.and_eq_true] at e
      rw [deq_of_hk a b hx.1 hy.1 e.1, deqL_of_hk as bs hx.2 hy.2 e.2]
end

section
variable {prog : Program} {w : World} {s : Shared} {M : AS}

theorem hash_d : ∀ (k : Nat) (d : D), dep d ≤ k → hk d = true → ∀ (A : Around), A.units + k + 1 < cLine → ∀ (E : Value → Shared → Prop) (s' : Shared) (v : Value) (Q : Int → Shared → Prop), s'.heap = s.heap → Rel s.heap M d v →
    Q (hashD w d) { s' with toks := s'.toks + drawsD d } → wpAny (model prog w) A (pyHash v) Q E s'
  | k, .none, _, h, _, _, _, _, _, _, _, _, _ => by simp [hk] at h
  | k, .bool _, _, h, _, _, _, _, _, _, _, _, _ => by simp [hk] at h
  | k, .lst _, _, h, _, _, _, _, _, _, _, _, _ => by simp [hk] at h
  | k, .int i, _, _, A, _, E, s', v, Q, _, r, hQ => by
    obtain ⟨t, rfl⟩ := r
    exact wpAny_pyHash_int hQ
  | k, .str i, _, _, A, _, E, s', v, Q, _, r, hQ => by
    obtain ⟨t, rfl⟩ := r
    exact wpAny_pyHash_str hQ
  | 0, .tup l, hd, _, _, _, _, _, _, _, _, _, _ => by simp [dep] at hd
  | k + 1, .tup l, hd, h, A, hu, E, s', v, Q, hs, r, hQ => by
    obtain ⟨a, vs, m, rfl, ea, _, rs⟩ := r
    have hl : hkL l = true := by simpa [hk] using h
    have ho : s'.heap.get? a = some (seqObj "tuple" vs m) := by rw [hs]; exact ea
    have hT : s'.TypeIs (.ref a) "tuple" := ⟨_, ho, rfl⟩
    unfold pyHash
    first | unfold pyHashByItsType | skip
    first | refine wpAny_bind (wpAny_cRoomFor_or (.inr (by lia)) ?_) | skip
    refine wpAny_bind (wpAny_specialOf hT F.slot_tuple_hash.lookup ?_)
    show wpAny _ _ (if (some (Value.builtin "tuple.__hash__") == some Value.none) = true then _ else _) Q E s'
    rw [if_neg (by rw [beq_builtin_none]; exact Bool.false_ne_true)]
    refine wpAny_bind (wpAny_specialOf hT F.slot_tuple_hash.lookup ?_)
    show wpAny _ _ (callSpecialIfBoundUnlessNone? (.ref a) "__hash__" _ >>= _) Q E s'
    refine wpAny_bind (wpAny_callSpecialIfBoundUnlessNone?_slot hT F.slot_tuple_hash (wpAny_call_entry F.slot_tuple_hash hT F.entry_tuple_hash ?_ (F.args_tuple_hash_1 _)))
    show wpAny _ _ (Builtin.Tuple.tupleItemsOf (.ref a) >>= _) _ _ s'
    refine wpAny_bind (wpAny_tupleItemsOf ho rfl ?_)
    refine wpAny_bind ?_
    rw [← Array.forIn_toList]
    refine wpAny_forIn_list _
      (fun rest (b : Array Int) s2 => ∃ done left, l = done ++ left ∧ RelL s.heap M left rest ∧ b.toList = hashDL w done ∧ s2 = { s' with toks := s'.toks + drawsDL done })
      _ ?_ ?_ _ _ ⟨[], l, rfl, rs, rfl, rfl⟩
    · rintro x rest b s2 ⟨done, left, rfl, hl2, hb, rfl⟩
      cases left with
      | nil => cases (show _ = _ from hl2)
      | cons d ds =>
        obtain ⟨v, vs', e, rv, rr⟩ := hl2
        cases e
        have hdep : dep d ≤ k := by
          have h1 : dep d ≤ depL (done ++ d :: ds) := dep_mem (List.mem_append_right _ List.mem_cons_self)
          simp only [dep] at hd
          lia
        refine wpAny_bind (hash_d k d hdep (hkL_mem hl d (List.mem_append_right _ List.mem_cons_self)) A.in1 (by show A.units + 1 + k + 1 < cLine; lia) _ _ _ _ hs rv ?_)
        first
          | exact wpAny_pure ⟨done ++ [d], ds, by simp, rr, by simp [hb, hashDL_append, hashDL], by simp [drawsDL_append, drawsDL, Nat.add_assoc]⟩
          | exact wpAny_bind (wpAny_pure (wpAny_pure ⟨done ++ [d], ds, by simp, rr, by simp [hb, hashDL_append, hashDL], by simp [drawsDL_append, drawsDL, Nat.add_assoc]⟩))
    · rintro b s2 ⟨done, left, rfl, hl2, hb, rfl⟩
      cases left with
      | cons d ds => obtain ⟨v, vs', e, _, _⟩ := hl2; cases e
      | nil =>
      rw [List.append_nil] at hQ hl hd
      show wpAny _ _ (retInt (Builtin.Tuple.tupleHashOf b.toList)) _ _ _
      rw [hb]
      refine wpAny_ret_mkInt ?_
      show wpAny _ _ (if (decide (-(2 : Int) ^ 63 ≤ Builtin.Tuple.tupleHashOf (hashDL w done)) && decide (Builtin.Tuple.tupleHashOf (hashDL w done) < 2 ^ 63)) = true then _ else _) Q E _
      simp only [hashD, drawsD] at hQ
      unfold reduceHash at hQ
      by_cases hr : (decide (-(2 : Int) ^ 63 ≤ Builtin.Tuple.tupleHashOf (hashDL w done)) && decide (Builtin.Tuple.tupleHashOf (hashDL w done) < 2 ^ 63)) = true
      · rw [if_pos hr]
        rw [if_pos hr] at hQ
        exact wpAny_pure (by simpa [Nat.add_assoc] using hQ)
      · rw [if_neg hr]
        rw [if_neg hr] at hQ
        exact wpAny_bind (wpAny_rule (wpAny_pure (by simpa [Nat.add_assoc] using hQ)))

theorem quiet_d : ∀ (k : Nat) (d : D) (A : Around), dep d < k → hk d = true → ∀ (E : Value → Shared → Prop) (v : Value) (Q : Bool → Shared → Prop), Rel s.heap M d v → Q true s → wpAny (model prog w) A (eqIsQuiet k v) Q E s
  | k, .none, _, _, h, _, _, _, _, _ => by simp [hk] at h
  | k, .bool _, _, _, h, _, _, _, _, _ => by simp [hk] at h
  | k, .lst _, _, _, h, _, _, _, _, _ => by simp [hk] at h
  | k, .int i, A, _, _, E, v, Q, r, hQ => by
    obtain ⟨t, rfl⟩ := r
    rw [eqIsQuiet_byValue k rfl]; exact wpAny_pure hQ
  | k, .str i, A, _, _, E, v, Q, r, hQ => by
    obtain ⟨t, rfl⟩ := r
    rw [eqIsQuiet_byValue k rfl]; exact wpAny_pure hQ
  | 0, .tup l, _, hd, _, _, _, _, _, _ => by simp [dep] at hd
  | k + 1, .tup l, A, hd, h, E, v, Q, r, hQ => by
    obtain ⟨a, vs, m, rfl, ho, _, rs⟩ := r
    have hl : hkL l = true := by simpa [hk] using h
    have hT : s.TypeIs (.ref a) "tuple" := ⟨_, ho, rfl⟩
    unfold eqIsQuiet
    refine wpAny_bind (wpAny_specialOf hT F.slot_tuple_eq.lookup ?_)
    show wpAny _ _ (isInstance (.ref a) (.type "tuple") >>= _) _ _ s
    refine wpAny_bind (wpAny_isInstance hT isSubtype_tuple_tuple ?_)
    simp only [Bool.not_true, Bool.false_eq_true, if_false]
    refine wpAny_bind (wpAny_seqItems ho rfl ?_)
    refine wpAny_bind ?_
    show wpAny _ _ (forIn vs.toArray _ _) _ _ s
    rw [← Array.forIn_toList]
    refine wpAny_forIn_list _ (fun rest r s' => r.1 = none ∧ s' = s ∧ ∃ left, RelL s.heap M left rest ∧ ∀ d ∈ left, d ∈ l) _ ?_ ?_ _ _ ⟨rfl, rfl, l, rs, fun _ h => h⟩
    · rintro v rest r s' ⟨hr, hss, left, hl2, hsub⟩
      have hss' := hss.symm
      subst hss'
      cases left with
      | nil => cases (show _ = _ from hl2)
      | cons d ds =>
        obtain ⟨u, vs', e, rv, rr⟩ := hl2
        cases e
        have hdl : d ∈ l := hsub d List.mem_cons_self
        refine wpAny_bind (quiet_d k d A (by have := dep_mem hdl; simp only [dep] at hd; lia) (hkL_mem hl d hdl) _ _ _ rv ?_)
        simp only [Bool.not_true, Bool.false_eq_true, if_false]
        exact wpAny_pure ⟨rfl, rfl, ds, rr, fun e he => hsub e (List.mem_cons_of_mem _ he)⟩
    · rintro ⟨r1, r2⟩ s' ⟨hr, rfl, _⟩
      simp only at hr
      subst hr
      exact wpAny_pure hQ
end

noncomputable def keyOk (d : D) : Prop := hk d = true ∧ dep d ≤ 6

open Classical in
noncomputable def dKind (prog : Program) (w : World) : HeapKind prog w D where
  is := fun h d a => keyOk d ∧ Rel h (fun _ => False) d (.ref a)
  hash := hashD w
  draws := drawsD
  room := fun A => A.units + 20 < cLine
  inj := fun hx hy => rel_inj _ _ _ hx.2 hy.2
  keeps := fun x ho hd hs => ⟨x.1, Rel.kp (fun b T vs n e _ => ⟨(hs.2 b fun q => by subst q; rw [e] at ho; cases ho; cases hd).trans e, id⟩) _ _ x.2⟩
  pyHash := fun {A E s k a Q} hu hk h => hash_d (s := s) (M := fun _ => False) 6 k hk.1.2 hk.1.1 A (by lia) E s _ Q rfl hk.2 h
  eqBool := fun {A E s x y a b Q} hu hx hy h => by
    refine eqAt_d 6 y hy.1.2 A (by lia) x _ _ hx.2 hy.2 _ _ E Q ?_
    have : deq x y = decide (x = y) := by
      by_cases e : x = y
      · subst e; rw [deq_refl]; simp
      · rw [decide_eq_false e]
        cases q : deq x y with
        | false => rfl
        | true => exact absurd (deq_of_hk x y hx.1.1 hy.1.1 q) e
    rw [this]; exact h
  quiet := fun {A E s k a Q} hk h => quiet_d (s := s) (M := fun _ => False) 8 k A (by have := hk.1.2; lia) hk.1.1 E _ Q hk.2 h
end Mine

end -- FW
section -- FX
open PySem PySem.W PyProof.Rows PySem.Calls
open PySem.SeqAt
set_option maxRecDepth 100000
set_option linter.unusedVariables false
set_option linter.unusedSectionVars false
namespace Mine

noncomputable def getKV (k : D) : List (D × D) → Option D
  | [] => none
  | (k', v') :: r => if deq k' k = true then some v' else getKV k r
noncomputable def putKV (k v : D) (kvs : List (D × D)) : List (D × D) := if (getKV k kvs).isSome then kvs.map (fun p => if deq p.1 k = true then (p.1, v) else p) else kvs ++ [(k, v)]
noncomputable def delKV (k : D) : List (D × D) → List (D × D)
  | [] => []
  | (k', v') :: r => if deq k' k = true then r else (k', v') :: delKV k r
structure KeysOk (kvs : List (D × D)) : Prop where
  ok : ∀ p ∈ kvs, keyOk p.1
  nd : (kvs.map (·.1)).Nodup

theorem deq_iff {x y : D} (hx : keyOk x) (hy : keyOk y) : deq x y = true ↔ x = y := ⟨deq_of_hk x y hx.1 hy.1, fun e => e ▸ deq_refl x⟩

section
variable {prog : Program} {w : World} {h h' : Heap} {M M' : AS}

theorem KV.keys : ∀ {kvs : List (D × D)} {xs : List (D × Addr × Value)}, KV h M kvs xs → xs.map (·.1) = kvs.map (·.1)
  | [], _, x => by rw [show _ = [] from x]; rfl
  | (k, v) :: r, _, ⟨a, u, xs', e, _, _, x⟩ => by rw [e, List.map_cons, List.map_cons, x.keys]
theorem KV.is : ∀ {kvs : List (D × D)} {xs : List (D × Addr × Value)}, KV h M kvs xs → ∀ x ∈ xs, Rel h (fun _ => False) x.1 (.ref x.2.1) ∧ x.1 ∈ kvs.map (·.1)
  | [], _, x, y, hy => by rw [show _ = [] from x] at hy; cases hy
  | (k, v) :: r, _, ⟨a, u, xs', e, r1, _, x⟩, y, hy => by
    rw [e] at hy
    rcases List.mem_cons.mp hy with rfl | hy
    · exact ⟨r1.weak fun _ q => q.elim, List.mem_cons_self⟩
    · obtain ⟨p, q⟩ := x.is y hy; exact ⟨p, List.mem_cons_of_mem _ q⟩

open Classical in
theorem DictAt.of {hf : D → Int} {a : Addr} {kvs : List (D × D)} (hhf : hf = hashD w) (x : DictAt h M hf a kvs) (ok : KeysOk kvs) : (a == sysModules) = false ∧ ∃ xs, h.DictOfH (dKind prog w) a xs ∧ KV h M kvs xs := by
  subst hhf
  obtain ⟨sm, o, es, ep, xs, e1, e2, e3, e4, e5⟩ := x
  refine ⟨sm, xs, ⟨o, es, ep, e1, e2, e3, e4, fun y hy => ?_, by rw [e5.keys]; exact ok.nd⟩, e5⟩
  obtain ⟨p, q⟩ := e5.is y hy
  obtain ⟨z, hz, e⟩ := List.mem_map.mp q
  exact ⟨e ▸ ok.ok z hz, p⟩
open Classical in
theorem DictAt.to {a : Addr} {kvs : List (D × D)} {xs : List (D × Addr × Value)} (sm : (a == sysModules) = false) (d : h.DictOfH (dKind prog w) a xs) (x : KV h M kvs xs) : DictAt h M (hashD w) a kvs := by
  obtain ⟨o, es, ep, e1, e2, e3, e4, _, _⟩ := d
  exact ⟨sm, o, es, ep, xs, e1, e2, e3, e4, x⟩

open Classical in
theorem KV.at : ∀ {kvs : List (D × D)} {xs : List (D × Addr × Value)}, KV h M kvs xs → (∀ p ∈ kvs, keyOk p.1) → ∀ {k : D}, keyOk k →
    (getKV k kvs = none ∧ atKey xs k = none) ∨ ∃ v ka u, getKV k kvs = some v ∧ atKey xs k = some (ka, u) ∧ Rel h M v u
  | [], _, x, _, k, _ => by rw [show _ = [] from x]; exact .inl ⟨rfl, rfl⟩
  | (k', v') :: r, _, ⟨a, u, xs', e, r1, r2, x⟩, ok, k, hk => by
    subst e
    unfold getKV atKey
    by_cases q : deq k' k = true
    · have e := (deq_iff (ok _ List.mem_cons_self) hk).mp q
      subst e
      refine .inr ⟨v', a, u, by rw [if_pos q], ?_, r2⟩
      simp
    · have e : ¬ k' = k := fun e => q (e ▸ deq_refl _)
      rw [if_neg q]
      rcases x.at (fun p hp => ok p (List.mem_cons_of_mem _ hp)) hk with ⟨h1, h2⟩ | ⟨v, ka, u', h1, h2, h3⟩
      · refine .inl ⟨h1, ?_⟩
        unfold atKey at h2
        simpa [e] using h2
      · refine .inr ⟨v, ka, u', h1, ?_, h3⟩
        unfold atKey at h2
        simpa [e] using h2

open Classical in
theorem KV.mapPut {k v : D} {u : Value} (hk : keyOk k) (rv : Rel h M v u) : ∀ {kvs : List (D × D)} {xs : List (D × Addr × Value)}, KV h M kvs xs → (∀ p ∈ kvs, keyOk p.1) → KV h M (kvs.map (fun p => if deq p.1 k = true then (p.1, v) else p)) (xs.map (putAt k u))
  | [], _, x, _ => by rw [show _ = [] from x]; exact rfl
  | (k', v') :: r, _, ⟨a, u', xs', e, r1, r2, x⟩, ok => by
    subst e
    have ih := x.mapPut hk rv fun p hp => ok p (List.mem_cons_of_mem _ hp)
    rw [List.map_cons, List.map_cons]
    by_cases q : deq k' k = true
    · have e := (deq_iff (ok _ List.mem_cons_self) hk).mp q
      rw [if_pos q]
      exact ⟨a, u, _, by rw [show putAt k u (k', a, u') = (k', a, u) from if_pos e], r1, rv, ih⟩
    · have e : ¬ k' = k := fun e => q (e ▸ deq_refl _)
      rw [if_neg q]
      exact ⟨a, u', _, by rw [show putAt k u (k', a, u') = (k', a, u') from if_neg e], r1, r2, ih⟩
theorem KV.snoc {k v : D} {ka : Addr} {u : Value} (rk : Rel h M k (.ref ka)) (rv : Rel h M v u) : ∀ {kvs : List (D × D)} {xs : List (D × Addr × Value)}, KV h M kvs xs → KV h M (kvs ++ [(k, v)]) (xs ++ [(k, ka, u)])
  | [], _, x => by rw [show _ = [] from x]; exact ⟨ka, u, [], rfl, rk, rv, rfl⟩
  | (k', v') :: r, _, ⟨a, u', xs', e, r1, r2, x⟩ => by subst e; exact ⟨a, u', _, rfl, r1, r2, x.snoc rk rv⟩

open Classical in
theorem KV.stored {k v : D} {ka : Addr} {u : Value} (hk : keyOk k) (rk : Rel h M k (.ref ka)) (rv : Rel h M v u) {kvs : List (D × D)} {xs : List (D × Addr × Value)} (x : KV h M kvs xs) (ok : ∀ p ∈ kvs, keyOk p.1) : KV h M (putKV k v kvs) (storedH xs k ka u) := by
  unfold putKV storedH
  rcases x.at ok hk with ⟨h1, h2⟩ | ⟨v', ka', u', h1, h2, _⟩
  · rw [h1, h2]
    exact x.snoc rk rv
  · rw [h1, h2]
    exact x.mapPut hk rv ok

theorem getKV_none {k : D} (hk : keyOk k) : ∀ {kvs : List (D × D)}, (∀ p ∈ kvs, keyOk p.1) → getKV k kvs = none → k ∉ kvs.map (·.1)
  | [], _, _ => by simp
  | (k', v') :: r, ok, e => by
    unfold getKV at e
    split at e
    · cases e
    · rename_i q
      rw [List.map_cons, List.mem_cons, not_or]
      exact ⟨fun e => q (e ▸ deq_refl _), getKV_none hk (fun p hp => ok p (List.mem_cons_of_mem _ hp)) e⟩
theorem KeysOk.put {k v : D} {kvs : List (D × D)} (hk : keyOk k) (ok : KeysOk kvs) : KeysOk (putKV k v kvs) := by
  unfold putKV
  cases q : getKV k kvs with
  | some _ =>
    simp only [Option.isSome_some, if_true]
    have hkeys : (kvs.map (fun p => if deq p.1 k = true then (p.1, v) else p)).map (·.1) = kvs.map (·.1) := by
      rw [List.map_map]
      refine List.map_congr_left fun p _ => ?_
      simp only [Function.comp]
      split <;> rfl
    refine ⟨fun p hp => ?_, by rw [hkeys]; exact ok.nd⟩
    obtain ⟨z, hz, rfl⟩ := List.mem_map.mp hp
    split <;> exact ok.ok z hz
  | none =>
    rw [if_neg (by simp)]
    refine ⟨fun p hp => ?_, ?_⟩
    · rcases List.mem_append.mp hp with hp | hp
      · exact ok.ok p hp
      · rw [List.mem_singleton.mp hp]; exact hk
    · rw [List.map_append, List.nodup_append]
      refine ⟨ok.nd, by simp, fun x hx y hy e => ?_⟩
      simp only [List.map_cons, List.map_nil, List.mem_singleton] at hy
      subst hy; subst e
      exact getKV_none hk ok.ok q hx
theorem delKV_sub (k : D) : ∀ kvs : List (D × D), (delKV k kvs).Sublist kvs
  | [] => List.Sublist.refl _
  | (k', v') :: r => by
    unfold delKV
    split
    · exact List.sublist_cons_self ..
    · exact (delKV_sub k r).cons_cons _
theorem KeysOk.del {k : D} {kvs : List (D × D)} (ok : KeysOk kvs) : KeysOk (delKV k kvs) :=
  ⟨fun p hp => ok.ok p ((delKV_sub k kvs).subset hp), ok.nd.sublist ((delKV_sub k kvs).map _)⟩
theorem KeysOk.nil : KeysOk [] := ⟨fun p hp => (nomatch hp), List.nodup_nil⟩

theorem KV.erase {k : D} (hk : keyOk k) : ∀ {kvs : List (D × D)} {xs : List (D × Addr × Value)} {j : Nat} {p : Addr × Value}, KV h M kvs xs → KeysOk kvs → xs[j]? = some (k, p) → KV h M (delKV k kvs) (xs.eraseIdx j) ∧ ∃ v, getKV k kvs = some v ∧ Rel h M v p.2
  | [], _, j, p, x, _, e => by rw [show _ = [] from x] at e; simp at e
  | (k', v') :: r, _, 0, p, ⟨a, u, xs', e, r1, r2, x⟩, ok, e2 => by
    subst e
    simp only [List.getElem?_cons_zero, Option.some.injEq, Prod.mk.injEq] at e2
    obtain ⟨rfl, rfl⟩ := e2
    unfold delKV getKV
    rw [if_pos (deq_refl _), if_pos (deq_refl _)]
    exact ⟨x, v', rfl, r2⟩
  | (k', v') :: r, _, j + 1, p, ⟨a, u, xs', e, r1, r2, x⟩, ok, e2 => by
    subst e
    simp only [List.getElem?_cons_succ] at e2
    have hmem : k ∈ r.map (·.1) := by
      rw [← x.keys]
      exact List.mem_map.mpr ⟨_, List.mem_of_getElem? e2, rfl⟩
    have nd := ok.nd
    rw [List.map_cons, List.nodup_cons] at nd
    have q : ¬ deq k' k = true := fun q => nd.1 ((deq_iff (ok.ok _ List.mem_cons_self) hk).mp q ▸ hmem)
    obtain ⟨i1, v, i2, i3⟩ := x.erase hk ⟨fun p hp => ok.ok p (List.mem_cons_of_mem _ hp), nd.2⟩ e2
    unfold delKV getKV
    rw [if_neg q, if_neg q]
    exact ⟨⟨a, u, _, rfl, r1, r2, i1⟩, v, i2, i3⟩
end
end Mine

end -- FX
section -- FY
open PySem PySem.W PyProof.Rows PySem.Calls
open PySem.SeqAt
set_option maxRecDepth 100000
set_option linter.unusedVariables false
set_option linter.unusedSectionVars false
namespace Mine

section
variable {G : GC} {n : Nat} {sc : Scope} {ρ ρ₁ ρ₂ ρ₃ : St}

theorem slot_set_addr {a : Addr} {s s' : Slot} (h1 : s.addr? = some a) (h2 : s'.addr? = some a) : ∀ {ρ : St} {i : Nat}, ρ[i]? = some s → (ρ.set i s').filterMap Slot.addr? = ρ.filterMap Slot.addr?
  | [], i, e => by simp at e
  | x :: r, 0, e => by
    have : x = s := by simpa using e
    subst this
    rw [List.set_cons_zero, List.filterMap_cons, List.filterMap_cons, h1, h2]
  | x :: r, i + 1, e => by
    rw [List.set_cons_succ, List.filterMap_cons, List.filterMap_cons, slot_set_addr h1 h2 (ρ := r) (i := i) (by simpa using e)]

theorem Inv.updSlot {env : Env} (he : EnvOk sc env) {amb : AS} {h h' : Heap} {i : Nat} {y : Str} {k : NameKind} {a : Addr} {s0 s1 : Slot} (I : Inv G env amb ρ h) (e1 : sc.names[i]? = some (y, k)) (e2 : ρ[i]? = some s0) (a0 : s0.addr? = some a) (a1 : s1.addr? = some a)
    (sb : Heap.SameBut a h h') (lv' : Live h' a) (hv : vget env h y (.ref a)) (na : ¬ amb a) (hc : vget env h' y (.ref a) → SlotOk h' (mu env amb ρ) amb env y s1) :
    Inv G env amb (ρ.set i s1) h' ∧ Go h (wr env ρ) h' (wr env (ρ.set i s1)) := by
  have hm : a ∈ ρ.filterMap Slot.addr? := List.mem_filterMap.mpr ⟨_, List.mem_of_getElem? e2, a0⟩
  have ha : a ∈ wr env ρ := List.mem_cons_of_mem _ (List.mem_append_right _ hm)
  have wE : wr env (ρ.set i s1) = wr env ρ := by unfold wr; rw [slot_set_addr a0 a1 e2]
  have mE : mu env amb (ρ.set i s1) = mu env amb ρ := by unfold mu; rw [wE]
  have kp : Kp h (mu env amb ρ) h' (mu env amb ρ) := fun b T us n q mm => ⟨(sb.2 b fun t => mm (.inr (t ▸ ha))).trans q, mm⟩
  have hL : env.locals ≠ a := ((wr_apart I.nd).2.2.2 a hm).1.symm
  have hC : ∀ x c, (x, c) ∈ env.cells → c ≠ a := fun x c hx q => ((wr_apart I.nd).2.2.2 a hm).2 (List.mem_map.mpr ⟨(x, c), hx, q⟩)
  have vg : ∀ z u, vget env h z u → vget env h' z u := fun z u g => by
    rcases g with ⟨q, m, hn, hm⟩ | ⟨q, c, hc, v⟩
    · exact .inl ⟨q, m, hn.sameBut sb hL, hm⟩
    · exact .inr ⟨q, c, hc, v.sameBut sb (hC z c (PySem.mem_of_lookup hc))⟩
  have lv : ∀ b, Live h b → Live h' b := fun b ⟨o, ho⟩ => by
    by_cases q : b = a
    · subst q; exact lv'
    · exact ⟨o, (sb.2 b q).trans ho⟩
  refine ⟨⟨I.gl, fun b o q => (sb.2 b fun t => ?_).trans (I.top b o q), fun b q => ⟨lv b (I.ambLt b q).1, (I.ambLt b q).2⟩, fun b q => ?_, by rw [wE]; exact I.nd, ?_, fun x c hx => ?_, fun j z kz sl f1 f2 => ?_⟩, ⟨fun b o q m => ?_, lv⟩⟩
  · subst t; have := (I.fresh b ha).2; rw [q] at this; cases this
  · rw [wE] at q; exact ⟨lv b (I.fresh b q).1, (I.fresh b q).2⟩
  · obtain ⟨m, hn⟩ := I.ns; exact ⟨m, hn.sameBut sb hL⟩
  · obtain ⟨v, hv⟩ := I.cells x c hx; exact ⟨v, hv.sameBut sb (hC x c hx)⟩
  · rw [he.is] at f1
    rw [mE]
    by_cases hj : j = i
    · subst hj
      rw [e1] at f1; cases f1
      have hlt : j < ρ.length := (List.getElem?_eq_some_iff.mp e2).1
      rw [List.getElem?_set_self hlt] at f2; cases f2
      exact hc (vg _ _ hv)
    · rw [List.getElem?_set_ne (Ne.symm hj)] at f2
      have o := I.var he f1 f2
      cases sl with
      | unset => trivial
      | val d => obtain ⟨v, g', r'⟩ := o; exact ⟨v, vg _ _ g', Rel.kp kp _ _ r'⟩
      | own b ds2 =>
        obtain ⟨g', nb, us, m2, eb, rb⟩ := o
        have hba : b ≠ a := fun q => by
          subst q
          exact hj (own_inj (wr_apart I.nd).2.2.1 e2 a0 f2 rfl).symm
        exact ⟨vg _ _ g', nb, us, m2, (sb.2 b hba).trans eb, RelL.kp kp _ _ rb⟩
      | dict hf b kvs =>
        obtain ⟨g', nb, rb⟩ := o
        have hba : b ≠ a := fun q => by
          subst q
          exact hj (own_inj (wr_apart I.nd).2.2.1 e2 a0 f2 rfl).symm
        exact ⟨vg _ _ g', nb, rb.kp kp fun o e => (sb.2 b hba).trans e⟩
  · rw [wE]
    exact ⟨(sb.2 b fun t => m (t ▸ ha)).trans q, m⟩

theorem Inv.updDict {env : Env} (he : EnvOk sc env) {amb : AS} {h h' : Heap} {i : Nat} {y : Str} {k : NameKind} {a : Addr} {hf : D → Int} {kvs kvs' : List (D × D)} (I : Inv G env amb ρ h) (e1 : sc.names[i]? = some (y, k)) (e2 : ρ[i]? = some (.dict hf a kvs))
    (sb : Heap.SameBut a h h') (d : DictAt h' (mu env amb ρ) hf a kvs') : Inv G env amb (ρ.set i (.dict hf a kvs')) h' ∧ Go h (wr env ρ) h' (wr env (ρ.set i (.dict hf a kvs'))) := by
  obtain ⟨gv, na, r⟩ := I.var he e1 e2
  obtain ⟨sm, o, es, ep, xs, eo, _⟩ := id d
  exact I.updSlot he e1 e2 rfl rfl sb ⟨o, eo⟩ gv na fun g => ⟨g, na, d⟩

theorem KV.sb {h h' : Heap} {M : AS} {a : Addr} {kvs : List (D × D)} {xs : List (D × Addr × Value)} (x : KV h M kvs xs) (sb : Heap.SameBut a h h') (nq : ∀ T vs n, h.get? a ≠ some (seqObj T vs n)) : KV h' M kvs xs :=
  x.kp fun b T vs n e m => ⟨(sb.2 b fun q => nq T vs n (q ▸ e)).trans e, m⟩
theorem dict_notSeq {h : Heap} {prog : Program} {w : World} {a : Addr} {xs : List (D × Addr × Value)} : (open Classical in h.DictOfH (dKind prog w) a xs) → ∀ T vs n, h.get? a ≠ some (seqObj T vs n) := fun d T vs n e => by
  obtain ⟨o, es, ep, e1, _, e3, _⟩ := d
  rw [e] at e1; cases e1; cases e3

theorem Room.dict {A : Around} (hA : Room n A) (prog : Program) (w : World) : (open Classical in (dKind prog w).room A.in1) := by
  have := hA.units
  show A.units + 1 + 20 < cLine
  lia

theorem ES1.dict_store (i : Nat) {y : Str} {kn : NameKind} {e v : Expr} {a : Addr} {kvs : List (D × D)} {l : List D} {d : D} {p sp pos : Pos} (x : EE G n sc ρ v d ρ₁) (e1 : sc.names[i]? = some (y, kn)) (e2 : ρ₁[i]? = some (.dict (hashD G.w) a kvs)) (z : EE G n sc ρ₁ e (.tup l) ρ₂) (e3 : ρ₂[i]? = some (.dict (hashD G.w) a kvs))
    (hk : keyOk (.tup l)) (ok : KeysOk kvs) (hz : kvs.length ≤ 1000) (hs : autoParam (∀ env, swapsWith v (some (.Subscript (.Name y p) e sp)) pos.line env = pure false) byRflA) :
    ES1 G n sc ρ (.Assign [.Subscript (.Name y p) e sp] v pos) .next (ρ₂.set i (.dict (hashD G.w) a (putKV (.tup l) d kvs))) :=
  fun env he A amb s Q E hA I hQ => wpAny_Assign_Subscript (x env he A amb s _ E hA I fun v1 h1 t1 I1 g1 r1 => by
    obtain ⟨gv1, _, _⟩ := I1.var he e1 e2
    refine vget_load he gv1 (he.nodebug e1) (z env he A amb _ _ E hA I1 fun v2 h2 t2 I2 g2 r2 => ?_)
    obtain ⟨gv2, na2, r3⟩ := I2.var he e1 e3
    obtain ⟨sm, xs, dO, kv⟩ := r3.of (prog := G.prog) rfl ok
    have r2' := r2
    obtain ⟨ka, us, m, rfl, _⟩ := r2'
    have hkey : (open Classical in (dKind G.prog G.w).is h2 (.tup l) ka) := ⟨hk, r2.weak fun _ q => q.elim⟩
    have hlen : xs.length = kvs.length := by have := congrArg List.length kv.keys; simpa using this
    refine (open Classical in wpAny_setItem_heap (s := { s with heap := h2, toks := t2 }) (hA.dict G.prog G.w) hkey dO (fun h3 d3 sb => ?_) (by rw [hlen]; exact sizeLine_ge (by lia)))
    have nq := dict_notSeq dO
    have kv3 : KV h3 (mu env amb ρ₂) (putKV (.tup l) d kvs) _ := KV.stored (u := v1) hk (Rel.kp (fun b T vs n e m => ⟨(sb.2 b fun q => nq T vs n (q ▸ e)).trans e, m⟩) _ _ r2) (Rel.kp (fun b T vs n e m => ⟨(sb.2 b fun q => nq T vs n (q ▸ e)).trans e, m⟩) _ _ (Rel.go r1 g2)) (kv.sb sb nq) ok.ok
    obtain ⟨I3, g3⟩ := I2.updDict he e1 e3 sb (DictAt.to sm d3 kv3)
    exact hQ .next _ _ I3 ((g1.trans g2).trans g3) rfl) (hs env)

theorem EE.dict_get (i : Nat) {y : Str} {kn : NameKind} {e1 e2 : Expr} {a : Addr} {kvs : List (D × D)} {l : List D} {d : D} {p ap cp : Pos} (f1 : sc.names[i]? = some (y, kn)) (f2 : ρ[i]? = some (.dict (hashD G.w) a kvs)) (x : EE G n sc ρ e1 (.tup l) ρ₁) (z : EE G n sc ρ₁ e2 d ρ₂)
    (f3 : ρ₂[i]? = some (.dict (hashD G.w) a kvs)) (hk : keyOk (.tup l)) (ok : KeysOk kvs)
    (hbase : autoParam (∀ env, attributeBase (.Name y p) "get" env (eval (.Name y p) env) = eval (.Name y p) env) byRflA) (hline : autoParam ((ap.endLine == cp.line) = true) byRfl)
    (ht : autoParam (∀ env, backTo cp (starEach [e1, e2] env) = [(false, eval e1 env), (false, eval e2 env)]) byRflA) :
    EE G n sc ρ (.Call (.Attribute (.Name y p) "get" ap) [e1, e2] [] cp) ((getKV (.tup l) kvs).getD d) ρ₂ :=
  fun env he A amb s Q E hA I hQ => by
    obtain ⟨gv, na, sm0, o0, _, _, _, eo0, xd0, _⟩ := I.var he f1 f2
    refine wpAny_Call_method2_late (hbase env) hline (ht env) (vget_load he gv (he.nodebug f1) ⟨"dict", "dict.get", F.plainAttrs_dict, F.slot_dict_get, F.type_dict_get, ⟨_, eo0, xd0.1⟩, fun b hb => ?_, ?_⟩)
    · cases hb; exact ⟨_, eo0, xd0.2.1⟩
    · refine (open Classical in wpAny_dict_get2_heap (knd := dKind G.prog G.w) (hA.dict G.prog G.w) sm0 (x env he A amb s _ E hA I fun v1 h1 t1 I1 g1 r1 => z env he A amb _ _ E hA I1 fun v2 h2 t2 I2 g2 r2 => ?_))
      obtain ⟨_, _, r3⟩ := I2.var he f1 f3
      obtain ⟨sm, xs, dO, kv⟩ := r3.of (prog := G.prog) rfl ok
      have r1' := Rel.go (d := .tup l) r1 g2
      have r1'' := r1'
      obtain ⟨ka, us, m, rfl, _⟩ := r1''
      refine ⟨ka, .tup l, xs, rfl, ⟨hk, r1'.weak fun _ q => q.elim⟩, dO, ?_⟩
      rcases kv.at ok.ok hk with ⟨q1, q2⟩ | ⟨v, ka', u, q1, q2, q3⟩
      · rw [q2]
        exact hQ _ h2 _ I2 (g1.trans g2) (by rw [q1]; exact r2)
      · rw [q2]
        exact hQ _ h2 _ I2 (g1.trans g2) (by rw [q1]; exact q3)

theorem ET.in_dict (i : Nat) {y : Str} {kn : NameKind} {e : Expr} {a : Addr} {kvs : List (D × D)} {l : List D} {p pos : Pos} (x : EE G n sc ρ e (.tup l) ρ₁) (f1 : sc.names[i]? = some (y, kn)) (f2 : ρ₁[i]? = some (.dict (hashD G.w) a kvs)) (hk : keyOk (.tup l)) (ok : KeysOk kvs) :
    ET G n sc ρ (.Compare e [.In] [.Name y p] pos) (getKV (.tup l) kvs).isSome ρ₁ :=
  fun env he A amb s Q E hA I hQ => wpAny_isTrue_Compare1 (x env he A amb s _ E hA I fun v1 h1 t1 I1 g1 r1 => by
    obtain ⟨gv, na, r3⟩ := I1.var he f1 f2
    refine vget_load he gv (he.nodebug f1) ?_
    obtain ⟨sm, xs, dO, kv⟩ := r3.of (prog := G.prog) rfl ok
    have r1'' := r1
    obtain ⟨ka, us, m, rfl, _⟩ := r1''
    refine (open Classical in wpAny_in_heap (s := { s with heap := h1, toks := t1 }) (hA.dict G.prog G.w) ⟨hk, r1.weak fun _ q => q.elim⟩ sm dO ?_)
    refine wpAny_truthy_bool ?_
    rcases kv.at ok.ok hk with ⟨q1, q2⟩ | ⟨v, ka', u, q1, q2, q3⟩
    · rw [q2]
      have := hQ h1 (t1 + drawsD (.tup l)) I1 g1
      rw [q1] at this
      exact this
    · rw [q2]
      have := hQ h1 (t1 + drawsD (.tup l)) I1 g1
      rw [q1] at this
      exact this) (by with_unfolding_all rfl)
end
end Mine

end -- FY
section -- FZ
open PySem PySem.W PyProof.Rows PySem.Calls
open PySem.SeqAt
set_option maxRecDepth 100000
set_option linter.unusedVariables false
set_option linter.unusedSectionVars false
namespace Mine

section
variable {prog : Program} {w : World} {d a : Addr}

theorem eraseIdx_mp {α β : Type} (f : α → β) : ∀ (l : List α) (j : Nat), (l.map f).eraseIdx j = (l.eraseIdx j).map f
  | [], _ => rfl
  | _ :: _, 0 => rfl
  | x :: l, j + 1 => by simp only [List.map_cons, List.eraseIdx_cons_succ, eraseIdx_mp f l j]
theorem delKV_none {k : D} : ∀ {kvs : List (D × D)}, getKV k kvs = none → delKV k kvs = kvs
  | [], _ => rfl
  | (k', v') :: r, q => by
    unfold getKV at q
    split at q
    · cases q
    · rename_i hq
      unfold delKV
      rw [if_neg hq, delKV_none q]

open Classical in
theorem wpAny_takeOut_heap {A : Around} {E : Value → Shared → Prop} {s : Shared} {xs : List (D × Addr × Value)} {k : D} {Q : Option DictEntry → Shared → Prop} (hu : (dKind prog w).room A) (hkey : (dKind prog w).is s.heap k a) (hm : s.heap.DictOfH (dKind prog w) d xs)
    (h0 : atKey xs k = none → ∀ t, Q none { s with toks := t }) (h1 : ∀ (j : Nat) (p : Addr × Value), xs[j]? = some (k, p) → ∀ h' t, h'.DictOfH (dKind prog w) d (xs.eraseIdx j) → Heap.SameBut d s.heap h' → ∀ en, en.val = p.2 → Q (some en) { s with heap := h', toks := t }) (hz : xs.length ≤ sizeLine) :
    wpAny (model prog w) A (Builtin.Dict.takeOut d (.ref a)) Q E s := by
  obtain ⟨o, es, ep, ho, hc, hd, he, his, hn⟩ := hm
  have hsz := size_of_entries he
  unfold Builtin.Dict.takeOut
  try with_reducible refine wpAny_holding ?_
  refine wpAny_bind ((dKind prog w).pyHash hu hkey ?_)
  refine wpAny_bind (wpAny_dictFind_heap (knd := dKind prog w) (s := { s with toks := s.toks + drawsD k }) hu hkey ho hd he his hn (fun hno => ?_) (fun j p hj => ?_))
  · exact wpAny_pure (h0 (atKey_none_of_get hno) _)
  · refine wpAny_bind (wpAny_dictEntries (s := { s with toks := s.toks + drawsD k }) ho hd ?_)
    rw [entry_at he j, hj]
    refine wpAny_bind (wpAny_updateDictKeys (s := { s with toks := s.toks + drawsD k }) ho hd (wpAny_pure ?_) (by lia) (by simp [Array.eraseIdxIfInBounds]; split <;> simp <;> lia))
    refine h1 j p hj _ _ ⟨_, _, ep + 1, Heap.get?_update_self _ ho (Obj.isFreed_of_dict (Obj.data_mapDictKeys hd _)), hc.mapDictKeys _, Obj.data_mapDictKeys hd _, ?_, fun x hx => ?_, ?_⟩ (Heap.SameBut.update ..) _ rfl
    · have hlt : j < es.size := by rw [hsz]; exact (List.getElem?_eq_some_iff.mp hj).1
      simp only [Array.eraseIdxIfInBounds, hlt, dif_pos]
      rw [Array.toList_eraseIdx, he, eraseIdx_mp]
    · exact (dKind prog w).keeps (his x ((List.eraseIdx_sublist ..).subset hx)) ho hd (Heap.SameBut.update ..)
    · exact hn.sublist ((List.eraseIdx_sublist ..).map _)

open Classical in
theorem meetsH_pop (dflt : Value) (sm : (d == sysModules) = false) :
    MeetsIn prog w (Builtin.«dict.pop» ⟨[.ref d, .ref a, dflt], []⟩) (fun A R s => (dKind prog w).room A.in1 ∧ ∃ k xs, (dKind prog w).is s.heap k a ∧ s.heap.DictOfH (dKind prog w) d xs ∧ xs.length ≤ sizeLine ∧
      (atKey xs k = none → ∀ t, R (.ok (.ret dflt)) { s with toks := t }) ∧ ∀ (j : Nat) (p : Addr × Value), xs[j]? = some (k, p) → ∀ h' t, h'.DictOfH (dKind prog w) d (xs.eraseIdx j) → Heap.SameBut d s.heap h' → R (.ok (.ret p.2)) { s with heap := h', toks := t }) :=
  .of_wp fun A R s ⟨hu, k, xs, hkey, hm, hz, h0, h1⟩ => by
    unfold Builtin.«dict.pop»
    refine wpAny_bind ?_
    unfold Builtin.Dict.keyAndDefault
    refine wpAny_bind (wpAny_notOrdered_dict hm.typeIs ?_)
    show wpAny _ _ (pure (d, Value.ref a, some dflt)) _ _ s
    refine wpAny_pure ?_
    have hm' := hm
    obtain ⟨o, es, ep, ho, hc, hd, he, his, hn⟩ := hm'
    have hkp : keyPart (Value.ref a) = none := rfl
    simp only [hkp, Option.isSome_none, Bool.false_eq_true, if_false]
    refine wpAny_bind (wpAny_dictEntries ho hd (wpAny_bind (wpAny_pure ?_)))
    by_cases hem : es.isEmpty = true
    · rw [if_pos hem]
      refine wpAny_bind (wpAny_rule (wpAny_bind (wpAny_pure ?_)))
      simp only [Option.isNone_none, if_true]
      refine wpAny_bind (wpAny_missedRemoval_other sm ?_)
      refine wpAny_bind (wpAny_rule (wpAny_pure ⟨dflt, rfl, ?_⟩))
      have : xs = [] := by
        have h2 := size_of_entries he
        have h3 : es.size = 0 := by simpa using hem
        exact List.length_eq_zero_iff.mp (by lia)
      exact h0 (by rw [this]; rfl) s.toks
    · rw [if_neg hem]
      refine wpAny_bind (wpAny_takeOut_heap hu hkey hm (fun hno t => ?_) (fun j p hj h' t dm sb en hen => ?_) hz)
      · simp only [Option.isNone_none, if_true]
        refine wpAny_bind (wpAny_missedRemoval_other sm ?_)
        exact wpAny_bind (wpAny_rule (wpAny_pure ⟨dflt, rfl, h0 hno t⟩))
      · simp only [Option.isNone_some, Bool.false_eq_true, if_false]
        refine wpAny_bind (wpAny_letGo (wpAny_pure ⟨_, rfl, ?_⟩))
        rw [hen]
        exact h1 j p hj h' t dm sb
end

section
variable {G : GC} {n : Nat} {sc : Scope} {ρ ρ₁ ρ₂ ρ₃ : St}

open Classical in
theorem EE.dict_pop (i : Nat) {y : Str} {kn : NameKind} {e1 e2 : Expr} {a : Addr} {kvs : List (D × D)} {l : List D} {d : D} {p ap cp : Pos} (f1 : sc.names[i]? = some (y, kn)) (f2 : ρ[i]? = some (.dict (hashD G.w) a kvs)) (x : EE G n sc ρ e1 (.tup l) ρ₁) (z : EE G n sc ρ₁ e2 d ρ₂)
    (f3 : ρ₂[i]? = some (.dict (hashD G.w) a kvs)) (hk : keyOk (.tup l)) (ok : KeysOk kvs) (hz : kvs.length ≤ 1000)
    (hbase : autoParam (∀ env, attributeBase (.Name y p) "pop" env (eval (.Name y p) env) = eval (.Name y p) env) byRflA) (hline : autoParam ((ap.endLine == cp.line) = true) byRfl)
    (ht : autoParam (∀ env, backTo cp (starEach [e1, e2] env) = [(false, eval e1 env), (false, eval e2 env)]) byRflA) :
    EE G n sc ρ (.Call (.Attribute (.Name y p) "pop" ap) [e1, e2] [] cp) ((getKV (.tup l) kvs).getD d) (ρ₂.set i (.dict (hashD G.w) a (delKV (.tup l) kvs))) :=
  fun env he A amb s Q E hA I hQ => by
    obtain ⟨gv, na, sm0, o0, _, _, _, eo0, xd0, _⟩ := I.var he f1 f2
    refine wpAny_Call_method2_late (hbase env) hline (ht env) (vget_load he gv (he.nodebug f1) ⟨"dict", "dict.pop", F.plainAttrs_dict, F.slot_dict_pop, F.type_dict_pop, ⟨_, eo0, xd0.1⟩, fun b hb => ?_, ?_⟩)
    · cases hb; exact ⟨_, eo0, xd0.2.1⟩
    · refine method2_meetsIn F.slot_dict_pop F.entry_dict_pop (x env he A amb s _ E hA I fun v1 h1 t1 I1 g1 r1 => z env he A amb _ _ E hA I1 fun v2 h2 t2 I2 g2 r2 => ?_)
      obtain ⟨gv2, na2, r3⟩ := I2.var he f1 f3
      obtain ⟨sm, xs, dO, kv⟩ := r3.of (prog := G.prog) rfl ok
      have hlen : xs.length = kvs.length := by have := congrArg List.length kv.keys; simpa using this
      have r1' := Rel.go (d := .tup l) r1 g2
      have r1'' := r1'
      obtain ⟨ka, us, m, rfl, _⟩ := r1''
      refine ⟨dO.typeIs (s := { s with heap := h2, toks := t2 }), F.args_dict_pop_3 _ _ _, _, meetsH_pop (prog := G.prog) (w := G.w) v2 sm, hA.dict G.prog G.w, .tup l, xs, ⟨hk, r1'.weak fun _ q => q.elim⟩, dO, by rw [hlen]; exact sizeLine_ge (by lia), fun hno t => ?_, fun j pv hj h3 t dm sb => ?_⟩
      · rcases kv.at ok.ok hk with ⟨q1, q2⟩ | ⟨v, ka', u, q1, q2, q3⟩
        · have hdel : delKV (.tup l) kvs = kvs := delKV_none q1
          have hset : ρ₂.set i (.dict (hashD G.w) a (delKV (.tup l) kvs)) = ρ₂ := by
            rw [hdel]
            refine List.ext_getElem? fun j => ?_
            by_cases hj : j = i
            · subst hj
              rw [List.getElem?_set_self (List.getElem?_eq_some_iff.mp f3).1, f3]
            · rw [List.getElem?_set_ne (Ne.symm hj)]
          show Q v2 _
          refine hQ v2 h2 t (by rw [hset]; exact I2) (by rw [hset]; exact g1.trans g2) ?_
          rw [hset, q1]
          exact r2
        · rw [hno] at q2; cases q2
      · obtain ⟨kv', v, q1, q2⟩ := kv.erase hk ok hj
        have nq := dict_notSeq dO
        have kp : Kp h2 (mu env amb ρ₂) h3 (mu env amb ρ₂) := fun b T vs n e m => ⟨(sb.2 b fun q => nq T vs n (q ▸ e)).trans e, m⟩
        obtain ⟨I3, g3⟩ := I2.updDict he f1 f3 sb (DictAt.to sm dm (kv'.kp kp))
        show Q pv.2 _
        refine hQ pv.2 h3 t I3 ((g1.trans g2).trans g3) ?_
        rw [q1]
        have wE : wr env (ρ₂.set i (.dict (hashD G.w) a (delKV (.tup l) kvs))) = wr env ρ₂ := by unfold wr; rw [slot_set_addr rfl rfl f3]
        have mE : mu env amb (ρ₂.set i (.dict (hashD G.w) a (delKV (.tup l) kvs))) = mu env amb ρ₂ := by unfold mu; rw [wE]
        rw [mE]
        exact Rel.kp kp _ _ q2

theorem wr_slot_set {env : Env} {i : Nat} {a : Addr} {s : Slot} (hs : s.addr? = some a) (nd : (wr env ρ).Nodup) (na : a ∉ wr env ρ) : (wr env (ρ.set i s)).Nodup ∧ ∀ b ∈ wr env (ρ.set i s), b = a ∨ b ∈ wr env ρ := by
  obtain ⟨p1, p2, p3, p4⟩ := wr_apart nd
  have na' : env.locals ≠ a ∧ a ∉ env.cells.map (·.2) ∧ a ∉ ρ.filterMap Slot.addr? := by
    unfold wr at na
    simp only [List.mem_cons, List.mem_append, not_or] at na
    exact ⟨fun q => na.1 q.symm, na.2.1, na.2.2⟩
  obtain ⟨q1, q2⟩ := set_own (s := s) hs ρ i p3 na'.2.2
  unfold wr
  refine ⟨?_, fun b hb => ?_⟩
  · rw [List.nodup_cons, List.mem_append, not_or, List.nodup_append]
    refine ⟨⟨p1, fun m => ?_⟩, p2, q1, fun x hx y hy e => ?_⟩
    · rcases q2 _ m with e | m
      · exact na'.1 e
      · exact (p4 _ m).1 rfl
    · subst e
      rcases q2 _ hy with e | m
      · exact na'.2.1 (e ▸ hx)
      · exact (p4 _ m).2 hx
  · simp only [List.mem_cons, List.mem_append] at hb ⊢
    rcases hb with e | e | e
    · exact .inr (.inl e)
    · exact .inr (.inr (.inl e))
    · exact (q2 b e).imp id fun q => .inr (.inr q)

theorem Inv.stored_slot {env : Env} {amb : AS} {h h' : Heap} {c a : Addr} {i : Nat} {y : Str} {k : NameKind} {s : Slot} (hs : s.addr? = some a) (he : EnvOk sc env) (I : Inv G env (addA amb a) ρ h) (S : Stored env h h' c y (.ref a)) (hi : sc.names[i]? = some (y, k))
    (na : ¬ amb a) (nw : a ∉ wr env ρ) (hc : ∀ M', Kp h (mu env (addA amb a) ρ) h' M' → h'.get? a = h.get? a → vget env h' y (.ref a) → SlotOk h' M' amb env y s) :
    Inv G env amb (ρ.set i s) h' ∧ ∀ h₀ W₀, Go h₀ W₀ h (wr env ρ) → h₀.get? a = Option.none → Go h₀ W₀ h' (wr env (ρ.set i s)) := by
  obtain ⟨nd', sub⟩ := wr_slot_set (i := i) hs I.nd nw
  have hcw : c ∈ wr env ρ := by
    unfold wr
    rcases S.isOwn with rfl | ⟨x, hx⟩
    · exact List.mem_cons_self
    · exact List.mem_cons_of_mem _ (List.mem_append_left _ (List.mem_map.mpr ⟨(x, c), hx, rfl⟩))
  have mup : ∀ b, mu env amb (ρ.set i s) b → mu env (addA amb a) ρ b := fun b q => q.elim (fun q => .inl (.inl q)) fun q => (sub b q).elim (fun q => .inl (.inr q)) .inr
  have kp : Kp h (mu env (addA amb a) ρ) h' (mu env amb (ρ.set i s)) := fun b T us n e' m' => ⟨(S.same.2 b fun q => S.notSeq T us n (q ▸ e')).trans e', fun q => m' (mup b q)⟩
  refine ⟨⟨I.gl, fun b o e => ?_, fun b q => ⟨S.live (I.ambLt b (.inl q)).1, (I.ambLt b (.inl q)).2⟩, fun b q => ?_, nd', S.ns, S.cells, fun j z kz sl e1 e2 => ?_⟩, fun h₀ W₀ g e0 => ⟨fun b o e' m' => ?_, fun b l => S.live (g.live b l)⟩⟩
  · refine (S.same.2 b fun q => ?_).trans (I.top b o e)
    have := (I.fresh c hcw).2
    rw [← q, e] at this; cases this
  · rcases sub b q with rfl | q
    · exact ⟨S.live (I.ambLt b (.inr rfl)).1, (I.ambLt b (.inr rfl)).2⟩
    · exact ⟨S.live (I.fresh b q).1, (I.fresh b q).2⟩
  · rw [he.is] at e1
    by_cases hj : j = i
    · subst hj
      rw [hi] at e1; cases e1
      have hlt : j < ρ.length := by have := (List.getElem?_eq_some_iff.mp e2).1; rwa [List.length_set] at this
      rw [List.getElem?_set_self hlt] at e2
      cases e2
      exact hc _ kp (S.same.2 a fun q => nw (q ▸ hcw)) S.here
    · rw [List.getElem?_set_ne (Ne.symm hj)] at e2
      have hz : z ≠ y := fun q => hj (names_inj he.ok (q ▸ e1) hi)
      have o := I.var he e1 e2
      cases sl with
      | unset => trivial
      | val d' => obtain ⟨u, g, r'⟩ := o; exact ⟨u, S.other z u hz g, Rel.kp kp d' u r'⟩
      | own b ds' =>
        obtain ⟨g, na', vs', m', e', rs⟩ := o
        exact ⟨S.other z _ hz g, fun q => na' (.inl q), vs', m', (S.same.2 b fun q => S.notSeq _ vs' m' (q ▸ e')).trans e', RelL.kp kp ds' vs' rs⟩
      | dict hf b kvs =>
        obtain ⟨g, na', r⟩ := o
        exact ⟨S.other z _ hz g, fun q => na' (.inl q), r.kp kp fun o e => (S.same.2 b (S.offSlot I.nd (List.mem_filterMap.mpr ⟨_, List.mem_of_getElem? e2, rfl⟩))).trans e⟩
  · obtain ⟨p, q⟩ := g.keep b o e' m'
    refine ⟨(S.same.2 b fun t => q (t ▸ hcw)).trans p, fun t => ?_⟩
    rcases sub b t with rfl | t
    · rw [e0] at e'; cases e'
    · exact q t

noncomputable abbrev emptyDict : Obj := { cls := .type "dict", data := .dict #[] }
theorem emptyDict_at {h : Heap} {M : AS} {hf : D → Int} {a : Addr} (e : h.get? a = some emptyDict) (sm : (a == sysModules) = false) : DictAt h M hf a [] := ⟨sm, _, #[], 0, [], e, ⟨rfl, rfl, rfl⟩, rfl, rfl, rfl⟩
theorem Inv.notModules {env : Env} {amb : AS} {h : Heap} (I : Inv G env amb ρ h) : (h.objs.size == sysModules) = false := by
  obtain ⟨o, _, _, e, _⟩ := I.gl.g
  have h1 := Heap.lt_size (I.top _ _ e)
  have h2 : mainGlobals = 3 := rfl
  have h3 : sysModules = 1 := rfl
  rw [h2] at h1
  have h4 : (3 : Nat) < h.objs.size := h1
  rw [beq_eq_false_iff_ne, h3]
  exact fun q => by
    have : h.objs.size = (1 : Nat) := q
    lia

theorem ES.assign_dict (i : Nat) {y : Str} {k : NameKind} {p dp pos : Pos} {rest : List Stmt} {f : Fl} (z : ∀ a, ES G n sc (ρ.set i (.dict (hashD G.w) a [])) rest f ρ₂) (hi : autoParam (sc.names[i]? = some (y, k)) byRfl) (hk : autoParam (k = .local ∨ k = .cell) byDec)
    (hs : autoParam (∀ env, swapsWith (.Dict [] [] dp) (some (.Name y p)) pos.line env = pure false) byRflA) : ES G n sc ρ (.Assign [.Name y p] (.Dict [] [] dp) pos :: rest) f ρ₂ :=
  fun env he A amb s Q E hA I hQ => by
    refine wpAny_execs_cons (wpAny_Assign_Name (wpAny_Dict_empty ?_) (hs env))
    have k' : ∀ b o, s.heap.get? b = some o → (s.heap.push emptyDict).get? b = some o := fun b o e => Heap.get?_push_of_some _ e
    have e0 : s.heap.get? s.heap.objs.size = Option.none := get_none_of_ge (Nat.le_refl _)
    have ea : (s.heap.push emptyDict).get? s.heap.objs.size = some emptyDict := Heap.get?_push_size _ rfl
    have I1 := I.growAdd k' e0 ⟨_, ea⟩
    have na : ¬ amb s.heap.objs.size := fun m => Nat.lt_irrefl _ (I.ambLt _ m).1.lt
    have nw : s.heap.objs.size ∉ wr env ρ := fun m => Nat.lt_irrefl _ (wr_live I m).lt
    refine storeName_stored he I1.nd I1.ns I1.cells hi hk (fun q => he.cl y (q ▸ he.kind hi)) fun c h' t' S => ?_
    obtain ⟨I2, g2⟩ := I1.stored_slot (s := .dict (hashD G.w) s.heap.objs.size []) rfl he S hi na nw fun M' kp e g => ⟨g, na, emptyDict_at (e.trans ea) I.notModules⟩
    exact z _ env he A amb _ Q E hA I2 fun fl h'' t'' I3 g3 fo => hQ fl h'' t'' I3 ((g2 _ _ (Go.of_keeps k') e0).trans g3) fo

end
end Mine

end -- FZ
section -- FZs
open PySem PySem.W PyProof.Rows PySem.Calls
open PySem.SeqAt
set_option maxRecDepth 100000
set_option linter.unusedVariables false
set_option linter.unusedSectionVars false
namespace Mine
section
variable {G : GC} {n : Nat} {sc : Scope} {ρ ρ₁ ρ₂ ρ₃ : St}
theorem ES.assign_swap_dict (i : Nat) {x y : Str} {kx ky : NameKind} {ts es : List Expr} {e : Expr} {d : D} (j : Nat) {k k' : Nat} {p p' dp pos : Pos} {rest : List Stmt} {f : Fl} (xe : EE G n sc ρ e d ρ₁)
    (z : ∀ a, ES G n sc ((ρ₁.set j (.dict (hashD G.w) a [])).set i (.val d)) rest f ρ₂) (hi : autoParam (sc.names[i]? = some (x, kx)) byRfl) (hk : autoParam (kx = .local ∨ kx = .cell) byDec) (hj : autoParam (sc.names[j]? = some (y, ky)) byRfl) (hkj : autoParam (ky = .local ∨ ky = .cell) byDec)
    (hst : autoParam (∀ env, starEach es env = [(false, eval e env), (false, eval (.Dict [] [] dp) env)]) byRflA)
    (hsw : autoParam (∀ env, env.scope = sc → swappedStores [.Tuple ts k p] (.Tuple es k' p') env = pure (some [x, y])) byEnv) : ES G n sc ρ (.Assign [.Tuple ts k p] (.Tuple es k' p') pos :: rest) f ρ₂ :=
  fun env he A amb s Q E hA I hQ => by
    refine wpAny_execs_cons ?_
    show wpAny _ _ (do
      standAt pos
      if ← swapsWithSole [.Tuple ts k p] (.Tuple es k' p') pos.line env then do
        evalThenUse (.Tuple es k' p') env fun v => assignAll v ((assignEach [.Tuple ts k p] env).map (·.2))
        pure .next
      else do
        let v ← eval (.Tuple es k' p') env
        assignStores env v (← swappedStores [.Tuple ts k p] (.Tuple es k' p') env) ((assignEach [.Tuple ts k p] env).map (·.2))) _ _ _
    refine wpAny_bind (wpAny_standAt ?_)
    have e0 : swapsWithSole [.Tuple ts k p] (.Tuple es k' p') pos.line env = pure false := rfl
    rw [e0]
    refine wpAny_bind (wpAny_pure ?_)
    rw [if_neg Bool.false_ne_true]
    refine wpAny_bind (Tuple_ ?_)
    have hb : backTo p' (starEach es env) = [(false, eval e env), (false, eval (.Dict [] [] dp) env)] := by rw [hst env]; rfl
    show wpAny _ _ (spliced (backTo p' (starEach es env))) _ _ _
    rw [hb]
    refine spliced_cons (xe env he A amb s _ E hA I fun v h t I1 g r => spliced_cons (wpAny_Dict_empty (spliced_nil ?_)))
    have k' : ∀ b o, h.get? b = some o → (h.push emptyDict).get? b = some o := fun b o e => Heap.get?_push_of_some _ e
    have ed : h.get? h.objs.size = Option.none := get_none_of_ge (Nat.le_refl _)
    have ea : (h.push emptyDict).get? h.objs.size = some emptyDict := Heap.get?_push_size _ rfl
    have I2 := I1.growAdd k' ed ⟨_, ea⟩
    have na : ¬ amb h.objs.size := fun m => Nat.lt_irrefl _ (I1.ambLt _ m).1.lt
    have nw : h.objs.size ∉ wr env ρ₁ := fun m => Nat.lt_irrefl _ (wr_live I1 m).lt
    have hl2 : ([v, Value.ref h.objs.size] : List Value).length = 2 := rfl
    have hrev : ([v, Value.ref h.objs.size] : List Value).toArray.toList.reverse = [.ref h.objs.size, v] := rfl
    generalize hvs : ([v, Value.ref h.objs.size] : List Value) = vs at hl2 hrev
    refine wpAny_newTuple ?_ (by
      rw [hl2]
      exact sizeLine_ge (by lia))
    rw [hsw env he.is]
    refine wpAny_bind (wpAny_pure ?_)
    unfold assignStores
    dsimp only
    refine wpAny_bind (wpAny_rule ?_)
    have ht : Heap.IsTuple ((h.push emptyDict).push (seqObj "tuple" vs 0)) (h.push emptyDict).objs.size vs.toArray := ⟨_, Heap.get?_push_size _ rfl, rfl, _, rfl⟩
    have hsz : ([x, y] : List Str).length = vs.toArray.size := by rw [List.size_toArray, hl2]; rfl
    rw [hsz]
    refine wpAny_bind (wpAny_unpackItems_tuple hA.handled ht fun h' eb => ?_)
    have k1 : ∀ b o, (h.push emptyDict).get? b = some o → h'.get? b = some o := fun b o q => eb b o (Nat.ne_of_lt (by rw [Heap.size_push]; exact Nat.lt_succ_of_lt (Heap.lt_size q))) (Heap.get?_push_of_some _ q)
    have I3 := I2.grow k1
    have r2 : Rel h' (mu env (addA amb h.objs.size) ρ₁) d v := Rel.kp (fun b T us m q mm => ⟨k1 _ _ (k' _ _ q), fun c => ((mu_addA b).mp c).elim mm fun c => by subst c; rw [ed] at q; cases q⟩) _ _ r
    refine wpAny_bind ?_
    have et : ([x, y].reverse.map fun n => bindName env n) = [(fun v => bindName env y v), (fun v => bindName env x v)] := rfl
    show wpAny _ _ (assignInOrder ([x, y].reverse.map fun n => bindName env n) vs.toArray.toList.reverse) _ _ _
    rw [et, hrev]
    refine inOrder_cons (storeName_stored he I3.nd I3.ns I3.cells hj hkj (fun q => he.cl y (q ▸ he.kind hj)) fun c h4 t4 S => ?_)
    obtain ⟨I4, g4⟩ := I3.stored_slot (s := .dict (hashD G.w) h.objs.size []) rfl he S hj na nw fun M' kp e g => ⟨g, na, emptyDict_at (e.trans (k1 _ _ ea)) I1.notModules⟩
    have gall := g4 _ _ (g.trans (Go.of_keeps fun b o q => k1 _ _ (k' b o q))) (g.dead ed)
    have r4 : Rel h4 (mu env amb (ρ₁.set j (.dict (hashD G.w) h.objs.size []))) d v := by
      refine Rel.kp (fun b T us m q mm => ?_) _ _ r2
      refine ⟨(S.same.2 b fun w => S.notSeq T us m (w ▸ q)).trans q, fun w => mm ?_⟩
      rcases w with w | w
      · exact .inl (.inl w)
      · rcases (wr_slot_set (s := .dict (hashD G.w) h.objs.size []) (i := j) rfl I3.nd nw).2 b w with w | w
        · exact .inl (.inr w)
        · exact .inr w
    refine inOrder_cons (store_val he I4 hi hk r4 fun h5 t5 I5 g5 => wpAny_pure (wpAny_pure ?_))
    exact z _ env he A amb _ Q E hA I5 fun fl h6 t6 I6 g6 fo => hQ fl h6 t6 I6 ((gall.trans g5).trans g6) fo
end
end Mine

end -- FZs
section -- FZi
open PySem PySem.W PyProof.Rows PySem.Calls
open PySem.SeqAt
set_option maxRecDepth 100000
set_option linter.unusedVariables false
set_option linter.unusedSectionVars false
namespace Mine

noncomputable abbrev itemIter (d : Addr) (i n ep : Nat) (f1 f2 : Value) (a0 : Value) : Obj := { cls := .type "dict_itemiterator", dict := none, data := .fields #[a0, .bool false, .ref d, .int i 0, .int n 0, .int ep 0, f1, f2], slots := #[] }

section
variable {prog : Program} {w : World} {A : Around} {E : Value → Shared → Prop} {s : Shared} {d it : Addr}

theorem items_call {pos : Pos} {o : Obj} {es : Array DictEntry} {ep : Nat} {Q : Value → Shared → Prop} (ho : s.heap.get? d = some o) (xd : o.ExactDict) (hd : o.data = .dict es ep) (sm : (d == sysModules) = false)
    (hQ : Q (.ref s.heap.objs.size) { s with heap := s.heap.push { cls := .type "dict_items", data := .fields #[.ref d] } }) :
    wpAny (model prog w) A (callWith pos (.builtin "dict.items") [.ref d] [] []) Q E s := by
  have hT : s.TypeIs (.ref d) "dict" := ⟨o, ho, xd.1⟩
  refine method_meetsIn F.slot_dict_items F.entry_dict_items rfl (PySem.evalArgs_none ⟨rfl, hT, F.args_dict_items_1 _, (fun _ R s' => s' = s ∧ R (.ok (.ret (.ref s.heap.objs.size))) { s with heap := s.heap.push { cls := .type "dict_items", data := .fields #[.ref d] } }), ?_, rfl, hQ⟩)
  refine .of_wp fun A R s' ⟨e, h⟩ => ?_
  subst e
  unfold Builtin.«dict.items» Builtin.Dict.noArgs
  refine wpAny_bind (wpAny_bind (wpAny_notOrdered_dict hT ?_))
  refine wpAny_pure ?_
  unfold Builtin.Dict.showsAll
  rw [sm]
  refine wpAny_bind (wpAny_pure ?_)
  exact wpAny_bind (wpAny_newObj_type (wpAny_pure ⟨_, rfl, h⟩))

theorem items_iter {v : Addr} {o : Obj} {es : Array DictEntry} {ep : Nat} {Q : Value → Shared → Prop} (hv : s.heap.IsItemsView v d) (ho : s.heap.get? d = some o) (hd : o.data = .dict es ep)
    (hQ : Q (.ref s.heap.objs.size) { s with heap := s.heap.push (itemIter d 0 es.size ep .none .none .none) }) : wpAny (model prog w) A (pyIter (.ref v)) Q E s := by
  obtain ⟨ov, hov, hcv, hdv⟩ := id hv
  refine wpAny_pyIter_slot hv.typeIs F.slot_dict_items_iter (wpAny_call_entry F.slot_dict_items_iter hv.typeIs F.entry_dict_items_iter ?_ (F.args_dict_items_iter_1 _))
  unfold Builtin.«dict_items.__iter__»
  refine wpAny_bind (wpAny_pure ?_)
  unfold Builtin.Dict_items.dictOf Builtin.Dict_items.newIterator
  refine wpAny_bind (wpAny_bind (wpAny_field hov hdv (x := .ref d) rfl (wpAny_pure ?_)))
  refine wpAny_bind (wpAny_bind (wpAny_dictEntries ho hd (wpAny_bind (wpAny_dictEpoch ho hd ?_))))
  simp only [show Builtin.Dict_items.ownsTuple "dict_itemiterator" = true by decide, if_true]
  refine wpAny_newObj_type (wpAny_pure ⟨_, rfl, "dict_itemiterator", _, ⟨_, Heap.get?_push_size _ rfl, rfl⟩, F.slot_dict_itemiterator_next.lookup, ?_⟩)
    (by simp only [sizeOk, Builtin.Dict_items.ownedTupleFields, List.size_toArray, List.length_append, List.length_cons, List.length_nil, sizeLine_eq]; lia)
  simpa [itemIter, rawInt, Builtin.Dict_items.ownedTupleFields] using hQ

theorem items_next {i ep : Nat} {o : Obj} {es : Array DictEntry} {f1 f2 : Value} {en : DictEntry} {Q : Option Value → Shared → Prop} (hit : s.heap.get? it = some (itemIter d i es.size ep f1 f2 .none)) (ho : s.heap.get? d = some o) (hd : o.data = .dict es ep) (he : es[i]? = some en)
    (hQ : ∀ h', h'.get? it = some (itemIter d (i + 1) es.size ep en.key en.val (rawInt s.heap.objs.size)) → h'.get? s.heap.objs.size = some (seqObj "tuple" [en.key, en.val] 0) → (∀ b ob, b ≠ it → s.heap.get? b = some ob → h'.get? b = some ob) → Q (some (.ref s.heap.objs.size)) { s with heap := h' }) :
    wpAny (model prog w) A (pyNext (.ref it)) Q E s := by
  obtain ⟨hp, g, dr, tk, os⟩ := s
  have hT : Shared.TypeIs ⟨hp, g, dr, tk, os⟩ (.ref it) "dict_itemiterator" := ⟨_, hit, rfl⟩
  have hlt : i < es.size := (Array.getElem?_eq_some_iff.mp he).1
  have hil : it < hp.objs.size := Heap.lt_size hit
  unfold pyNext
  refine wpAny_bind (wpAny_attempt (wpAny_callSpecial?_slot (name := Str.ofString "__next__") hT F.slot_dict_itemiterator_next
    (wpAny_call_entry F.slot_dict_itemiterator_next hT F.entry_dict_itemiterator_next ?_ (F.args_dict_itemiterator_next_1 _))))
  refine wpAny_bind (wpAny_pure (wpAny_bind (wpAny_bind ?_)))
  first | refine wpAny_bind (wpAny_typeNameOfWhole_itemiter hT (wpAny_pure ?_)) | refine wpAny_bind (wpAny_typeNameOf_itemiter hT (wpAny_pure ?_))
  refine wpAny_bind (wpAny_fieldsOf hit rfl ?_)
  simp only [show Builtin.Dict_items.ownsTuple "dict_itemiterator" = true by decide, if_true]
  show wpAny _ _ (if (Value.ref d == Value.none) = true then _ else _) _ _ _
  rw [if_neg (show ¬ ((Value.ref d == Value.none) = true) from Bool.false_ne_true)]
  refine wpAny_bind (wpAny_pure (wpAny_bind (wpAny_dictEntries ho hd ?_)))
  rw [if_neg (by simp)]
  refine wpAny_bind (wpAny_pure (wpAny_bind (wpAny_dictEpoch ho hd ?_)))
  rw [if_neg (by simp)]
  refine wpAny_pure ?_
  simp only [show ¬ ((i : Int) < 0) from by lia, if_false, Int.toNat_natCast, he]
  refine wpAny_bind ?_
  first | refine wpAny_bind (wpAny_typeNameOfWhole_itemiter hT (wpAny_pure ?_)) | refine wpAny_bind (wpAny_typeNameOf_itemiter hT (wpAny_pure ?_))
  refine wpAny_bind (wpAny_isOneOf_itemiter hT ?_)
  show wpAny _ _ (setField (.ref it) 3 (rawInt ((i : Int) + 1)) >>= _) _ _ ⟨hp, g, dr, tk, os⟩
  refine wpAny_bind (wpAny_setField_rec hit (by simp) fun h₁ he₁ hs₁ => ?_)
  have he1 : h₁.get? it = some (itemIter d (i + 1) es.size ep f1 f2 .none) := by
    have : ((i + 1 : Nat) : Int) = (i : Int) + 1 := by lia
    unfold itemIter
    rw [this]
    simpa [rawInt] using he₁
  have hs1 : Heap.SameBut it hp h₁ := hs₁
  have hT1 : Shared.TypeIs ⟨h₁, g, dr, tk, os⟩ (.ref it) "dict_itemiterator" := ⟨_, he1, rfl⟩
  refine wpAny_bind (wpAny_holding (wpAny_bind (wpAny_isOneOf_itemiter hT1 (wpAny_bind (wpAny_isOneOf_itemiter hT1 ?_)))))
  show wpAny _ _ (Builtin.Dict_items.pairFromOwner (.ref it) 6 en.key en.val) _ _ ⟨h₁, g, dr, tk, os⟩
  unfold Builtin.Dict_items.pairFromOwner
  refine wpAny_bind (wpAny_newTuple ?_)
  generalize hh2 : h₁.push { cls := .type "tuple", data := .seq [en.key, en.val].toArray } = h₂
  have e2 : h₂.get? it = some (itemIter d (i + 1) es.size ep f1 f2 .none) := by rw [← hh2]; exact Heap.get?_push_of_some _ he1
  have t2 : h₂.get? hp.objs.size = some (seqObj "tuple" [en.key, en.val] 0) := by rw [← hh2, ← hs1.1]; exact Heap.get?_push_size _ rfl
  have k2 : ∀ b ob, b ≠ it → hp.get? b = some ob → h₂.get? b = some ob := fun b ob hb e => by rw [← hh2]; exact Heap.get?_push_of_some _ (hs1.extBut b ob hb e)
  rw [hs1.1]
  refine wpAny_bind ?_
  unfold Builtin.Dict_items.ownedTupleIsFree
  refine wpAny_bind (wpAny_field e2 rfl (x := .none) rfl (wpAny_pure ?_))
  simp only [if_true]
  refine wpAny_bind (wpAny_field e2 rfl (x := f1) rfl (wpAny_bind (wpAny_field e2 rfl (x := f2) rfl ?_)))
  refine wpAny_bind (wpAny_setField_rec e2 (by simp) fun h₃ e3 s3 => wpAny_bind (wpAny_setField_rec e3 (by simp) fun h₄ e4 s4 => wpAny_bind (wpAny_setField_rec e4 (by simp) fun h₅ e5 s5 => wpAny_bind (wpAny_setField_rec e5 (by simp) fun h₆ e6 s6 => ?_))))
  have S3 : Heap.SameBut it h₂ h₃ := s3
  have S4 : Heap.SameBut it h₃ h₄ := s4
  have S5 : Heap.SameBut it h₄ h₅ := s5
  have S6 : Heap.SameBut it h₅ h₆ := s6
  have kk : ∀ b ob, b ≠ it → h₂.get? b = some ob → h₆.get? b = some ob := fun b ob hb e => S6.extBut b ob hb (S5.extBut b ob hb (S4.extBut b ob hb (S3.extBut b ob hb e)))
  refine wpAny_bind (wpAny_letGo (wpAny_pure (wpAny_pure ⟨_, rfl, wpAny_pure (hQ h₆ ?_ ?_ ?_)⟩)))
  · exact e6
  · exact kk _ _ (Nat.ne_of_gt hil) t2
  · exact fun b ob hb e => kk b ob hb (k2 b ob hb e)

theorem items_end {i ep : Nat} {o : Obj} {es : Array DictEntry} {f1 f2 : Value} {Q : Option Value → Shared → Prop} (hh : A.handled = none) (hit : s.heap.get? it = some (itemIter d i es.size ep f1 f2 .none)) (ho : s.heap.get? d = some o) (hd : o.data = .dict es ep) (hge : es.size ≤ i)
    (hQ : ∀ h', Heap.ExtBut it s.heap h' → Q none { s with heap := h' }) : wpAny (model prog w) A (pyNext (.ref it)) Q E s := by
  have hT : s.TypeIs (.ref it) "dict_itemiterator" := ⟨_, hit, rfl⟩
  unfold pyNext
  refine wpAny_bind (wpAny_attempt (wpAny_callSpecial?_slot (name := Str.ofString "__next__") hT F.slot_dict_itemiterator_next
    (wpAny_call_entry F.slot_dict_itemiterator_next hT F.entry_dict_itemiterator_next ?_ (F.args_dict_itemiterator_next_1 _))))
  refine wpAny_bind (wpAny_pure (wpAny_bind (wpAny_bind ?_)))
  first | refine wpAny_bind (wpAny_typeNameOfWhole_itemiter hT (wpAny_pure ?_)) | refine wpAny_bind (wpAny_typeNameOf_itemiter hT (wpAny_pure ?_))
  refine wpAny_bind (wpAny_fieldsOf hit rfl ?_)
  simp only [show Builtin.Dict_items.ownsTuple "dict_itemiterator" = true by decide, if_true]
  show wpAny _ _ (if (Value.ref d == Value.none) = true then _ else _) _ _ _
  rw [if_neg (show ¬ ((Value.ref d == Value.none) = true) from Bool.false_ne_true)]
  refine wpAny_bind (wpAny_pure (wpAny_bind (wpAny_dictEntries ho hd ?_)))
  rw [if_neg (by simp)]
  refine wpAny_bind (wpAny_pure (wpAny_bind (wpAny_dictEpoch ho hd ?_)))
  rw [if_neg (by simp)]
  refine wpAny_pure ?_
  simp only [show ¬ ((i : Int) < 0) from by lia, if_false, Int.toNat_natCast, Array.getElem?_eq_none hge]
  refine wpAny_bind ?_
  first | refine wpAny_bind (wpAny_typeNameOfWhole_itemiter hT (wpAny_pure ?_)) | refine wpAny_bind (wpAny_typeNameOf_itemiter hT (wpAny_pure ?_))
  show wpAny _ _ (setField (.ref it) 2 .none >>= _) _ _ s
  refine wpAny_bind (wpAny_setField hit rfl (by simp) ?_)
  show wpAny _ _ (newExc (.type "StopIteration") [] >>= _) _ _ _
  refine wpAny_bind ?_
  unfold newExc newTuple
  refine wpAny_bind (wpAny_newObj_type ?_ (by size_fits))
  refine wpAny_bind (m := firstArgMember _ _) (wpAny_of_eq (a := Value.none) rfl (wpAny_newObj_type ?_ (by size_fits)))
  unfold raiseNew
  refine wpAny_bind (wpAny_handled ?_)
  rw [show A.in1.handled = Option.none from hh]
  refine wpAny_bind (wpAny_pure (wpAny_throw ?_))
  have stop : isSubtype (.type "StopIteration") (.type "StopIteration") = pure true := isSubtype_stop
  exact wpAny_bind (wpAny_isInstance (T := "StopIteration") (b := true) ⟨_, Heap.get?_push_size _ rfl, rfl⟩ stop (wpAny_pure (hQ _ (((Heap.SameBut.update ..).extBut.push _).push _))))
end
end Mine

end -- FZi
section -- FZj
open PySem PySem.W PyProof.Rows PySem.Calls
open PySem.SeqAt
set_option maxRecDepth 100000
set_option linter.unusedVariables false
set_option linter.unusedSectionVars false
namespace Mine

section
variable {G : GC} {n : Nat} {sc : Scope} {ρ ρ₁ ρ₂ ρ₃ : St}

noncomputable def DiOk (h : Heap) (M : AS) (e d : Addr) (kvs : List (D × D)) : Prop :=
  e ≠ d ∧ ∃ (i : Nat) (o : Obj) (es : Array DictEntry) (ep : Nat) (f1 f2 : Value) (hf : D → Int) (xs : List (D × Addr × Value)), h.get? e = some (itemIter d i es.size ep f1 f2 .none) ∧ h.get? d = some o ∧ o.data = .dict es ep ∧
    es.toList = xs.map (fun (x : D × Addr × Value) => (⟨hf x.1, .ref x.2.1, x.2.2⟩ : DictEntry)) ∧ KV h M kvs (xs.drop i)

theorem DiOk.kp {h h' : Heap} {M M' : AS} {e d : Addr} {kvs : List (D × D)} (x : DiOk h M e d kvs) (k : ∀ b ∈ [e, d], ∀ o, h.get? b = some o → h'.get? b = some o) (q : Kp h M h' M') : DiOk h' M' e d kvs := by
  obtain ⟨ne, i, o, es, ep, f1, f2, hf, xs, e1, e2, e3, e4, e5⟩ := x
  exact ⟨ne, i, o, es, ep, f1, f2, hf, xs, k e (by simp) _ e1, k d (by simp) _ e2, e3, e4, e5.kp q⟩
theorem DiOk.go {h h' : Heap} {env : Env} {amb : AS} {e d : Addr} {kvs : List (D × D)} (x : DiOk h (mu env amb ρ) e d kvs) (g : Go h (wr env ρ) h' (wr env ρ₁)) (hf : ∀ b ∈ [e, d], b ∉ wr env ρ) :
    DiOk h' (mu env amb ρ₁) e d kvs ∧ ∀ b ∈ [e, d], b ∉ wr env ρ₁ := by
  refine ⟨x.kp (fun b hb o q => (g.keep b o q (hf b hb)).1) g.kp, fun b hb => ?_⟩
  obtain ⟨ne, i, o, es, ep, f1, f2, hf', xs, e1, e2, _⟩ := x
  simp only [List.mem_cons, List.not_mem_nil, or_false] at hb
  rcases hb with rfl | rfl
  · exact (g.keep _ _ e1 (hf _ (by simp))).2
  · exact (g.keep _ _ e2 (hf _ (by simp))).2
theorem DiOk.notSeq {h : Heap} {M : AS} {e d : Addr} {kvs : List (D × D)} (x : DiOk h M e d kvs) : ∀ b ∈ [e], ∀ T vs n, h.get? b ≠ some (seqObj T vs n) := fun b hb T vs n q => by
  rw [List.mem_singleton.mp hb] at q
  obtain ⟨_, _, _, _, _, _, _, _, _, e1, _⟩ := x
  rw [e1] at q; cases q


noncomputable def EFd (G : GC) (n : Nat) (sc : Scope) (ρ : St) (tgt : Expr) (body : List Stmt) (kvs : List (D × D)) (f : Fl) (ρ' : St) : Prop :=
  ∀ env, EnvOk sc env → ∀ A amb s R h₀ W₀ e d, Room n A → Lp G env amb h₀ W₀ ρ s.heap [e, d] [e] → DiOk s.heap (mu env amb ρ) e d kvs →
    (∀ fl h' t, Inv G env amb ρ' h' → Go h₀ W₀ h' (wr env ρ') → FlOk h' (mu env amb ρ') f fl → R (.ok fl) { s with heap := h', toks := t }) →
    codeAny (model G.prog G.w) A (.forLoop tgt (.ref e) body [] env) R s

theorem EFd.nil {tgt : Expr} {body : List Stmt} : EFd G n sc ρ tgt body [] .next ρ :=
  fun env he A amb s R h₀ W₀ e d hA L x hQ => forTurn_unroll (by
    have x' := x
    obtain ⟨ne, i, o, es, ep, f1, f2, hf, xs, e1, e2, e3, e4, e5⟩ := x'
    have hz : xs.drop i = [] := e5
    have hge : es.size ≤ i := by
      have h1 : es.size = xs.length := by rw [← Array.length_toList, e4, List.length_map]
      rw [h1]; simpa using hz
    refine items_end hA.handled e1 e2 e3 hge fun h' eb => ?_
    have L' := L.stp (h' := h') (by simp) x.notSeq fun b o hb q => eb b o (fun t => hb (by simp [t])) q
    exact hQ .next h' s.toks L'.inv L'.go rfl)

theorem EFd.cons {y z : Str} {k1 k2 : NameKind} {p1 p2 p3 : Pos} {kk : Nat} {body : List Stmt} {k v : D} {kvs : List (D × D)} {f : Fl} (i1 i2 : Nat) (h1 : sc.names[i1]? = some (y, k1)) (c1 : k1 = .local ∨ k1 = .cell) (h2 : sc.names[i2]? = some (z, k2)) (c2 : k2 = .local ∨ k2 = .cell)
    (b : ES G n sc ((ρ.set i1 (.val k)).set i2 (.val v)) body .next ρ₁) (r : EFd G n sc ρ₁ (.Tuple [.Name y p1, .Name z p2] kk p3) body kvs f ρ₂) :
    EFd G n sc ρ (.Tuple [.Name y p1, .Name z p2] kk p3) body ((k, v) :: kvs) f ρ₂ :=
  fun env he A amb s R h₀ W₀ e d hA L x hQ => forTurn_unroll (by
    have x' := x
    obtain ⟨ne, i, o, es, ep, f1, f2, hf, xs, e1, e2, e3, e4, e5⟩ := x'
    obtain ⟨ka, u, xs', hx, rk, rv, rest⟩ := e5
    have hxi : xs[i]? = some (k, ka, u) := by
      have : (xs.drop i)[0]? = some (k, ka, u) := by rw [hx]; rfl
      simpa using this
    have hd : xs.drop (i + 1) = xs' := by rw [← List.drop_drop, hx]; rfl
    have hei : es[i]? = some ⟨hf k, .ref ka, u⟩ := by rw [← Array.getElem?_toList, e4, List.getElem?_map, hxi]; rfl
    have e0 : s.heap.get? s.heap.objs.size = Option.none := get_none_of_ge (Nat.le_refl _)
    refine items_next e1 e2 e3 hei fun h1' it1 tup1 kp1 => ?_
    have kk1 : ∀ b o, b ∉ [e] → s.heap.get? b = some o → h1'.get? b = some o := fun b o hb q => kp1 b o (fun t => hb (by simp [t])) q
    have L1 := L.stp (h' := h1') (by simp) x.notSeq kk1
    have kq1 : Kp s.heap (mu env amb ρ) h1' (mu env amb ρ) := fun a T us n q mm => ⟨kk1 a _ (fun t => x.notSeq a t T us n q) q, mm⟩
    refine wpAny_letOwnedTupleGo_items it1 fun h2' it2 sb2 => ?_
    have kk2 : ∀ b o, b ∉ [e] → h1'.get? b = some o → h2'.get? b = some o := fun b o hb q => sb2.extBut b o (fun t => hb (by simp [t])) q
    have ns1 : ∀ b ∈ [e], ∀ T us n, h1'.get? b ≠ some (seqObj T us n) := fun b hb T us n q => by
      rw [List.mem_singleton.mp hb, it1] at q; cases q
    have L2 := L1.stp (h' := h2') (by simp) ns1 kk2
    have kq2 : Kp h1' (mu env amb ρ) h2' (mu env amb ρ) := fun a T us n q mm => ⟨kk2 a _ (fun t => ns1 a t T us n q) q, mm⟩
    have ha : s.heap.objs.size ≠ e := fun q => by have := Heap.lt_size e1; rw [← q] at this; exact Nat.lt_irrefl _ this
    have tup2 : h2'.get? s.heap.objs.size = some (seqObj "tuple" [.ref ka, u] 0) := sb2.extBut _ _ ha tup1
    have ht : Heap.IsTuple h2' s.heap.objs.size #[.ref ka, u] := ⟨_, tup2, rfl, 0, rfl⟩
    refine wpAny_assign_Tuple hA.handled ht rfl rfl fun h3' eb => ?_
    have k3 : ∀ b o, h2'.get? b = some o → h3'.get? b = some o := fun b o q => eb b o (Nat.ne_of_lt (Heap.lt_size q)) q
    have L3 : Lp G env amb h₀ W₀ ρ h3' [e, d] [e] := L2.stp (by simp) (fun b hb T us n q => by
      rw [List.mem_singleton.mp hb, it2] at q; cases q) fun b o _ q => k3 b o q
    have kall : Kp s.heap (mu env amb ρ) h3' (mu env amb ρ) := fun a T us n q mm => ⟨k3 _ _ (kq2 a T us n (kq1 a T us n q mm).1 mm).1, mm⟩
    have hdd : h3'.get? d = some o := k3 _ _ (kk2 _ _ (fun t => ne (List.mem_singleton.mp t).symm) (kk1 _ _ (fun t => ne (List.mem_singleton.mp t).symm) e2))
    have x3 : DiOk h3' (mu env amb ρ) e d kvs := ⟨ne, i + 1, o, es, ep, .ref ka, u, hf, xs, k3 _ _ it2, hdd, e3, e4, by rw [hd]; exact rest.kp kall⟩
    show wpAny _ _ (assignInOrder [PySem.assign (.Name y p1) env, PySem.assign (.Name z p2) env] [.ref ka, u]) _ _ _
    refine stores_run (l := [(y, k), (z, v)]) he (.name (.name .nil)) (.cons i1 k1 h1 c1 (.cons i2 k2 h2 c2 .nil)) L3.inv ⟨_, _, rfl, Rel.kp kall _ _ rk, _, _, rfl, Rel.kp kall _ _ rv, rfl⟩ fun h4 t4 I4 g4 => ?_
    obtain ⟨x4, off4⟩ := x3.go g4 L3.off
    refine b env he A amb _ _ _ hA I4 fun fl h5 t5 I5 g5 fo => ?_
    rw [show fl = .next from fo]
    obtain ⟨x5, off5⟩ := x4.go g5 off4
    exact r env he A amb _ R h₀ W₀ e d hA ((L3.stored I4 g4 off4).stored I5 g5 off5) x5 fun fl' h6 t6 I6 g6 fo6 => hQ fl' h6 t6 I6 g6 fo6)
end
end Mine

end -- FZj
section -- FZk
open PySem PySem.W PyProof.Rows PySem.Calls
open PySem.SeqAt
set_option maxRecDepth 100000
set_option linter.unusedVariables false
set_option linter.unusedSectionVars false
namespace Mine

section
variable {G : GC} {n : Nat} {sc : Scope} {ρ ρ₁ ρ₂ ρ₃ : St}

theorem set_unset_not {a : Addr} {s : Slot} (hs : s.addr? = some a) : ∀ {ρ : St} {i : Nat}, ρ[i]? = some s → (ρ.filterMap Slot.addr?).Nodup → a ∉ (ρ.set i .unset).filterMap Slot.addr?
  | [], i, e, _ => by simp at e
  | x :: r, 0, e, nd => by
    have : x = s := by simpa using e
    subst this
    rw [List.filterMap_cons, hs] at nd
    rw [List.set_cons_zero, List.filterMap_cons]
    exact (List.nodup_cons.mp nd).1
  | x :: r, i + 1, e, nd => by
    have e' : r[i]? = some s := by simpa using e
    have hm : a ∈ r.filterMap Slot.addr? := List.mem_filterMap.mpr ⟨_, List.mem_of_getElem? e', hs⟩
    rw [List.set_cons_succ, List.filterMap_cons]
    rw [List.filterMap_cons] at nd
    cases hx : x.addr? with
    | none =>
      simp only [hx] at nd ⊢
      exact set_unset_not hs e' nd
    | some b =>
      simp only [hx, List.nodup_cons] at nd ⊢
      rw [List.mem_cons, not_or]
      exact ⟨fun q => nd.1 (q ▸ hm), set_unset_not hs e' nd.2⟩

theorem Inv.freezeDict {env : Env} (he : EnvOk sc env) {amb : AS} {h : Heap} {i : Nat} {y : Str} {k : NameKind} {hf : D → Int} {a : Addr} {kvs : List (D × D)} (I : Inv G env amb ρ h) (e1 : sc.names[i]? = some (y, k)) (e2 : ρ[i]? = some (.dict hf a kvs)) :
    Inv G env (addA amb a) (ρ.set i .unset) h ∧ Go h (wr env ρ) h (wr env (ρ.set i .unset)) ∧ a ∉ wr env (ρ.set i .unset) ∧ vget env h y (.ref a) ∧ DictAt h (mu env (addA amb a) (ρ.set i .unset)) hf a kvs := by
  have sub : (wr env (ρ.set i .unset)).Sublist (wr env ρ) := List.Sublist.cons_cons _ ((List.Sublist.refl _).append (set_sub (s := .unset) rfl ρ i))
  obtain ⟨g, na, r⟩ := I.var he e1 e2
  have ha : a ∈ wr env ρ := wr_dict e2
  have hm : a ∈ ρ.filterMap Slot.addr? := List.mem_filterMap.mpr ⟨_, List.mem_of_getElem? e2, rfl⟩
  have mus : ∀ b, mu env (addA amb a) (ρ.set i .unset) b → mu env amb ρ b := fun b q => by
    rcases q with (q | q) | q
    · exact .inl q
    · exact .inr (q ▸ ha)
    · exact .inr (sub.subset q)
  have nw : a ∉ wr env (ρ.set i .unset) := fun q => by
    obtain ⟨p1, p2, p3, p4⟩ := wr_apart I.nd
    unfold wr at q
    simp only [List.mem_cons, List.mem_append] at q
    rcases q with q | q | q
    · exact (p4 a hm).1 q
    · exact (p4 a hm).2 q
    · exact set_unset_not rfl e2 p3 q
  have kw : Kp h (mu env amb ρ) h (mu env (addA amb a) (ρ.set i .unset)) := fun _ _ _ _ e m => ⟨e, fun x => m (mus _ x)⟩
  refine ⟨⟨I.gl, I.top, fun b q => q.elim (I.ambLt b) fun q => q ▸ I.fresh a ha, fun b q => I.fresh b (sub.subset q), I.nd.sublist sub, I.ns, I.cells, fun j z kz sl f1 f2 => ?_⟩, ⟨fun b o q m => ⟨q, fun w => m (sub.subset w)⟩, fun _ l => l⟩, nw, g, r.kp kw fun _ e => e⟩
  rw [he.is] at f1
  by_cases hj : j = i
  · subst hj
    have hlt : j < ρ.length := (List.getElem?_eq_some_iff.mp e2).1
    rw [List.getElem?_set_self hlt] at f2; cases f2
    trivial
  · rw [List.getElem?_set_ne (Ne.symm hj)] at f2
    have o := I.var he f1 f2
    cases sl with
    | unset => trivial
    | val d => obtain ⟨v, g', r'⟩ := o; exact ⟨v, g', Rel.kp kw _ _ r'⟩
    | own b ds' =>
      obtain ⟨g', nb, vs', m', e', rs'⟩ := o
      exact ⟨g', fun q => q.elim nb fun q => by subst q; exact hj (own_inj (wr_apart I.nd).2.2.1 e2 rfl f2 rfl).symm, vs', m', e', RelL.kp kw _ _ rs'⟩
    | dict hf' b kvs' =>
      obtain ⟨g', nb, r'⟩ := o
      exact ⟨g', fun q => q.elim nb fun q => by subst q; exact hj (own_inj (wr_apart I.nd).2.2.1 e2 rfl f2 rfl).symm, r'.kp kw fun _ e => e⟩

theorem ES1.for_items (i : Nat) {tgt : Expr} {y : Str} {kn : NameKind} {body : List Stmt} {hf : D → Int} {a : Addr} {kvs : List (D × D)} {f : Fl} {p ap cp pos : Pos} (e1 : sc.names[i]? = some (y, kn)) (e2 : ρ[i]? = some (.dict hf a kvs)) (t : EFd G n sc (ρ.set i .unset) tgt body kvs f ρ₂)
    (hbase : autoParam (∀ env, attributeBase (.Name y p) "items" env (eval (.Name y p) env) = eval (.Name y p) env) byRflA) (hline : autoParam ((ap.endLine == cp.line) = true) byRfl)
    (hs : autoParam (∀ env x, foldedSetIterable (.Call (.Attribute (.Name y p) "items" ap) [] [] cp) env x = pure x) byRflB) : ES1 G n sc ρ (.For tgt (.Call (.Attribute (.Name y p) "items" ap) [] [] cp) body [] pos) f ρ₂ :=
  fun env he A amb s Q E hA I hQ => by
    obtain ⟨I1, g1, nw, gv, sm, o, es, ep, xs, eo, xd, ed, el, kv⟩ := I.freezeDict he e1 e2
    refine wpAny_For ?_ (hs env)
    refine wpAny_Call_method0_late (hbase env) hline (vget_load he gv (he.nodebug e1) ⟨"dict", "dict.items", F.plainAttrs_dict, F.slot_dict_items, F.type_dict_items, ⟨_, eo, xd.1⟩, fun b hb => ?_, ?_⟩)
    · cases hb; exact ⟨_, eo, xd.2.1⟩
    refine items_call eo xd ed sm ?_
    have k1 : ∀ b ob, s.heap.get? b = some ob → (s.heap.push { cls := .type "dict_items", data := .fields #[.ref a] }).get? b = some ob := fun b ob q => Heap.get?_push_of_some _ q
    refine items_iter (s := { s with heap := s.heap.push { cls := .type "dict_items", data := .fields #[.ref a] } }) ⟨_, Heap.get?_push_size _ rfl, rfl, rfl⟩ (k1 _ _ eo) ed ?_
    generalize hH : s.heap.push { cls := .type "dict_items", data := .fields #[.ref a] } = H at k1 ⊢
    have k2 : ∀ b ob, H.get? b = some ob → (H.push (itemIter a 0 es.size ep .none .none .none)).get? b = some ob := fun b ob q => Heap.get?_push_of_some _ q
    have k12 : ∀ b ob, s.heap.get? b = some ob → (H.push (itemIter a 0 es.size ep .none .none .none)).get? b = some ob := fun b ob q => k2 b ob (k1 b ob q)
    have en : H.get? H.objs.size = Option.none := get_none_of_ge (Nat.le_refl _)
    have e0 : s.heap.get? H.objs.size = Option.none := by
      cases q : s.heap.get? H.objs.size with
      | none => rfl
      | some ob => rw [k1 _ ob q] at en; cases en
    have hne : H.objs.size ≠ a := fun q => by rw [q, eo] at e0; cases e0
    refine t env he A (addA amb a) _ _ s.heap (wr env ρ) H.objs.size a hA ⟨I1.grow k12, g1.trans (Go.of_keeps k12), fun b hb q => ?_, fun b hb => ?_, fun b hb => ?_, fun b ob q => I.top b ob q⟩ ⟨hne, 0, o, es, ep, .none, .none, hf, xs, Heap.get?_push_size _ rfl, k12 _ _ eo, ed, el, kv.kp (Kp.of_keeps k12)⟩ fun fl h' t' I' g' fo => ?_
    · rw [List.mem_singleton.mp hb] at q
      exact (I1.ambLt _ q).1.not_none e0
    · rw [List.mem_singleton.mp hb]; exact e0
    · simp only [List.mem_cons, List.not_mem_nil, or_false] at hb
      rcases hb with rfl | rfl
      · exact fun q => (wr_live I1 q).not_none e0
      · exact nw
    · refine hQ fl h' t' I'.dropAdd g' ?_
      cases f with
      | next => exact fo
      | ret d => obtain ⟨v, e, r⟩ := fo; exact ⟨v, e, r.weak fun b q => (mu_addA b).mpr (.inl q)⟩
end
end Mine

end -- FZk
section -- FZm
open PySem PySem.W PyProof.Rows PySem.Calls
open PySem.SeqAt
set_option maxRecDepth 100000
set_option linter.unusedVariables false
set_option linter.unusedSectionVars false
namespace Mine

section
variable {G : GC} {n : Nat} {sc scC : Scope} {ρ ρ₁ ρ₂ ρ₃ ρc ρc' ρd : St}

noncomputable def ECd (G : GC) (n : Nat) (scC : Scope) (ρc : St) (tgt iter : Expr) (ifs : List Expr) (elt : Expr) (scope : Scope) (pos : Pos) (kvs : List (D × D)) (out : List D) (ρc' : St) : Prop :=
  ∀ e d A, Room n A → ECa G scC ρc (fun s acc cenv R => codeAny (model G.prog G.w) A (.compLoop (.ListComp elt [⟨tgt, iter, ifs, 0⟩] scope pos) 0 (.ref e) (.ref acc) cenv) R s) (fun h M => DiOk h M e d kvs) [e, d] [e] kvs.length out ρc'

theorem ECd.nil {tgt iter elt : Expr} {ifs : List Expr} {scope : Scope} {pos : Pos} : ECd G n scC ρc tgt iter ifs elt scope pos [] [] ρc :=
  fun e d A hA env he amb s R h₀ W₀ acc vs m ds0 hB X hX hX2 kx L x ha nw nf d0 ea r hz hQ => comp_unroll (by
    have x' := x
    obtain ⟨ne, i, o, es, ep, f1, f2, hf, xs, e1, e2, e3, e4, e5⟩ := x'
    have hz : xs.drop i = [] := e5
    have hge : es.size ≤ i := by
      have h1 : es.size = xs.length := by rw [← Array.length_toList, e4, List.length_map]
      rw [h1]; simpa using hz
    refine items_end hA.handled e1 e2 e3 hge fun h' eb => ?_
    have k : ∀ b o, b ∉ [e] → s.heap.get? b = some o → h'.get? b = some o := fun b o hb q => eb b o (fun t => hb (by simp [t])) q
    have L' := L.stp (h' := h') (by simp) x.notSeq k
    have hacc : acc ∉ [e] := fun q => L.ambOff acc q ha
    exact hQ h' s.toks vs m (kx.stp hX k) L'.inv L'.go (k acc _ hacc ea) (by rw [List.append_nil]; exact RelL.kp (fun a T us n q mm => ⟨k a _ (fun t => x.notSeq a t T us n q) q, mm⟩) _ _ r))

theorem ECd.cons {y z : Str} {k1 k2 : NameKind} {p1 p2 p3 : Pos} {kk : Nat} {iter elt : Expr} {ifs : List Expr} {scope : Scope} {pos : Pos} {k v : D} {kvs : List (D × D)} {w : Option D} {out : List D} (i1 i2 : Nat) (h1 : scC.names[i1]? = some (y, k1)) (c1 : k1 = .local ∨ k1 = .cell) (h2 : scC.names[i2]? = some (z, k2)) (c2 : k2 = .local ∨ k2 = .cell)
    (t : ∃ c, ifs = [c] ∧ ET G n scC ((ρc.set i1 (.val k)).set i2 (.val v)) c w.isSome ρc') (b : ∀ e, w = some e → EE G n scC ρc' elt e ρd) (bn : w = none → ρd = ρc') (r : ECd G n scC ρd (.Tuple [.Name y p1, .Name z p2] kk p3) iter ifs elt scope pos kvs out ρ₃) :
    ECd G n scC ρc (.Tuple [.Name y p1, .Name z p2] kk p3) iter ifs elt scope pos ((k, v) :: kvs) (w.toList ++ out) ρ₃ :=
  fun e d A hA env he amb s R h₀ W₀ acc vs m ds0 hB X hX hX2 kx L x ha nw nf d0 ea ra hz hQ => comp_unroll (by
    have hacc : acc ∉ [e] := fun q => L.ambOff acc q ha
    have x' := x
    obtain ⟨ne, i, o, es, ep, f1, f2, hf, xs, e1, e2, e3, e4, e5⟩ := x'
    obtain ⟨ka, u, xs', hx, rk, rv, rest⟩ := e5
    have hxi : xs[i]? = some (k, ka, u) := by
      have : (xs.drop i)[0]? = some (k, ka, u) := by rw [hx]; rfl
      simpa using this
    have hd : xs.drop (i + 1) = xs' := by rw [← List.drop_drop, hx]; rfl
    have hei : es[i]? = some ⟨hf k, .ref ka, u⟩ := by rw [← Array.getElem?_toList, e4, List.getElem?_map, hxi]; rfl
    refine items_next e1 e2 e3 hei fun h1' it1 tup1 kp1 => ?_
    have kk1 : ∀ b o, b ∉ [e] → s.heap.get? b = some o → h1'.get? b = some o := fun b o hb q => kp1 b o (fun t => hb (by simp [t])) q
    have L1 := L.stp (h' := h1') (by simp) x.notSeq kk1
    have kq1 : Kp s.heap (mu env amb ρc) h1' (mu env amb ρc) := fun a T us n q mm => ⟨kk1 a _ (fun t => x.notSeq a t T us n q) q, mm⟩
    refine wpAny_letOwnedTupleGo_items it1 fun h2' it2 sb2 => ?_
    have kk2 : ∀ b o, b ∉ [e] → h1'.get? b = some o → h2'.get? b = some o := fun b o hb q => sb2.extBut b o (fun t => hb (by simp [t])) q
    have ns1 : ∀ b ∈ [e], ∀ T us n, h1'.get? b ≠ some (seqObj T us n) := fun b hb T us n q => by
      rw [List.mem_singleton.mp hb, it1] at q; cases q
    have L2 := L1.stp (h' := h2') (by simp) ns1 kk2
    have kq2 : Kp h1' (mu env amb ρc) h2' (mu env amb ρc) := fun a T us n q mm => ⟨kk2 a _ (fun t => ns1 a t T us n q) q, mm⟩
    have hne : s.heap.objs.size ≠ e := fun q => by have := Heap.lt_size e1; rw [← q] at this; exact Nat.lt_irrefl _ this
    have tup2 : h2'.get? s.heap.objs.size = some (seqObj "tuple" [.ref ka, u] 0) := sb2.extBut _ _ hne tup1
    have ht : Heap.IsTuple h2' s.heap.objs.size #[.ref ka, u] := ⟨_, tup2, rfl, 0, rfl⟩
    refine wpAny_assign_Tuple hA.handled ht rfl rfl fun h3' eb => ?_
    have k3 : ∀ b o, h2'.get? b = some o → h3'.get? b = some o := fun b o q => eb b o (Nat.ne_of_lt (Heap.lt_size q)) q
    have L3 : Lp G env amb h₀ W₀ ρc h3' [e, d] [e] := L2.stp (by simp) (fun b hb T us n q => by
      rw [List.mem_singleton.mp hb, it2] at q; cases q) fun b o _ q => k3 b o q
    have kall : Kp s.heap (mu env amb ρc) h3' (mu env amb ρc) := fun a T us n q mm => ⟨k3 _ _ (kq2 a T us n (kq1 a T us n q mm).1 mm).1, mm⟩
    have kall' : ∀ b o, b ∉ [e] → s.heap.get? b = some o → h3'.get? b = some o := fun b o hb q => k3 _ _ (kk2 _ _ hb (kk1 _ _ hb q))
    have hdd : h3'.get? d = some o := kall' _ _ (fun t => ne (List.mem_singleton.mp t).symm) e2
    have x3 : DiOk h3' (mu env amb ρc) e d kvs := ⟨ne, i + 1, o, es, ep, .ref ka, u, hf, xs, k3 _ _ it2, hdd, e3, e4, by rw [hd]; exact rest.kp kall⟩
    show wpAny _ _ (assignInOrder [PySem.assign (.Name y p1) env, PySem.assign (.Name z p2) env] [.ref ka, u]) _ _ _
    refine stores_run (l := [(y, k), (z, v)]) he (.name (.name .nil)) (.cons i1 k1 h1 c1 (.cons i2 k2 h2 c2 .nil)) L3.inv ⟨_, _, rfl, Rel.kp kall _ _ rk, _, _, rfl, Rel.kp kall _ _ rv, rfl⟩ fun h4 t4 I4 g4 => ?_
    obtain ⟨x4, off4⟩ := x3.go g4 L3.off
    have L4 := L3.stored I4 g4 off4
    obtain ⟨c, rfl, tc⟩ := t
    rw [List.forIn_cons]
    simp only [if_true]
    refine wpAny_bind (wpAny_bind (tc env he A amb _ _ _ hA I4 fun h5 t5 I5 g5 => ?_))
    refine wpAny_pure ?_
    dsimp only
    rw [List.forIn_nil]
    refine wpAny_pure ?_
    obtain ⟨x5, off5⟩ := x4.go g5 off4
    have L5 := L4.stored I5 g5 off5
    have gall : Go h3' (wr env ρc) h5 (wr env ρc') := g4.trans g5
    obtain ⟨ea5, nw5⟩ := gall.keep acc _ (kall' acc _ hacc ea) nw
    have ra5 : RelL h5 (mu env amb ρc') ds0 vs := RelL.kp (Go.kp gall) _ _ (RelL.kp kall _ _ ra)
    have kx5 := (kx.stp hX kall').go gall
    cases w with
    | none =>
      simp only [Option.isSome_none, Bool.false_eq_true, if_false]
      have := bn rfl
      subst this
      exact r e d A hA env he amb _ R h₀ W₀ acc vs m ds0 hB X hX hX2 kx5 L5 x5 ha nw5 nf d0 ea5 ra5 (by simp only [List.length_cons] at hz; lia) hQ
    | some wd =>
      simp only [Option.isSome_some, if_true]
      refine b wd rfl env he A amb _ _ _ hA I5 fun v6 h6 t6 I6 g6 r6 => ?_
      obtain ⟨x6, off6⟩ := x5.go g6 off5
      have L6 := L5.stored I6 g6 off6
      obtain ⟨ea6, nw6⟩ := g6.keep acc _ ea5 nw5
      have ra6 : RelL h6 (mu env amb ρd) ds0 vs := RelL.go ra5 g6
      refine wpAny_list_append_plain (items := vs.toArray) ⟨m, ea6⟩ (fun h7 pl7 sb7 => ?_) (by simp only [List.size_toArray]; rw [ra6.length]; exact sizeLine_ge (by lia))
      obtain ⟨m7, e7⟩ := pl7
      have e7' : h7.get? acc = some (seqObj "list" (vs ++ [v6]) m7) := by rw [e7]; simp
      have I7 := I6.updAmb ha nw6 sb7 ⟨_, e7⟩
      have kp7 : Kp h6 (mu env amb ρd) h7 (mu env amb ρd) := fun b T us n q mm => ⟨(sb7.2 b fun t => mm (.inl (t ▸ ha))).trans q, mm⟩
      refine r e d A hA env he amb _ R h₀ W₀ acc (vs ++ [v6]) m7 (ds0 ++ [wd]) hB X hX hX2 ((kx5.go g6).upd hX2 sb7) ⟨I7, L6.go.upd d0 sb7, L6.ambOff, L6.new, off6, L6.top0⟩ (x6.kp (fun b hb o q => (sb7.2 b fun t => nf (t ▸ hb)).trans q) kp7) ha nw6 nf d0 e7' ((RelL.kp kp7 _ _ ra6).append (es := [wd]) ⟨v6, [], rfl, Rel.kp kp7 _ _ r6, rfl⟩) (by simp only [List.length_append, List.length_cons, List.length_nil] at hz ⊢; lia) fun h8 t8 vs8 m8 k8 I8 g8 e8 r8 => ?_
      exact hQ h8 t8 vs8 m8 k8 I8 g8 e8 (by simpa using r8))
end
end Mine

end -- FZm
section -- FZn
open PySem PySem.W PyProof.Rows PySem.Calls
open PySem.SeqAt
set_option maxRecDepth 100000
set_option linter.unusedVariables false
set_option linter.unusedSectionVars false
namespace Mine

section
variable {G : GC} {n : Nat} {sc : Scope} {ρ ρ₁ ρ₂ ρ₃ ρc ρc' : St}

theorem ES1.assign_comp_items (i i0 : Nat) {x0 y : Str} {k kn : NameKind} {py p ap cp spos : Pos} {scope : Scope} {elt tgt : Expr} {ifs : List Expr} {pos : Pos} {hf : D → Int} {a : Addr} {kvs : List (D × D)} {out : List D} (f1 : sc.names[i0]? = some (y, kn)) (f2 : ρ[i0]? = some (.dict hf a kvs)) (cap : CapF sc (relS sc scope) (ρ.set i0 .unset) 0 ρc ρc')
    (t : ECd G n (relS sc scope) ρc tgt (.Call (.Attribute (.Name y p) "items" ap) [] [] cp) ifs elt scope pos kvs out ρc') (hz : kvs.length ≤ 1000000) (c : CompOk sc scope) (hi : autoParam (sc.names[i]? = some (x0, k)) byRfl) (hk : autoParam (k = .local ∨ k = .cell) byDec)
    (hbase : autoParam (∀ env, attributeBase (.Name y p) "items" env (eval (.Name y p) env) = eval (.Name y p) env) byRflA) (hline : autoParam ((ap.endLine == cp.line) = true) byRfl)
    (hs : autoParam (∀ env x, foldedSetIterable (.Call (.Attribute (.Name y p) "items" ap) [] [] cp) env x = pure x) byRflB)
    (hsw : autoParam (∀ env, env.scope = sc → swapsWith (.ListComp elt [⟨tgt, (.Call (.Attribute (.Name y p) "items" ap) [] [] cp), ifs, 0⟩] scope pos) (some (.Name x0 py)) spos.line env = pure true) byEnv) :
    ES1 G n sc ρ (.Assign [.Name x0 py] (.ListComp elt [⟨tgt, (.Call (.Attribute (.Name y p) "items" ap) [] [] cp), ifs, 0⟩] scope pos) spos) .next ((ρ.set i0 .unset).set i (.val (.lst out))) :=
  fun env he A amb s Q E hA I hQ => by
    obtain ⟨I1, g1, nw1, gv, sm, o, es, ep, xs, eo, xd, ed, el, kv⟩ := I.freezeDict he f1 f2
    rw [exec_Assign_Name_used _ _ _ _ (hsw env he.is)]
    refine wpAny_bind (wpAny_standAt (wpAny_bind ?_))
    show wpAny _ A (do let _ ← comprehension (.ListComp elt [⟨tgt, (.Call (.Attribute (.Name y p) "items" ap) [] [] cp), ifs, 0⟩] scope pos) scope env _ (newList []) false (eval (.Call (.Attribute (.Name y p) "items" ap) [] [] cp) env) (some (PySem.assign (.Name x0 py) env))) _ _ s
    refine wpAny_bind (wpAny_mono (wpAny_comprehension_free (use := some (PySem.assign (.Name x0 py) env)) (Q := fun _ s' => Q .next s') rfl (hs env) (c.clos he) c.fnS (find_of_nd c.nameS) ?_) (fun _ s' hq => wpAny_pure (wpAny_pure hq)) fun _ _ e => e)
    refine wpAny_Call_method0_late (hbase env) hline (vget_load he gv (he.nodebug f1) ⟨"dict", "dict.items", F.plainAttrs_dict, F.slot_dict_items, F.type_dict_items, ⟨_, eo, xd.1⟩, fun b hb => ?_, ?_⟩)
    · cases hb; exact ⟨_, eo, xd.2.1⟩
    refine items_call eo xd ed sm ?_
    have k1 : ∀ b ob, s.heap.get? b = some ob → (s.heap.push { cls := .type "dict_items", data := .fields #[.ref a] }).get? b = some ob := fun b ob q => Heap.get?_push_of_some _ q
    refine items_iter (s := { s with heap := s.heap.push { cls := .type "dict_items", data := .fields #[.ref a] } }) ⟨_, Heap.get?_push_size _ rfl, rfl, rfl⟩ (k1 _ _ eo) ed ?_
    generalize hH : s.heap.push { cls := .type "dict_items", data := .fields #[.ref a] } = H at k1 ⊢
    have k2 : ∀ b ob, H.get? b = some ob → (H.push (itemIter a 0 es.size ep .none .none .none)).get? b = some ob := fun b ob q => Heap.get?_push_of_some _ q
    have k12 : ∀ b ob, s.heap.get? b = some ob → (H.push (itemIter a 0 es.size ep .none .none .none)).get? b = some ob := fun b ob q => k2 b ob (k1 b ob q)
    have en : H.get? H.objs.size = Option.none := get_none_of_ge (Nat.le_refl _)
    have e0 : s.heap.get? H.objs.size = Option.none := by
      cases q : s.heap.get? H.objs.size with
      | none => rfl
      | some ob => rw [k1 _ ob q] at en; cases en
    have hne : H.objs.size ≠ a := fun q => by rw [q, eo] at e0; cases e0
    have eit : (H.push (itemIter a 0 es.size ep .none .none .none)).get? H.objs.size = some (itemIter a 0 es.size ep .none .none .none) := Heap.get?_push_size _ rfl
    refine comp_coreA (s0 := s) (t1 := s.toks) (amb := addA amb a) (fp := [H.objs.size, a]) (wI := [H.objs.size]) (ds := kvs.map Prod.fst) he c.okC c.nameS c.fnS c.hcell c.hfree (RR := fun acc C => compPost (model G.prog G.w) A E (some (PySem.assign (.Name x0 py) env)) (fun _ s' => Q .next s') acc C)
      (L := ⟨I1.grow k12, g1.trans (Go.of_keeps k12), fun b hb q => ?_, fun b hb => ?_, fun b hb => ?_, fun b ob q => I.top b ob q⟩) (Φ := fun h M => DiOk h M H.objs.size a kvs) ⟨hne, 0, o, es, ep, .none, .none, hf, xs, eit, k12 _ _ eo, ed, el, kv.kp (Kp.of_keeps k12)⟩
      (fun b hb => ?_) (fun b hb => by simp at hb; simp [hb]) (fun b hb T vs n q => ?_) (fun h' M' kg kq => ?_) (fun s' Q' E' kg q => ?_) cap.cap (fun k y e => by simpa using cap.full k y (Nat.zero_le _) e) (by rw [List.length_map]; exact t H.objs.size a A hA) (by rw [List.length_map]; exact hz) ?_
    · rw [List.mem_singleton.mp hb] at q
      exact (I1.ambLt _ q).1.not_none e0
    · rw [List.mem_singleton.mp hb]; exact e0
    · simp only [List.mem_cons, List.not_mem_nil, or_false] at hb
      rcases hb with rfl | rfl
      · exact fun q => (wr_live I1 q).not_none e0
      · exact nw1
    · simp only [List.mem_cons, List.not_mem_nil, or_false] at hb
      rcases hb with rfl | rfl
      · exact ⟨_, eit⟩
      · exact ⟨_, k12 _ _ eo⟩
    · rw [List.mem_singleton.mp hb, eit] at q; cases q
    · exact DiOk.kp (M := mu env (addA amb a) (ρ.set i0 .unset)) ⟨hne, 0, o, es, ep, .none, .none, hf, xs, eit, k12 _ _ eo, ed, el, kv.kp (Kp.of_keeps k12)⟩ (fun b _ ob q => kg b ob q) kq
    · exact kcp_self (hit := kg _ _ eit) q
    intro acc C vs m h' t' I2 g e0' na nw e r ns wC aC gC e0C
    obtain ⟨mC, hC⟩ := ns
    show wpAny _ A (PySem.assign (.Name x0 py) env (.ref acc)) _ _ _
    have rv : Rel h' (mu env (addA amb a) (ρ.set i0 .unset)) (.lst out) (.ref acc) := ⟨acc, vs, m, rfl, e, fun q => q.elim na nw, r.weak fun b q => (mu_addA b).mpr (.inl q)⟩
    refine wpAny_assign_Name (store_val he I2.dropAdd hi hk rv fun h2 t2 I3 g3 => ?_)
    have hC2 : h2.Ns C mC := hC.at' fun o eo => (g3.keep C o eo wC).1
    have wC2 : C ∉ wr env ((ρ.set i0 .unset).set i (.val (.lst out))) := fun q => by
      obtain ⟨o, _, _, eo, _⟩ := hC
      exact (g3.keep C o eo wC).2 q
    refine ⟨mC, hC2, fun h'' sb => ?_⟩
    obtain ⟨I4, k4⟩ := I3.aside sb wC2 (fun q => aC (.inl q)) gC ⟨mC, hC2⟩
    exact hQ .next h'' t2 I4.dropAdd ((g.trans g3).aside e0C sb) rfl
end
end Mine

end -- FZn
section -- GA
open PySem PySem.W PyProof.Rows PySem.Calls
set_option maxRecDepth 100000
set_option linter.unusedVariables false
set_option linter.unusedSectionVars false
namespace Mine

noncomputable def FnSpecB (G : GC) (m : Nat) (name : Str) (b0 ds b1 : List D) (d : D) : Prop :=
  Gl G → ∃ f o fd, G.mg name = some (.ref f) ∧ G.h.get? f = some o ∧ o.data = .func fd ∧
    ∀ A (M : AS) s a us k vs Q E, Room (m + 1) A → (∀ b o, G.h.get? b = some o → s.heap.get? b = some o) → (∀ b, M b → Live s.heap b ∧ G.h.get? b = Option.none) → G.h.get? a = Option.none → ¬ M a →
      s.heap.get? a = some (seqObj "list" us k) → RelL s.heap (addA M a) b0 us → RelL s.heap (addA M a) ds vs →
      (∀ v h' t us' k', (∀ b o, b ≠ a → s.heap.get? b = some o → h'.get? b = some o) → h'.get? a = some (seqObj "list" us' k') → RelL h' (addA M a) b1 us' → Rel h' (addA M a) d v → Q v { s with heap := h', toks := t }) →
      wpAny (model G.prog G.w) A (call (.ref f) (.ref a :: vs)) Q E s

theorem FnSpecB.intro {G : GC} {m : Nat} {name : Str} {params : Arguments} {body : List Stmt} {sc : Scope} {b0 ds b1 : List D} {d : D} (hd : Gl G → DefIs G name params body sc) (ok : ScOk sc) (po : ParamsOk params sc)
    (hb : ∀ pm cd doc vs, vs.length = ds.length + 1 → bindArgs (docDef name params body sc pm cd doc) ⟨vs, []⟩ = pure ((params.args.map (·.arg)).zip vs))
    (hl : params.args.length = ds.length + 1) (pad : Nat) (x : ∀ a, ∃ ρ', ES G m sc (.own a b0 :: ini ds pad) body (.ret d) (.own a b1 :: ρ')) : FnSpecB G m name b0 ds b1 d := fun gl => by
  obtain ⟨af, o, pm, code, doc, h1, h2, h3, h4⟩ := hd gl
  refine ⟨af, o, _, h1, h2, h3, fun A M s a us kk vs Q E hA top hM ga na ea ra hr hQ => ?_⟩
  obtain ⟨ρ', x⟩ := x a
  have lift : ∀ b, M b ∨ b ∈ [a] → addA M a b := fun b q => q.imp id fun q => List.mem_singleton.mp q
  have hlv : (Value.ref a :: vs).length = ds.length + 1 := by rw [List.length_cons, hr.length]
  refine callCore (aos := [a]) gl h2 h3 h4 ok po (hb pm code doc _ hlv) (hl.trans hlv.symm) x hA.handled (by have := hA.depth; lia) (let ⟨fe, fl, hf, _⟩ := hA.frames; ⟨_, hf⟩) (by have := hA.units; lia) top hM (by rw [List.filterMap_cons]; show a :: (ini ds pad).filterMap Slot.addr? = _; rw [ini_addr]) (by simp) (fun b hb => ?_) (fun i slot e => ?_) fun v h' t env he k I' rv => ?_
  · rw [List.mem_singleton.mp hb]; exact ⟨⟨_, ea⟩, ga⟩
  · cases i with
    | zero => cases e; exact .inr ⟨_, rfl, .inr ⟨a, b0, us, kk, rfl, rfl, na, ea, ra.weak lift⟩⟩
    | succ i => exact (ini_get e).imp id fun ⟨d, e3, e4⟩ => let ⟨v, hv, rv⟩ := hr.get e3; ⟨v, hv, .inl ⟨d, e4, rv.weak lift⟩⟩
  · obtain ⟨k', hk', _⟩ := po 0 _ (List.getElem?_eq_getElem (by rw [List.length_map, hl]; exact Nat.succ_pos _))
    obtain ⟨_, _, us', k', ea', ra'⟩ := I'.vars 0 _ _ _ (by rw [he.is]; exact hk') rfl
    have wk : ∀ b, addA M a b → mu env M (.own a b1 :: ρ') b := fun b q => q.elim .inl fun q => by subst q; exact .inr (wr_slot (i := 0) rfl)
    exact hQ v h' t us' k' (fun b o nb e => k b o (fun q => nb (List.mem_singleton.mp q)) e) ea' (ra'.weak wk) (rv.weak wk)

section
variable {G : GC} {n : Nat} {sc : Scope} {ρ ρ₁ ρ₂ ρ₃ : St}

theorem Inv.extOwn {env : Env} (he : EnvOk sc env) {amb : AS} {h h' : Heap} {i : Nat} {y : Str} {k : NameKind} {a : Addr} {ds ds' : List D} {vs' : List Value} {m' : Nat} (I : Inv G env amb ρ h) (e1 : sc.names[i]? = some (y, k)) (e2 : ρ[i]? = some (.own a ds))
    (sb : ∀ b o, b ≠ a → h.get? b = some o → h'.get? b = some o) (e' : h'.get? a = some (seqObj "list" vs' m')) (r : RelL h' (mu env amb ρ) ds' vs') :
    Inv G env amb (ρ.set i (.own a ds')) h' ∧ Go h (wr env ρ) h' (wr env (ρ.set i (.own a ds'))) ∧ mu env amb (ρ.set i (.own a ds')) = mu env amb ρ := by
  obtain ⟨gv, na, vs, m, e, rs⟩ := I.var he e1 e2
  have ha : a ∈ wr env ρ := wr_slot e2
  have fmE : (ρ.set i (.own a ds')).filterMap Slot.addr? = ρ.filterMap Slot.addr? := own_set_addr e2
  have wE : wr env (ρ.set i (.own a ds')) = wr env ρ := by unfold wr; rw [fmE]
  have mE : mu env amb (ρ.set i (.own a ds')) = mu env amb ρ := by unfold mu; rw [wE]
  have kp : Kp h (mu env amb ρ) h' (mu env amb ρ) := fun b T us n q mm => ⟨sb b _ (fun t => mm (.inr (t ▸ ha))) q, mm⟩
  have hL : env.locals ≠ a := ((wr_apart I.nd).2.2.2 a (List.mem_filterMap.mpr ⟨_, List.mem_of_getElem? e2, rfl⟩)).1.symm
  have hC : ∀ x c, (x, c) ∈ env.cells → c ≠ a := fun x c hx q => ((wr_apart I.nd).2.2.2 a (List.mem_filterMap.mpr ⟨_, List.mem_of_getElem? e2, rfl⟩)).2 (List.mem_map.mpr ⟨(x, c), hx, q⟩)
  have vg : ∀ z u, vget env h z u → vget env h' z u := fun z u g => by
    rcases g with ⟨q, m, hn, hm⟩ | ⟨q, c, hc, o, ho, hd⟩
    · exact .inl ⟨q, m, hn.at' fun o e => sb _ o hL e, hm⟩
    · exact .inr ⟨q, c, hc, o, sb _ _ (hC z c (PySem.mem_of_lookup hc)) ho, hd⟩
  have lv : ∀ b, Live h b → Live h' b := fun b ⟨o, ho⟩ => by
    by_cases q : b = a
    · subst q; exact ⟨_, e'⟩
    · exact ⟨o, sb b o q ho⟩
  refine ⟨⟨I.gl, fun b o q => sb b o (fun t => ?_) (I.top b o q), fun b q => ⟨lv b (I.ambLt b q).1, (I.ambLt b q).2⟩, fun b q => ?_, by rw [wE]; exact I.nd, ?_, fun x c hx => ?_, fun j z kz sl f1 f2 => ?_⟩, ⟨fun b o q m => ?_, lv⟩, mE⟩
  · subst t; have := (I.fresh b ha).2; rw [q] at this; cases this
  · rw [wE] at q; exact ⟨lv b (I.fresh b q).1, (I.fresh b q).2⟩
  · obtain ⟨m, hn⟩ := I.ns; exact ⟨m, hn.at' fun o e => sb _ o hL e⟩
  · obtain ⟨v, o, ho, hd⟩ := I.cells x c hx; exact ⟨v, o, sb _ _ (hC x c hx) ho, hd⟩
  · rw [he.is] at f1
    rw [mE]
    by_cases hj : j = i
    · subst hj
      rw [e1] at f1; cases f1
      have hlt : j < ρ.length := (List.getElem?_eq_some_iff.mp e2).1
      rw [List.getElem?_set_self hlt] at f2; cases f2
      exact ⟨vg _ _ gv, na, vs', m', e', r⟩
    · rw [List.getElem?_set_ne (Ne.symm hj)] at f2
      have o := I.var he f1 f2
      cases sl with
      | unset => trivial
      | val d => obtain ⟨v, g', r'⟩ := o; exact ⟨v, vg _ _ g', Rel.kp kp _ _ r'⟩
      | own b ds2 =>
        obtain ⟨g', nb, us, m2, eb, rb⟩ := o
        have hba : b ≠ a := fun q => by
          subst q
          have : i = j := own_inj (wr_apart I.nd).2.2.1 e2 rfl f2 rfl
          exact hj this.symm
        exact ⟨vg _ _ g', nb, us, m2, sb b _ hba eb, RelL.kp kp _ _ rb⟩
      | dict hf b kvs =>
        obtain ⟨g', nb, rb⟩ := o
        have hba : b ≠ a := fun q => by
          subst q
          exact hj (own_inj (wr_apart I.nd).2.2.1 e2 rfl f2 rfl).symm
        exact ⟨vg _ _ g', nb, rb.kp kp fun o e => sb b o hba e⟩
  · rw [wE]
    exact ⟨sb b o (fun t => m (t ▸ ha)) q, m⟩

theorem EE.callB {m : Nat} (i j : Nat) {f y : Str} {kn : NameKind} {es : List Expr} {b00 b0 b1 ds : List D} {d : D} {a : Addr} {p p2 pos : Pos} (sp : FnSpecB G m f b0 ds b1 d) (hm : m < n) (hi : sc.names[i]? = some (f, .globalImplicit)) (e1 : sc.names[j]? = some (y, kn)) (e2 : ρ[j]? = some (.own a b00))
    (x : EEs G n sc ρ es ds ρ₁) (e3 : ρ₁[j]? = some (.own a b0))
    (hs : autoParam (∀ env, starEach (.Name y p2 :: es) env = (false, eval (.Name y p2) env) :: starEach es env) byRflA) : EE G n sc ρ (.Call (.Name f p) (.Name y p2 :: es) [] pos) d (ρ₁.set j (.own a b1)) :=
  fun env he A amb s Q E hA I hQ => by
    obtain ⟨fa, o, fd, h1, h2, h3, h4⟩ := sp I.gl
    refine wpAny_Call_Name_kw (Name_function_global he.fn (he.kind hi) (loadGlobal_global (he.gl ▸ I.gl.g.keeps I.top) h1 ?_) (he.nodebug hi))
    show wpAny _ _ (callWith pos (.ref fa) [] (backTo pos (starEach (.Name y p2 :: es) env)) []) _ _ _
    refine callWith_function (o := o) (fd := fd) ?_
    have hst : backTo pos (starEach (.Name y p2 :: es) env) = (false, eval (.Name y p2) env) :: backTo pos (starEach es env) := by rw [hs env]; rfl
    rw [hst]
    refine evalArgs_plain ?_
    obtain ⟨g0, _, _⟩ := I.var he e1 e2
    refine spliced_cons (vget_load he g0 (he.nodebug e1) ?_)
    refine x env he pos A amb s _ E hA I fun vs h t I1 g r _ => ?_
    refine ⟨⟨I1.top _ _ h2, h3⟩, ?_⟩
    show wpAny _ _ (PySem.call (.ref fa) ([] ++ (.ref a :: vs)) []) _ _ _
    rw [List.nil_append]
    obtain ⟨gv, na, us, k, ea, ra⟩ := I1.var he e1 e3
    have ain : a ∈ wr env ρ₁ := wr_slot e3
    let M : AS := fun b => mu env amb ρ₁ b ∧ b ≠ a
    have up : ∀ b, addA M a b ↔ mu env amb ρ₁ b := fun b => by
      constructor
      · rintro (q | q)
        · exact q.1
        · exact q ▸ .inr ain
      · intro q
        by_cases w : b = a
        · exact .inr w
        · exact .inl ⟨q, w⟩
    refine h4 A M _ a us k vs _ E (hA.mono hm) I1.top (fun b q => mu_ok I1 b q.1) (I1.fresh a ain).2 (fun q => q.2 rfl) ea (ra.weak fun b q => (up b).mp q) (r.weak fun b q => (up b).mp q) fun v h' t' us' k' kp ea' ra' rv => ?_
    obtain ⟨I2, g2, mE⟩ := I1.extOwn he e1 e3 kp ea' (ra'.weak fun b q => (up b).mpr q)
    exact hQ v h' t' I2 (g.trans g2) (by rw [mE]; exact rv.weak fun b q => (up b).mpr q)

end
end Mine

end -- GA
section -- GB
open PySem PySem.W PyProof.Rows PySem.Calls
set_option maxRecDepth 100000
namespace Mine

section
variable {G : GC} {n : Nat} {sc : Scope} {ρ ρ₁ ρ₂ ρ₃ ρc ρc' : St}

theorem comp_coreO {i0 j0 : Nat} {y0 : Str} {a0 : Addr} {os os' : List D} {env : Env} (he : EnvOk sc env) {scope : Scope} {iter elt tgt : Expr} {ifs : List Expr} {pos : Pos} {ds out : List D} (okC : ScOk (relS sc scope)) (nameS : (scope.names.map (·.1)).Nodup) (fnS : scope.kind = .function) (hcell : ∀ z ∈ scope.names, z.2 ≠ .cell) (hfree : ∀ z ∈ scope.names, z.2 = .free → sc.names.lookup z.1 = some .cell)
    {A : Around} {amb : AS} {s0 : Shared} {h1 : Heap} {t1 : Nat} {it : Value} {fp wI : List Addr} {E : Value → Shared → Prop} {RR : Value → Addr → Result → Shared → Prop} (hA : Room n A) (L : Lp G env amb s0.heap (wr env ρ) ρ₁ h1 fp wI) (x : ItOk G A h1 (mu env amb ρ₁) it fp wI ds)
    (b1 : sc.names[i0]? = some (y0, .cell)) (b2 : ρ₁[i0]? = some (.own a0 os)) (b3 : (relS sc scope).names[j0]? = some (y0, .cell)) (b4 : ρc[j0]? = some (.own a0 os)) (b5 : ρc'[j0]? = some (.own a0 os')) (b6 : ρc.filterMap Slot.addr? = [a0]) (b7 : ∀ (k : Nat) sl, ρc[k]? = some sl → k ≠ j0 → sl = .unset) (b8 : ∀ (k : Nat) y, (relS sc scope).names[k]? = some (y, NameKind.cell) → k = j0)
    (t : ECo G n (relS sc scope) ρc tgt iter ifs elt scope pos ds out ρc') (hz : ds.length ≤ 1000000)
    (hQ : ∀ acc C vs m h' t, Inv G env (addA amb acc) (ρ₁.set i0 (.own a0 os')) h' → Go s0.heap (wr env ρ) h' (wr env (ρ₁.set i0 (.own a0 os'))) → s0.heap.get? acc = none → ¬ amb acc → acc ∉ wr env (ρ₁.set i0 (.own a0 os')) → h'.get? acc = some (seqObj "list" vs m) → RelL h' (mu env (addA amb acc) (ρ₁.set i0 (.own a0 os'))) out vs →
      (∃ m, h'.Ns C m) → C ∉ wr env (ρ₁.set i0 (.own a0 os')) → ¬ addA amb acc C → G.h.get? C = none → s0.heap.get? C = none → RR (.ref acc) C (.ok .next) { s0 with heap := h', toks := t }) :
    wpAny (model G.prog G.w) A (newList []) (fun acc s₃ => wpAny (model G.prog G.w) A (newFunctionEnv scope env.globals (capt env scope.names []) [] env.qual none .none (some env)) (fun cenv s₄ =>
      codeAny (model G.prog G.w) A (.compStart (.ListComp elt [⟨tgt, iter, ifs, 0⟩] scope pos) 0 it acc { cenv with scope := relabel scope env }) (RR acc cenv.locals) s₄) E s₃) E { s0 with heap := h1, toks := t1 } := by
  refine comp_coreU he okC nameS fnS hcell hfree L x x.glue.1 x.glue.2.1 x.glue.2.2.1 x.glue.2.2.2.1 x.glue.2.2.2.2 (aos := [a0]) (ρ' := ρ₁.set i0 (.own a0 os')) (fun j sl e => ?_) b6 (fun a h => ?_) (by simp) (own_set_addr b2) (fun a h => ?_) (fun i z k sl f1 f2 => ?_) (fun env h amb s R h₀ W₀ acc vs m ds0 hB X => t env h A amb s R it h₀ W₀ fp wI acc vs m ds0 hB X hA) hz hQ
  · by_cases hj : j = j0
    · subst hj
      rw [b4] at e; cases e
      exact .inr ⟨y0, i0, b3, b1, b2, fun _ _ _ q => (nomatch q)⟩
    · exact .inl (b7 j sl e hj)
  · rw [List.mem_singleton.mp h]; exact List.mem_filterMap.mpr ⟨_, List.mem_of_getElem? b2, rfl⟩
  · rw [List.mem_singleton.mp h]; exact List.mem_filterMap.mpr ⟨_, List.mem_of_getElem? b5, rfl⟩
  · by_cases hi0 : i = i0
    · subst hi0
      rw [b1] at f1; cases f1
      rw [List.getElem?_set_self (List.getElem?_eq_some_iff.mp b2).1] at f2; cases f2
      exact .inr ⟨rfl, j0, b3, b5, _, b2, fun _ _ _ q => (nomatch q), fun a ds q => by cases q; exact ⟨os, rfl⟩⟩
    · rw [List.getElem?_set_ne (Ne.symm hi0)] at f2
      refine .inl ⟨f2, fun hf => ?_, fun a e h => ?_⟩
      · obtain ⟨j, hj⟩ := mem_relS he.ok.fn (hfree _ hf rfl) hf
        have := b8 j z hj
        subst this
        rw [hj] at b3; cases b3
        exact hi0 (names_inj he.ok f1 b1)
      · rw [List.mem_singleton.mp h] at e
        exact hi0 (own_inj (wr_apart L.inv.nd).2.2.1 f2 e b2 rfl)

theorem ES1.assign_compO (i i0 j0 : Nat) {y y0 : Str} {k : NameKind} {a0 : Addr} {os os' : List D} {py spos : Pos} {scope : Scope} {iter elt tgt : Expr} {ifs : List Expr} {pos : Pos} {ds out : List D} (x : EI G n sc ρ iter ds ρ₁)
    (b1 : sc.names[i0]? = some (y0, .cell)) (b2 : ρ₁[i0]? = some (.own a0 os)) (b3 : (relS sc scope).names[j0]? = some (y0, .cell)) (b4 : ρc[j0]? = some (.own a0 os)) (b5 : ρc'[j0]? = some (.own a0 os')) (b6 : ρc.filterMap Slot.addr? = [a0]) (b7 : ∀ (k : Nat) sl, ρc[k]? = some sl → k ≠ j0 → sl = .unset) (b8 : ∀ (k : Nat) y, (relS sc scope).names[k]? = some (y, NameKind.cell) → k = j0)
    (t : ECo G n (relS sc scope) ρc tgt iter ifs elt scope pos ds out ρc') (hz : ds.length ≤ 1000000) (c : CompOk sc scope) (hi : autoParam (sc.names[i]? = some (y, k)) byRfl) (hk : autoParam (k = .local ∨ k = .cell) byDec)
    (hs : autoParam (∀ env x, foldedSetIterable iter env x = pure x) byRflB)
    (hsw : autoParam (∀ env, env.scope = sc → swapsWith (.ListComp elt [⟨tgt, iter, ifs, 0⟩] scope pos) (some (.Name y py)) spos.line env = pure true) byEnv) :
    ES1 G n sc ρ (.Assign [.Name y py] (.ListComp elt [⟨tgt, iter, ifs, 0⟩] scope pos) spos) .next ((ρ₁.set i0 (.own a0 os')).set i (.val (.lst out))) :=
  fun env he A amb s Q E hA I hQ => by
    rw [exec_Assign_Name_used _ _ _ _ (hsw env he.is)]
    refine wpAny_bind (wpAny_standAt (wpAny_bind ?_))
    show wpAny _ A (do let _ ← comprehension (.ListComp elt [⟨tgt, iter, ifs, 0⟩] scope pos) scope env _ (newList []) false (eval iter env) (some (PySem.assign (.Name y py) env))) _ _ s
    refine wpAny_bind (wpAny_mono (wpAny_comprehension_free (use := some (PySem.assign (.Name y py) env)) (Q := fun _ s' => Q .next s') rfl (hs env) (c.clos he) c.fnS (find_of_nd c.nameS) (x env he A amb s _ E hA I fun it h t1 fp wI L xo => ?_)) (fun _ s' hq => wpAny_pure (wpAny_pure hq)) fun _ _ e => e)
    refine comp_coreO (i0 := i0) (j0 := j0) (y0 := y0) he c.okC c.nameS c.fnS c.hcell c.hfree (RR := fun acc C => compPost (model G.prog G.w) A E (some (PySem.assign (.Name y py) env)) (fun _ s' => Q .next s') acc C) hA L xo b1 b2 b3 b4 b5 b6 b7 b8 t hz ?_
    obtain ⟨ρ₄, e4⟩ : ∃ r, r = ρ₁.set i0 (.own a0 os') := ⟨_, rfl⟩
    rw [← e4] at hQ ⊢
    intro acc C vs m h' t' I2 g e0 na nw e r ns wC aC gC e0C
    obtain ⟨mC, hC⟩ := ns
    show wpAny _ A (PySem.assign (.Name y py) env (.ref acc)) _ _ _
    have rv : Rel h' (mu env amb ρ₄) (.lst out) (.ref acc) := ⟨acc, vs, m, rfl, e, fun q => q.elim na nw, r.weak fun b q => (mu_addA b).mpr (.inl q)⟩
    refine wpAny_assign_Name (store_val he I2.dropAdd hi hk rv fun h2 t2 I3 g3 => ?_)
    have hC2 : h2.Ns C mC := hC.at' fun o eo => (g3.keep C o eo wC).1
    have wC2 : C ∉ wr env (ρ₄.set i (.val (.lst out))) := fun q => by
      obtain ⟨o, _, _, eo, _⟩ := hC
      exact (g3.keep C o eo wC).2 q
    refine ⟨mC, hC2, fun h'' sb => ?_⟩
    obtain ⟨I4, k4⟩ := I3.aside sb wC2 (fun q => aC (.inl q)) gC ⟨mC, hC2⟩
    exact hQ .next h'' t2 I4 ((g.trans g3).aside e0C sb) rfl
end
end Mine

end -- GB
section -- GC
open PySem PySem.W PyProof.Rows PySem.Calls
open PySem.Builtin.Str (occurrences partsBetween)
set_option maxRecDepth 100000
set_option linter.unusedVariables false
set_option linter.unusedSectionVars false
namespace Mine

section
variable {G : GC} {n : Nat} {sc : Scope} {ρ ρ₁ ρ₂ ρ₃ : St}

theorem EE.pow {l r : Expr} {a b : Int} {pos : Pos} (x : EE G n sc ρ l (.int a) ρ₁) (y : EE G n sc ρ₁ r (.int b) ρ₂) (h : (decide (b ≥ 0) && !(b == 0) && !(a == 0 || a == 1) && !(a == -1) && !Builtin.Int.intTooBig (((Builtin.Int.intBits a : Nat) : Int) * b)) = true) : EE G n sc ρ (.BinOp l .Pow r pos) (.int (a ^ b.toNat)) ρ₂ :=
  fun env he A amb s Q E hA I hQ => wpAny_BinOp (x env he A amb s _ E hA I fun v1 h1 t1 I1 g1 r1 => y env he A amb _ _ E hA I1 fun v2 h2 t2 I2 g2 r2 => by
    obtain ⟨t, rfl⟩ := r1; obtain ⟨u, rfl⟩ := r2
    simp only [Bool.and_eq_true, Bool.not_eq_true', decide_eq_true_eq] at h
    obtain ⟨⟨⟨⟨h0, h1'⟩, h2'⟩, h3⟩, h4⟩ := h
    exact AutoIntOps.pow_4 h0 (by rw [h1']; exact Bool.false_ne_true) (by rw [h2']; exact Bool.false_ne_true) (by rw [h3]; exact Bool.false_ne_true) (by rw [h4]; exact Bool.false_ne_true) (hQ _ _ _ I2 (g1.trans g2) ⟨_, rfl⟩))

theorem strs_rel {h : Heap} {M : AS} : ∀ l : List (Str × Tok), RelL h M ((l.map (·.1)).map D.str) (strValues l)
  | [] => rfl
  | p :: l => ⟨_, _, rfl, ⟨p.2, rfl⟩, strs_rel l⟩
theorem rel_strs {h : Heap} {M : AS} : ∀ {ts : List Str} {vs : List Value}, RelL h M (ts.map D.str) vs → ∃ l : List (Str × Tok), vs = strValues l ∧ l.map (·.1) = ts
  | [], vs, r => ⟨[], r, rfl⟩
  | a :: ts, vs, ⟨v, vs', e, ⟨t, ht⟩, r⟩ => by
    obtain ⟨l, e1, e2⟩ := rel_strs r
    exact ⟨(a, t) :: l, by rw [e, ht, e1]; rfl, by rw [List.map_cons, e2]⟩

theorem EE.join {o e : Expr} {sep : Str} {ts : List Str} {ap cp : Pos} (x : EE G n sc ρ o (.str sep) ρ₁) (y : EE G n sc ρ₁ e (.lst (ts.map D.str)) ρ₂) (hok : JoinOk sep ts = true)
    (hbase : autoParam (∀ env, attributeBase o "join" env (eval o env) = eval o env) byRflA) (hline : autoParam ((ap.endLine == cp.line) = true) byRfl) (hs : autoParam (∀ env, starEach [e] env = [(false, eval e env)]) byRflA) :
    EE G n sc ρ (.Call (.Attribute o "join" ap) [e] [] cp) (.str (Txt.join sep ts)) ρ₂ :=
  fun env he A amb s Q E hA I hQ => Call_method1 (hbase env) (hs env) hline (x env he A amb s _ E hA I fun v1 h1 t1 I1 g1 r1 => by
    obtain ⟨t, rfl⟩ := r1
    refine SB.join (y env he A amb _ _ E hA I1 fun v2 h2 t2 I2 g2 r2 => ?_)
    obtain ⟨a, vs, m, rfl, e', _, rs⟩ := r2
    obtain ⟨l, rfl, hl⟩ := rel_strs rs
    exact ⟨a, l, rfl, ⟨_, e', rfl, m, rfl⟩, ts, hl, hok, fun t' k => hQ _ h2 k I2 (g1.trans g2) ⟨_, rfl⟩⟩)

theorem EE.split {o e : Expr} {a b : Str} {ap cp : Pos} (x : EE G n sc ρ o (.str a) ρ₁) (y : EE G n sc ρ₁ e (.str b) ρ₂) (hb : (b.length == 0) = false) (hz : a.length ≤ 10000)
    (hbase : autoParam (∀ env, attributeBase o "split" env (eval o env) = eval o env) byRflA) (hline : autoParam ((ap.endLine == cp.line) = true) byRfl) (hs : autoParam (∀ env, starEach [e] env = [(false, eval e env)]) byRflA) :
    EE G n sc ρ (.Call (.Attribute o "split" ap) [e] [] cp) (.lst ((Txt.split a b).map D.str)) ρ₂ :=
  fun env he A amb s Q E hA I hQ => Call_method1 (hbase env) (hs env) hline (x env he A amb s _ E hA I fun v1 h1 t1 I1 g1 r1 => by
    obtain ⟨t, rfl⟩ := r1
    refine ⟨"str", _, F.plainAttrs_str, F.slot_str_split, F.type_str_split, typeIs_str _ _ _, (fun _ e => nomatch e), ?_⟩
    refine method1_meets F.slot_str_split F.entry_str_split (y env he A amb _ _ E hA I1 fun v2 h2 t2 I2 g2 r2 => ?_)
    obtain ⟨u, rfl⟩ := r2
    refine ⟨typeIs_str _ _ _, F.args_str_split_2 _ _, ?_⟩
    have hx : a.length ≤ sizeLine := sizeLine_ge (by lia)
    have hn : (partsBetween a (occurrences a b 0 a.length (a.length + 1)) b.length).length ≤ sizeLine := by
      have e1 := StrLaws.occ_length_le a b 0 a.length (a.length + 1)
      rw [length_partsBetween]; exact sizeLine_ge (by lia)
    have fin : ∀ (l : List (Str × Tok)) (k : Nat), l.map (·.1) = Txt.split a b → Q (.ref h2.objs.size) { s with heap := h2.push (seqObj "list" (strValues l) 0), toks := k } := fun l k hl => by
      have k' : ∀ b o, h2.get? b = some o → (h2.push (seqObj "list" (strValues l) 0)).get? b = some o := fun b o e => Heap.get?_push_of_some _ e
      refine hQ _ _ k (I2.grow k') ((g1.trans g2).trans (Go.of_keeps k')) ⟨_, strValues l, 0, rfl, alloc_get .., fun q => Nat.lt_irrefl _ (mu_live I2 q).lt, ?_⟩
      rw [← hl]
      exact strs_rel l
    cases h1' : (decide (a.length < b.length) || decide (Builtin.Str.strKind a < Builtin.Str.strKind b))
    · cases hf : (occurrences a b 0 a.length (a.length + 1)).isEmpty
      · refine ⟨_, meets_str_split_sep a b t u h1' hb hf hx hn, ?_⟩
        show wants Q E _ { s with toks := _, heap := h2.push { cls := .type "list", data := .seq (strsFrom t2 (partsBetween a (occurrences a b 0 a.length (a.length + 1)) b.length)).toArray } }
        rw [strsFrom_eq]
        exact fin (numbered t2 _) _ ((numbered_texts _ _).trans ((if_neg (ne_true_of_eq_false h1')).trans (if_neg (ne_true_of_eq_false hf))).symm)
      · exact ⟨_, meets_str_split_not_found a b t u h1' hb hf, fin [(a, t)] _ ((if_neg (ne_true_of_eq_false h1')).trans (if_pos hf)).symm⟩
    · exact ⟨_, meets_str_split_cannot_occur a b t u h1', fin [(a, t)] _ (if_pos h1').symm⟩)

theorem ES.assign_unpack_own (i : Nat) {y : Str} {ky : NameKind} {p0 : Pos} {ts : List Expr} {es : List Expr} {ds post : List D} {l : List (Str × D)} {ρ₄ : St} {ρ' : Addr → St} {k k' : Nat} {p p' pos : Pos} {rest : List Stmt} {f : Fl} (x : EEsO G n sc ρ es [] ds post ρ₁)
    (S1 : ∀ a, Stores sc (ρ₁.set i (.own a ds)) l (ρ' a)) (hl : l.map (·.2) = post)
    (z : ∀ a, ES G n sc (ρ' a) rest f ρ₄) (tg : ∀ env, ∃ tl, (assignEach ts env).map (·.2) = assign (.Name y p0) env :: tl ∧ Tg env tl l)
    (hn : ∀ env, (assignEach ts env).length = post.length + 1) (hst : autoParam (∀ env, (assignEach ts env).findIdx? (·.1) = Option.none) byRflA)
    (hi : autoParam (sc.names[i]? = some (y, ky)) byRfl) (hk : autoParam (ky = .local ∨ ky = .cell) byDec)
    (hz : autoParam (post.length ≤ 1000) byBle)
    (hs : autoParam (∀ env, swapsWithSole [.Tuple ts k p] (.Tuple es k' p') pos.line env = pure false) byRflA)
    (hsw : autoParam (∀ env, env.scope = sc → swappedStores [.Tuple ts k p] (.Tuple es k' p') env = pure Option.none) byEnv) : ES G n sc ρ (.Assign [.Tuple ts k p] (.Tuple es k' p') pos :: rest) f ρ₄ :=
  fun env he A amb s Q E hA I hQ => by
    refine wpAny_execs_cons ?_
    rw [arm_exec_Assign]
    refine wpAny_bind (wpAny_standAt ?_)
    rw [hs env]
    refine wpAny_bind (wpAny_pure ?_)
    rw [if_neg Bool.false_ne_true]
    refine wpAny_bind (Tuple_ (x env he p' A amb s _ E hA I fun vs1 a vsO m0 vs2 h t I1 g e0 na nw ea rO r1 r2 => ?_))
    rw [show vs1 = [] from r1]
    have hn2 := r2.length
    refine wpAny_newTuple ?_ (by
      rw [List.nil_append, List.length_cons]
      exact sizeLine_ge (by lia))
    rw [hsw env he.is]
    refine wpAny_bind (wpAny_pure ?_)
    unfold assignStores
    dsimp only
    have ht : Heap.IsTuple (h.push (seqObj "tuple" ([] ++ .ref a :: vs2) 0)) h.objs.size (.ref a :: vs2).toArray := ⟨_, Heap.get?_push_size _ rfl, rfl, _, rfl⟩
    refine wpAny_bind (m := assignAll (.ref h.objs.size) ((assignEach [.Tuple ts k p] env).map (·.2))) ?_
    show wpAny _ _ (PySem.assign (.Tuple ts k p) env (.ref h.objs.size)) _ _ _
    refine wpAny_assign_Tuple hA.handled ht (by rw [hn env]; simp [hn2]) (hst env) fun h' eb => ?_
    have k1 : ∀ b o, h.get? b = some o → h'.get? b = some o := fun b o q => eb b o (Nat.ne_of_lt (by rw [Heap.size_push]; exact Nat.lt_succ_of_lt (Heap.lt_size q))) (Heap.get?_push_of_some _ q)
    have I2 := I1.grow k1
    have kp := Kp.of_keeps (M := mu env (addA amb a) ρ₁) k1
    have r2' := RelL.kp kp _ _ r2
    have rO' := RelL.kp kp _ _ rO
    obtain ⟨tl, et, tg'⟩ := tg env
    rw [et]
    refine inOrder_cons' (storeName_stored he I2.nd I2.ns I2.cells hi hk (fun q => he.cl y (q ▸ he.kind hi)) fun c h4 t4 S => ?_)
    obtain ⟨I4, g4⟩ := I2.stored_own he S hi na nw (k1 _ _ ea) rO'
    have gall := g4 _ _ (g.trans (Go.of_keeps k1)) e0
    have r24 : RelL h4 (mu env amb (ρ₁.set i (.own a ds))) post vs2 := by
      refine RelL.kp (fun b T us m q mm => ?_) _ _ r2'
      refine ⟨(S.same.2 b fun w => S.notSeq T us m (w ▸ q)).trans q, fun w => mm ?_⟩
      rcases w with w | w
      · exact .inl (.inl w)
      · rcases (wr_own_set (i := i) (ds := ds) I2.nd nw).2 b w with w | w
        · exact .inl (.inr w)
        · exact .inr w
    refine stores_run he tg' (S1 a) I4 (by rw [hl]; exact r24) fun h5 t5 I5 g5 => wpAny_pure ?_
    exact z a env he A amb _ Q E hA I5 fun fl h6 t6 I6 g6 fo => hQ fl h6 t6 I6 ((gall.trans g5).trans g6) fo

theorem bs_int {x : Str} {i : Int} (h : PySem.intText? x = some i) (hz : x.length ≤ 640) : BSpec G (.type "int") [.str x] (.int i) := fun A M s vs Q E _ gl top hM r hQ => by
  obtain ⟨_, _, rfl, ⟨t, rfl⟩, rfl⟩ := r
  exact KIN.call_text h hz (hQ _ s.heap _ (keepsId _) ⟨_, rfl⟩)
end
end Mine

end -- GC
section -- WB
open PySem PySem.W PyProof.Rows PySem.Calls
set_option maxRecDepth 100000
namespace Mine

noncomputable abbrev R := Int × Int
noncomputable abbrev encR (a : R) : D := .tup [.int a.1, .int a.2]

noncomputable def ratM (a b : Int) : Option R := if b = 0 then none else if 0 < b then some (a.fdiv (Int.gcd a b), b.fdiv (Int.gcd a b)) else some (a.fdiv (0 - Int.gcd a b), b.fdiv (0 - Int.gcd a b))
noncomputable def raddM (a b : R) : Option R := if MulOk a.1 b.2 ∧ MulOk b.1 a.2 ∧ MulOk a.2 b.2 then ratM (a.1 * b.2 + b.1 * a.2) (a.2 * b.2) else none
noncomputable def rmulM (a b : R) : Option R := if MulOk a.1 b.1 ∧ MulOk a.2 b.2 then ratM (a.1 * b.1) (a.2 * b.2) else none
noncomputable def rdivM (a b : R) : Option R := if MulOk a.1 b.2 ∧ MulOk a.2 b.1 then ratM (a.1 * b.2) (a.2 * b.1) else none
noncomputable def rneg (a : R) : R := (0 - a.1, a.2)
noncomputable def rinvM (a : R) : Option R := ratM a.2 a.1

theorem ok_of {i : Nat} (h : (scOk (scAt i) && paramsOk (paramsOf (defAt i)) (scAt i)) = true) : scOk (scAt i) = true ∧ paramsOk (paramsOf (defAt i)) (scAt i) = true := by
  simpa using h

section
variable {G : GC} (HD : HasDefs G)
include HD


theorem sp_rat {a b : Int} {r : R} (h : ratM a b = some r) : FnSpec G 1 (Str.ofString "rat") [.int a, .int b] (encR r) := by
  unfold ratM at h
  split at h
  · cases h
  · rename_i h0
    have g0 : Int.gcd a b ≠ 0 := fun q => h0 (Int.gcd_eq_zero_iff.mp q).2
    split at h
    · cases h
      exact FnSpec.at 14 HD (by decide +kernel) (by decide +kernel) ⟨_, ES.cons (ES1.if_f (ET.conv (ET.ieq (EE.name 1 rfl rfl) EE.int) (by simpa using h0)) ES.nil)
        (ES.cons (ES1.assign 2 (EE.ite_t (ET.conv (ET.igt (EE.name 1 rfl rfl) EE.int) (by simp; omega)) (EE.call 4 (sp_gcd HD _ _ ) (by decide) rfl (EEs.cons (EE.name 0 rfl rfl) (EEs.cons (EE.name 1 rfl rfl) EEs.nil)))))
        (ES.ret (ES1.ret (EE.tuple (EEs.cons (EE.floordiv (EE.name 0 rfl rfl) (EE.name 2 rfl rfl) (by omega)) (EEs.cons (EE.floordiv (EE.name 1 rfl rfl) (EE.name 2 rfl rfl) (by omega)) EEs.nil))))))⟩
    · cases h
      exact FnSpec.at 14 HD (by decide +kernel) (by decide +kernel) ⟨_, ES.cons (ES1.if_f (ET.conv (ET.ieq (EE.name 1 rfl rfl) EE.int) (by simpa using h0)) ES.nil)
        (ES.cons (ES1.assign 2 (EE.ite_f (ET.conv (ET.igt (EE.name 1 rfl rfl) EE.int) (by simp; omega)) (EE.sub EE.int (EE.call 4 (sp_gcd HD _ _ ) (by decide) rfl (EEs.cons (EE.name 0 rfl rfl) (EEs.cons (EE.name 1 rfl rfl) EEs.nil))))))
        (ES.ret (ES1.ret (EE.tuple (EEs.cons (EE.floordiv (EE.name 0 rfl rfl) (EE.name 2 rfl rfl) (by omega)) (EEs.cons (EE.floordiv (EE.name 1 rfl rfl) (EE.name 2 rfl rfl) (by omega)) EEs.nil))))))⟩



theorem sp_radd {a b r : R} (h : raddM a b = some r) : FnSpec G 2 (Str.ofString "radd") [encR a, encR b] (encR r) := by
  unfold raddM at h
  split at h
  · rename_i q
    obtain ⟨q1, q2, q3⟩ := q
    exact FnSpec.at 15 HD (by decide +kernel) (by decide +kernel) ⟨_, ES.ret (ES1.ret (EE.call 2 (sp_rat HD h) (by decide) rfl (EEs.cons (EE.add (EE.mul (EE.item_t (EE.name 0 rfl rfl) EE.int rfl rfl (Nat.le_of_ble_eq_true rfl)) (EE.item_t (EE.name 1 rfl rfl) EE.int rfl rfl (Nat.le_of_ble_eq_true rfl)) (by assumption)) (EE.mul (EE.item_t (EE.name 1 rfl rfl) EE.int rfl rfl (Nat.le_of_ble_eq_true rfl)) (EE.item_t (EE.name 0 rfl rfl) EE.int rfl rfl (Nat.le_of_ble_eq_true rfl)) (by assumption))) (EEs.cons (EE.mul (EE.item_t (EE.name 0 rfl rfl) EE.int rfl rfl (Nat.le_of_ble_eq_true rfl)) (EE.item_t (EE.name 1 rfl rfl) EE.int rfl rfl (Nat.le_of_ble_eq_true rfl)) (by assumption)) EEs.nil))))⟩
  · cases h

theorem sp_rmul {a b r : R} (h : rmulM a b = some r) : FnSpec G 2 (Str.ofString "rmul") [encR a, encR b] (encR r) := by
  unfold rmulM at h
  split at h
  · rename_i q
    obtain ⟨q1, q2⟩ := q
    exact FnSpec.at 16 HD (by decide +kernel) (by decide +kernel) ⟨_, ES.ret (ES1.ret (EE.call 2 (sp_rat HD h) (by decide) rfl (EEs.cons (EE.mul (EE.item_t (EE.name 0 rfl rfl) EE.int rfl rfl (Nat.le_of_ble_eq_true rfl)) (EE.item_t (EE.name 1 rfl rfl) EE.int rfl rfl (Nat.le_of_ble_eq_true rfl)) (by assumption)) (EEs.cons (EE.mul (EE.item_t (EE.name 0 rfl rfl) EE.int rfl rfl (Nat.le_of_ble_eq_true rfl)) (EE.item_t (EE.name 1 rfl rfl) EE.int rfl rfl (Nat.le_of_ble_eq_true rfl)) (by assumption)) EEs.nil))))⟩
  · cases h

theorem sp_rdiv {a b r : R} (h : rdivM a b = some r) : FnSpec G 2 (Str.ofString "rdiv") [encR a, encR b] (encR r) := by
  unfold rdivM at h
  split at h
  · rename_i q
    obtain ⟨q1, q2⟩ := q
    exact FnSpec.at 17 HD (by decide +kernel) (by decide +kernel) ⟨_, ES.ret (ES1.ret (EE.call 2 (sp_rat HD h) (by decide) rfl (EEs.cons (EE.mul (EE.item_t (EE.name 0 rfl rfl) EE.int rfl rfl (Nat.le_of_ble_eq_true rfl)) (EE.item_t (EE.name 1 rfl rfl) EE.int rfl rfl (Nat.le_of_ble_eq_true rfl)) (by assumption)) (EEs.cons (EE.mul (EE.item_t (EE.name 0 rfl rfl) EE.int rfl rfl (Nat.le_of_ble_eq_true rfl)) (EE.item_t (EE.name 1 rfl rfl) EE.int rfl rfl (Nat.le_of_ble_eq_true rfl)) (by assumption)) EEs.nil))))⟩
  · cases h

theorem sp_rneg (a : R) : FnSpec G 0 (Str.ofString "rneg") [encR a] (encR (rneg a)) :=
  FnSpec.at 18 HD (by decide +kernel) (by decide +kernel) ⟨_, ES.ret (ES1.ret (EE.tuple (EEs.cons (EE.sub EE.int (EE.item_t (EE.name 0 rfl rfl) EE.int rfl rfl (Nat.le_of_ble_eq_true rfl))) (EEs.cons (EE.item_t (EE.name 0 rfl rfl) EE.int rfl rfl (Nat.le_of_ble_eq_true rfl)) EEs.nil))))⟩

theorem sp_rinv {a r : R} (h : rinvM a = some r) : FnSpec G 2 (Str.ofString "rinv") [encR a] (encR r) :=
  FnSpec.at 19 HD (by decide +kernel) (by decide +kernel) ⟨_, ES.ret (ES1.ret (EE.call 1 (sp_rat HD h) (by decide) rfl (EEs.cons (EE.item_t (EE.name 0 rfl rfl) EE.int rfl rfl (Nat.le_of_ble_eq_true rfl)) (EEs.cons (EE.item_t (EE.name 0 rfl rfl) EE.int rfl rfl (Nat.le_of_ble_eq_true rfl)) EEs.nil))))⟩
end
end Mine

end -- WB
section -- WC
open PySem PySem.W PyProof.Rows PySem.Calls
set_option maxRecDepth 100000
set_option linter.unusedVariables false
set_option linter.unusedSectionVars false
namespace Mine

noncomputable abbrev P := List R
noncomputable abbrev encP (p : P) : D := .lst (p.map encR)
noncomputable abbrev F := P × P
noncomputable abbrev encF (f : F) : D := .tup [encP f.1, encP f.2]
noncomputable abbrev r0 : R := (0, 1)
noncomputable abbrev r1 : R := (1, 1)

noncomputable def tsize (p : P) : Nat → Nat
  | 0 => 0
  | k + 1 => if (p.getD k r0).1 = 0 then tsize p k else k + 1
noncomputable def qtrim (p : P) : P := p.take (tsize p p.length)
theorem qtrim_le (p : P) : (qtrim p).length ≤ p.length := by unfold qtrim; rw [List.length_take]; lia
noncomputable abbrev small (p : P) : Prop := p.length ≤ 400
theorem sm {p : P} (h : small p) : p.length ≤ 1000 := Nat.le_trans h (by decide)
noncomputable def qaddM (a b : P) : Option P := if small a ∧ small b then
    match mapO (fun i => raddM (a.getD i r0) (b.getD i r0)) (List.range (max a.length b.length)) with
    | none => none
    | some l => some (qtrim l)
  else none
noncomputable def qneg (p : P) : P := p.map rneg
noncomputable def qsubM (a b : P) : Option P := qaddM a (qneg b)
noncomputable def qscaleM (p : P) (r : R) : Option P := if small p then (if r.1 ≠ 0 then mapO (fun x => rmulM x r) p else some []) else none
noncomputable def qraise (p : P) (k : Nat) : P := if 0 < p.length then List.replicate k r0 ++ p else []

structure Tops (G : GC) : Prop where
  defs : HasDefs G
  R0 : ConstIs G "R0" (encR r0)
  R1 : ConstIs G "R1" (encR r1)
  F0 : ConstIs G "F0" (encF ([], [r1]))
  F1 : ConstIs G "F1" (encF ([r1], [r1]))
  TZERO : ConstIs G "T_ZERO" (.tup [.str "num", .int 0, .int 1])
  TONE : ConstIs G "T_ONE" (.tup [.str "num", .int 1, .int 1])
  TMINUS : ConstIs G "T_MINUS" (.tup [.str "num", .int (-1), .int 1])
  ZERO : ConstIs G "ZERO" (.tup [.str "num", .int 0, .int 1])
  ONE : ConstIs G "ONE" (.tup [.str "num", .int 1, .int 1])
  EXPONE : ConstIs G "EXP_ONE" (.tup [.str "call", .str "exp", .tup [.tup [.str "num", .int 1, .int 1]]])
  RANKS : Gl G → ∃ a f, G.mg "RANKS" = some (.ref a) ∧ G.h.MapOf (strKind G.prog G.w) a f ∧ ∀ p ∈ ranksL, ∃ t, f p.1 = some (.int p.2 t)

section
variable {G : GC} (T : Tops G)
include T

theorem trim_loop {p : P} {m : Nat} {r : St} {test : Expr} {body : List Stmt}
    (h0 : ET G m (scAt 24) (.val (encP p) :: .val (.int 0) :: r) test false (.val (encP p) :: .val (.int 0) :: r))
    (h1 : ∀ k : Nat, k < p.length → (p.getD k r0).1 = 0 → ET G m (scAt 24) (.val (encP p) :: .val (.int ((k + 1 : Nat) : Int)) :: r) test true (.val (encP p) :: .val (.int ((k + 1 : Nat) : Int)) :: r))
    (h2 : ∀ k : Nat, k < p.length → (p.getD k r0).1 ≠ 0 → ET G m (scAt 24) (.val (encP p) :: .val (.int ((k + 1 : Nat) : Int)) :: r) test false (.val (encP p) :: .val (.int ((k + 1 : Nat) : Int)) :: r))
    (hb : ∀ k : Nat, ES G m (scAt 24) (.val (encP p) :: .val (.int ((k + 1 : Nat) : Int)) :: r) body .next (.val (encP p) :: .val (.int (((k + 1 : Nat) : Int) - 1)) :: r)) :
    ∀ k : Nat, k ≤ p.length → EW G m (scAt 24) (.val (encP p) :: .val (.int (k : Int)) :: r) test body .next (.val (encP p) :: .val (.int (tsize p k : Int)) :: r)
  | 0, _ => EW.done h0
  | k + 1, hk => by
    unfold tsize
    by_cases q : (p.getD k r0).1 = 0
    · rw [if_pos q]
      have := trim_loop h0 h1 h2 hb k (by lia)
      refine EW.step (h1 k (by lia) q) (hb k) ?_
      rw [show (((k + 1 : Nat) : Int) - 1) = (k : Int) by lia]
      exact this
    · rw [if_neg q]
      exact EW.done (h2 k (by lia) q)

theorem sp_qtrim {p : P} (hz : p.length ≤ 1000) : FnSpec G 0 (Str.ofString "qtrim") [encP p] (encP (qtrim p)) :=
  FnSpec.at 24 T.defs (by decide +kernel) (by decide +kernel) ⟨_, (ES.cons (ES1.assign 1 (EE.bcall 2 (bs_len_m hz) (.b _) (by decide) boot_len rfl (EEs.cons (EE.name 0 rfl rfl) EEs.nil))) (ES.cons (ES1.while (trim_loop T (ET.and_f (ET.conv (ET.igt (EE.name 1 rfl rfl) EE.int) (by simp))) (fun k hk q => (ET.and_t (ET.conv (ET.igt (EE.name 1 rfl rfl) EE.int) (by simp)) (ET.and_t (ET.conv (ET.ieq (EE.item_t (EE.item_l' (EE.name 0 rfl rfl) (EE.sub (EE.name 1 rfl rfl) EE.int) (itm r0 k hk hz (by lia))) EE.int rfl rfl (Nat.le_of_ble_eq_true rfl)) EE.int) (by simpa using q)) ET.and_nil))) (fun k hk q => (ET.and_t (ET.conv (ET.igt (EE.name 1 rfl rfl) EE.int) (by simp)) (ET.and_f (ET.conv (ET.ieq (EE.item_t (EE.item_l' (EE.name 0 rfl rfl) (EE.sub (EE.name 1 rfl rfl) EE.int) (itm r0 k hk hz (by lia))) EE.int rfl rfl (Nat.le_of_ble_eq_true rfl)) EE.int) (by simpa using q))))) (fun k => (ES.cons (ES1.aug_sub 1 EE.int rfl rfl) ES.nil)) p.length (Nat.le_refl _))) (ES.ret (ES1.ret (EF.val (EF.list_of_m 3 (EE.slice_upto_m (EE.name 0 rfl rfl) (EE.name 1 rfl rfl) hz) rfl (Nat.le_trans (qtrim_le p) hz)))))))⟩

theorem sp_qneg {p : P} (hz : p.length ≤ 1000) : FnSpec G 1 (Str.ofString "qneg") [encP p] (encP (qneg p)) :=
  FnSpec.at 28 T.defs (by decide +kernel) (by decide +kernel) ⟨_, (ES.ret (ES1.ret (EF.val (EF.comp (EI.list (EE.name 0 rfl rfl)) (.skip rfl (.skip rfl (.skip rfl (.nil rfl)))) (eco_map 1 (fun a => some (rneg a)) (mapO_some p) (fun a b _ h => by cases h; exact (EE.call 2 (sp_rneg T.defs (by assumption)) (by decide) rfl (EEs.cons (EE.name 1 rfl rfl) EEs.nil)))) (lzm hz) (CompOk.of (by decide +kernel))))))⟩

theorem sp_qscale {p : P} {r : R} {q : P} (h : qscaleM p r = some q) : FnSpec G 3 (Str.ofString "qscale") [encP p, encR r] (encP q) := by
  unfold qscaleM at h
  split at h
  · rename_i hz
    split at h
    · rename_i h0
      exact FnSpec.at 30 T.defs (by decide +kernel) (by decide +kernel) ⟨_, (ES.ret (ES1.ret (EE.ite_t (ET.conv (ET.ine (EE.item_t (EE.name 1 rfl rfl) EE.int rfl rfl (Nat.le_of_ble_eq_true rfl)) EE.int) (by simpa using h0)) (EF.val (EF.comp (EI.list (EE.name 0 rfl rfl)) (.skip rfl (.skip rfl (.skip rfl (.take 1 rfl rfl rfl (.nil rfl))))) (eco_map 1 _ h (fun a b _ h1 => (EE.call 2 (sp_rmul T.defs h1) (by decide) rfl (EEs.cons (EE.name 1 rfl rfl) (EEs.cons (EE.name 3 rfl rfl) EEs.nil))))) (lzm (by lia)) (CompOk.of (by decide +kernel)))))))⟩
    · rename_i h0
      cases h
      exact FnSpec.at 30 T.defs (by decide +kernel) (by decide +kernel) ⟨_, (ES.ret (ES1.ret (EE.ite_f (ET.conv (ET.ine (EE.item_t (EE.name 1 rfl rfl) EE.int rfl rfl (Nat.le_of_ble_eq_true rfl)) EE.int) (by simpa using h0)) (EF.val (EF.list EEs.nil)))))⟩
  · cases h

theorem sp_qadd {a b c : P} (h : qaddM a b = some c) : FnSpec G 3 (Str.ofString "qadd") [encP a, encP b] (encP c) := by
  unfold qaddM at h
  split at h
  · rename_i hz
    obtain ⟨hza, hzb⟩ := hz
    split at h
    · cases h
    · rename_i l hl
      cases h
      have hm : max a.length b.length ≤ 1000 := by lia
      have e1 : (if (b.length : Int) > (a.length : Int) then (b.length : Int) else (a.length : Int)) = ((max a.length b.length : Nat) : Int) := by split <;> lia
      have hlen := mapO_length hl
      rw [List.length_range] at hlen
      refine FnSpec.at 27 T.defs (by decide +kernel) (by decide +kernel) ⟨_, ES.cons (ES1.assign 2 (EE.conv (EE.bcall 3 (bs_max ) (.b _) (by decide) boot_max rfl (EEs.cons (EE.bcall 4 (bs_len_m (by first | exact sm (by assumption) | lia)) (.b _) (by decide) boot_len rfl (EEs.cons (EE.name 0 rfl rfl) EEs.nil)) (EEs.cons (EE.bcall 4 (bs_len_m (by first | exact sm (by assumption) | lia)) (.b _) (by decide) boot_len rfl (EEs.cons (EE.name 1 rfl rfl) EEs.nil)) EEs.nil))) (congrArg D.int e1))) (ES.ret (ES1.ret (EE.call 5 (sp_qtrim T (by lia)) (by decide) rfl (EEs.cons (EF.val (EF.comp (EI.range 6 (EE.name 2 rfl rfl) rfl (Nat.le_trans hm (by decide))) (.skip rfl (.skip rfl (.skip rfl (.skip rfl (.skip rfl (.take 0 rfl rfl rfl (.take 1 rfl rfl rfl (.nil rfl)))))))) (eco_map 1 _ hl (fun i r hi h1 => ?_)) (lzm (by rw [List.length_range]; lia)) (CompOk.of (by decide +kernel)))) EEs.nil))))⟩
      have hi' := List.mem_range.mp hi
      by_cases ha : i < a.length
      · by_cases hb : i < b.length
        · exact (EE.call 2 (sp_radd T.defs h1) (by decide) rfl (EEs.cons (EE.ite_t (ET.conv (ET.ilt (EE.name 1 rfl rfl) (EE.bcall 3 (bs_len_m (by first | exact sm (by assumption) | lia)) (.b _) (by decide) boot_len rfl (EEs.cons (EE.name 5 rfl rfl) EEs.nil))) (by simpa using ha)) (EE.item_l' (EE.name 5 rfl rfl) (EE.name 1 rfl rfl) (itm r0 i ha (by lia) rfl))) (EEs.cons (EE.ite_t (ET.conv (ET.ilt (EE.name 1 rfl rfl) (EE.bcall 3 (bs_len_m (by first | exact sm (by assumption) | lia)) (.b _) (by decide) boot_len rfl (EEs.cons (EE.name 6 rfl rfl) EEs.nil))) (by simpa using hb)) (EE.item_l' (EE.name 6 rfl rfl) (EE.name 1 rfl rfl) (itm r0 i hb (by lia) rfl))) EEs.nil)))
        · rw [show b.getD i r0 = r0 by simp [List.getD_eq_getElem?_getD, List.getElem?_eq_none (Nat.not_lt.mp hb)]] at h1
          exact (EE.call 2 (sp_radd T.defs h1) (by decide) rfl (EEs.cons (EE.ite_t (ET.conv (ET.ilt (EE.name 1 rfl rfl) (EE.bcall 3 (bs_len_m (by first | exact sm (by assumption) | lia)) (.b _) (by decide) boot_len rfl (EEs.cons (EE.name 5 rfl rfl) EEs.nil))) (by simpa using ha)) (EE.item_l' (EE.name 5 rfl rfl) (EE.name 1 rfl rfl) (itm r0 i ha (by lia) rfl))) (EEs.cons (EE.ite_f (ET.conv (ET.ilt (EE.name 1 rfl rfl) (EE.bcall 3 (bs_len_m (by first | exact sm (by assumption) | lia)) (.b _) (by decide) boot_len rfl (EEs.cons (EE.name 6 rfl rfl) EEs.nil))) (by simpa using hb)) (EE.glob 4 rfl T.R0)) EEs.nil)))
      · rw [show a.getD i r0 = r0 by simp [List.getD_eq_getElem?_getD, List.getElem?_eq_none (Nat.not_lt.mp ha)]] at h1
        by_cases hb : i < b.length
        · exact (EE.call 2 (sp_radd T.defs h1) (by decide) rfl (EEs.cons (EE.ite_f (ET.conv (ET.ilt (EE.name 1 rfl rfl) (EE.bcall 3 (bs_len_m (by first | exact sm (by assumption) | lia)) (.b _) (by decide) boot_len rfl (EEs.cons (EE.name 5 rfl rfl) EEs.nil))) (by simpa using ha)) (EE.glob 4 rfl T.R0)) (EEs.cons (EE.ite_t (ET.conv (ET.ilt (EE.name 1 rfl rfl) (EE.bcall 3 (bs_len_m (by first | exact sm (by assumption) | lia)) (.b _) (by decide) boot_len rfl (EEs.cons (EE.name 6 rfl rfl) EEs.nil))) (by simpa using hb)) (EE.item_l' (EE.name 6 rfl rfl) (EE.name 1 rfl rfl) (itm r0 i hb (by lia) rfl))) EEs.nil)))
        · rw [show b.getD i r0 = r0 by simp [List.getD_eq_getElem?_getD, List.getElem?_eq_none (Nat.not_lt.mp hb)]] at h1
          exact (EE.call 2 (sp_radd T.defs h1) (by decide) rfl (EEs.cons (EE.ite_f (ET.conv (ET.ilt (EE.name 1 rfl rfl) (EE.bcall 3 (bs_len_m (by first | exact sm (by assumption) | lia)) (.b _) (by decide) boot_len rfl (EEs.cons (EE.name 5 rfl rfl) EEs.nil))) (by simpa using ha)) (EE.glob 4 rfl T.R0)) (EEs.cons (EE.ite_f (ET.conv (ET.ilt (EE.name 1 rfl rfl) (EE.bcall 3 (bs_len_m (by first | exact sm (by assumption) | lia)) (.b _) (by decide) boot_len rfl (EEs.cons (EE.name 6 rfl rfl) EEs.nil))) (by simpa using hb)) (EE.glob 4 rfl T.R0)) EEs.nil)))
  · cases h
end
end Mine

end -- WC
section -- WD
open PySem PySem.W PyProof.Rows PySem.Calls
set_option maxRecDepth 100000
set_option linter.unusedVariables false
set_option linter.unusedSectionVars false
namespace Mine

noncomputable abbrev qlast (p : P) : R := p.getD (p.length - 1) r0
noncomputable def qin (i : Nat) (x : R) : List R → Nat → P → Option P
  | [], _, f => some f
  | y :: ys, j, f => match rmulM x y with
    | none => none
    | some m => match raddM (f.getD (i + j) r0) m with
      | none => none
      | some s => qin i x ys (j + 1) (f.set (i + j) s)
noncomputable def qout (b : P) : List R → Nat → P → Option P
  | [], _, f => some f
  | x :: xs, i, f => match qin i x b 0 f with
    | none => none
    | some g => qout b xs (i + 1) g
noncomputable def qmulM (a b : P) : Option P := if small a ∧ small b then (if a.length = 0 ∨ b.length = 0 then some [] else qout b a 0 (List.replicate (a.length + b.length - 1) r0)) else none
noncomputable def qdivL (b : P) : Nat → P → P → Option (P × P)
  | 0, rest, found => if rest.length < b.length then some (found, rest) else none
  | k + 1, rest, found => if rest.length < b.length then some (found, rest) else
    if small rest ∧ rest.length - b.length < found.length then
      match rdivM (qlast rest) (qlast b) with
      | none => none
      | some num => match qscaleM (b.take (b.length - 1)) num with
        | none => none
        | some sc => match qsubM (rest.take (rest.length - 1)) (qraise sc (rest.length - b.length)) with
          | none => none
          | some low => qdivL b k low (found.set (rest.length - b.length) num)
    else none
noncomputable def qdivmodM (a b : P) : Option (P × P) := if small a ∧ small b ∧ b.length ≠ 0 then
    match qdivL b (a.length + 1) a (List.replicate (a.length + 1 - b.length) r0) with
    | none => none
    | some (f, r) => if small r then some (qtrim f, r) else none
  else none
noncomputable def qmonicM (p : P) : Option P := if small p then (if 0 < p.length then match rinvM (qlast p) with | none => none | some i => qscaleM p i else some []) else none
noncomputable def qgcdL : Nat → P → P → Option P
  | 0, a, b => if b.length = 0 then some a else none
  | k + 1, a, b => if b.length = 0 then some a else
    if small b then match qdivmodM a b with
    | none => none
    | some (_, r) => match qmonicM r with
      | none => none
      | some r' => qgcdL k b r'
    else none
noncomputable def qgcdM (a b : P) : Option P := match qgcdL (b.length + 1) a b with | none => none | some g => qmonicM g
noncomputable def qatL (r : R) : List R → R → Option R
  | [], f => some f
  | x :: xs, f => match rmulM f r with
    | none => none
    | some m => match raddM m x with
      | none => none
      | some s => qatL r xs s
noncomputable def qatM (p : P) (r : R) : Option R := qatL r p.reverse r0

theorem deq_nil (p : P) : deq (encP p) (.lst []) = (p.length == 0) := by
  cases p with
  | nil => rfl
  | cons _ _ => rfl

theorem qin_length {i : Nat} {x : R} : ∀ {ys : List R} {j : Nat} {f g : P}, qin i x ys j f = some g → g.length = f.length
  | [], _, f, g, h => by cases h; rfl
  | y :: ys, j, f, g, h => by
    unfold qin at h
    split at h
    · cases h
    · split at h
      · cases h
      · rw [qin_length h, List.length_set]
theorem qout_length {b : P} : ∀ {xs : List R} {i : Nat} {f g : P}, qout b xs i f = some g → g.length = f.length
  | [], _, f, g, h => by cases h; rfl
  | x :: xs, i, f, g, h => by
    unfold qout at h
    split at h
    · cases h
    · rename_i _ g' h1
      rw [qout_length h, qin_length h1]

section
variable {G : GC} (T : Tops G)
include T

theorem sp_qdegree {p : P} (hz : small p) : FnSpec G 0 (Str.ofString "qdegree") [encP p] (.int ((p.length : Int) - 1)) :=
  FnSpec.at 25 T.defs (by decide +kernel) (by decide +kernel) ⟨_, (ES.ret (ES1.ret (EE.sub (EE.bcall 1 (bs_len_m (by first | exact sm (by assumption) | lia)) (.b _) (by decide) boot_len rfl (EEs.cons (EE.name 0 rfl rfl) EEs.nil)) EE.int)))⟩
theorem sp_qlead {p : P} (hz : small p) : FnSpec G 0 (Str.ofString "qlead") [encP p] (encR (qlast p)) := by
  by_cases h : 0 < p.length
  · exact FnSpec.at 26 T.defs (by decide +kernel) (by decide +kernel) ⟨_, (ES.ret (ES1.ret (EE.ite_t (ET.conv (ET.igt (EE.bcall 1 (bs_len_m (by first | exact sm (by assumption) | lia)) (.b _) (by decide) boot_len rfl (EEs.cons (EE.name 0 rfl rfl) EEs.nil)) EE.int) (by simpa using h)) (EE.item_l' (EE.name 0 rfl rfl) (EE.neg EE.int) (itlast r0 h (by lia))))))⟩
  · have e : p = [] := List.length_eq_zero_iff.mp (by lia)
    subst e
    exact FnSpec.at 26 T.defs (by decide +kernel) (by decide +kernel) ⟨_, (ES.ret (ES1.ret (EE.ite_f (ET.conv (ET.igt (EE.bcall 1 (bs_len_m (by first | exact sm (by assumption) | lia)) (.b _) (by decide) boot_len rfl (EEs.cons (EE.name 0 rfl rfl) EEs.nil)) EE.int) (by simpa using h)) (EE.glob 2 rfl T.R0))))⟩
theorem sp_qsub {a b c : P} (h : qsubM a b = some c) (hz : small b) : FnSpec G 4 (Str.ofString "qsub") [encP a, encP b] (encP c) :=
  FnSpec.at 29 T.defs (by decide +kernel) (by decide +kernel) ⟨_, (ES.ret (ES1.ret (EE.call 2 (sp_qadd T h) (by decide) rfl (EEs.cons (EE.name 0 rfl rfl) (EEs.cons (EE.call 3 (sp_qneg T (Nat.le_trans hz (by decide))) (by decide) rfl (EEs.cons (EE.name 1 rfl rfl) EEs.nil)) EEs.nil)))))⟩
theorem sp_qraise {p : P} {k : Nat} (hz : small p) (hk : k ≤ 400) : FnSpec G 0 (Str.ofString "qraise") [encP p, .int (k : Int)] (encP (qraise p k)) := by
  unfold qraise
  split
  · rename_i h
    exact FnSpec.at 31 T.defs (by decide +kernel) (by decide +kernel) ⟨_, (ES.ret (ES1.ret (EE.ite_t (ET.conv (ET.igt (EE.bcall 2 (bs_len_m (by first | exact sm (by assumption) | lia)) (.b _) (by decide) boot_len rfl (EEs.cons (EE.name 0 rfl rfl) EEs.nil)) EE.int) (by simpa using h)) (EF.val (EF.list_add_m (EF.val (EF.list_mul_m (EF.val (EF.list (EEs.cons (EE.glob 3 rfl T.R0) EEs.nil))) (EE.name 1 rfl rfl) (by simp) (by lia) (by lia))) (EF.val (EF.list_of_m 4 (EE.name 0 rfl rfl) rfl (by lia))) (by simp; lia))))))⟩
  · rename_i h
    exact FnSpec.at 31 T.defs (by decide +kernel) (by decide +kernel) ⟨_, (ES.ret (ES1.ret (EE.ite_f (ET.conv (ET.igt (EE.bcall 2 (bs_len_m (by first | exact sm (by assumption) | lia)) (.b _) (by decide) boot_len rfl (EEs.cons (EE.name 0 rfl rfl) EEs.nil)) EE.int) (by simpa using h)) (EF.val (EF.list EEs.nil)))))⟩

noncomputable abbrev stM (A B : Slot) (ad : Addr) (f : P) (s3 s4 s5 s6 : Slot) (r : St) : St := A :: B :: .own ad (f.map encR) :: s3 :: s4 :: s5 :: s6 :: r

omit T in
theorem qin_loop {n : Nat} {A B : Slot} {ad : Addr} {r : St} {i : Nat} {x : R} {body : List Stmt} {p1 p2 p3 : Pos} {kk : Nat}
    (hb : ∀ (f : P) (j : Nat) (y m s : R), i + j < f.length → f.length ≤ 1000 → rmulM x y = some m → raddM (f.getD (i + j) r0) m = some s →
      ES G n (scAt 32) (stM A B ad f (.val (.int (i : Int))) (.val (encR x)) (.val (.int (j : Int))) (.val (encR y)) r) body .next (stM A B ad (f.set (i + j) s) (.val (.int (i : Int))) (.val (encR x)) (.val (.int (j : Int))) (.val (encR y)) r)) :
    ∀ (ys : List R) (j : Nat) (f g : P) (s5 s6 : Slot), qin i x ys j f = some g → i + j + ys.length ≤ f.length → f.length ≤ 1000 →
      ∃ s5' s6', EFe G n (scAt 32) (stM A B ad f (.val (.int (i : Int))) (.val (encR x)) s5 s6 r) (.Tuple [.Name (Str.ofString "other") p1, .Name (Str.ofString "right") p2] kk p3) body j (ys.map encR) .next (stM A B ad g (.val (.int (i : Int))) (.val (encR x)) s5' s6' r)
  | [], j, f, g, s5, s6, h, _, _ => by cases h; exact ⟨_, _, EFe.nil⟩
  | y :: ys, j, f, g, s5, s6, h, hl, hz => by
    unfold qin at h
    split at h
    · cases h
    · rename_i _ m h1
      split at h
      · cases h
      · rename_i _ s h2
        rw [List.length_cons] at hl
        obtain ⟨s5', s6', L⟩ := qin_loop hb ys (j + 1) (f.set (i + j) s) g (.val (.int (j : Int))) (.val (encR y)) h (by rw [List.length_set]; lia) (by rw [List.length_set]; exact hz)
        exact ⟨s5', s6', EFe.cons 5 6 rfl (by decide) rfl (by decide) (hb f j y m s (by lia) hz h1 h2) L⟩

omit T in
theorem qout_loop {n : Nat} {A B : Slot} {b : P} {ad : Addr} {r : St} {body : List Stmt} {p1 p2 p3 : Pos} {kk : Nat}
    (hb : ∀ (f g : P) (i : Nat) (x : R) (s5 s6 : Slot), i + b.length ≤ f.length → f.length ≤ 1000 → qin i x b 0 f = some g →
      ∃ s5' s6', ES G n (scAt 32) (stM A B ad f (.val (.int (i : Int))) (.val (encR x)) s5 s6 r) body .next (stM A B ad g (.val (.int (i : Int))) (.val (encR x)) s5' s6' r)) :
    ∀ (xs : List R) (i : Nat) (f g : P) (s3 s4 s5 s6 : Slot), qout b xs i f = some g → i + xs.length + b.length ≤ f.length + 1 → f.length ≤ 1000 →
      ∃ s3' s4' s5' s6', EFe G n (scAt 32) (stM A B ad f s3 s4 s5 s6 r) (.Tuple [.Name (Str.ofString "one") p1, .Name (Str.ofString "left") p2] kk p3) body i (xs.map encR) .next (stM A B ad g s3' s4' s5' s6' r)
  | [], i, f, g, s3, s4, s5, s6, h, _, _ => by cases h; exact ⟨_, _, _, _, EFe.nil⟩
  | x :: xs, i, f, g, s3, s4, s5, s6, h, hl, hz => by
    unfold qout at h
    split at h
    · cases h
    · rename_i _ g' h1
      rw [List.length_cons] at hl
      obtain ⟨t5, t6, L1⟩ := hb f g' i x s5 s6 (by lia) hz h1
      have hg := qin_length h1
      obtain ⟨s3', s4', s5', s6', L⟩ := qout_loop hb xs (i + 1) g' g (.val (.int (i : Int))) (.val (encR x)) t5 t6 h (by lia) (by lia)
      exact ⟨s3', s4', s5', s6', EFe.cons 3 4 rfl (by decide) rfl (by decide) L1 L⟩

theorem sp_qmul {a b c : P} (h : qmulM a b = some c) : FnSpec G 3 (Str.ofString "qmul") [encP a, encP b] (encP c) := by
  unfold qmulM at h
  split at h
  · rename_i hz
    obtain ⟨hza, hzb⟩ := hz
    split at h
    · rename_i h0
      cases h
      by_cases ha : a.length = 0
      · exact FnSpec.at 32 T.defs (by decide +kernel) (by decide +kernel) ⟨_, (ES.ret (ES1.if_t (ET.or_t (ET.conv (ET.ieq (EE.bcall 7 (bs_len_m (by first | exact sm (by assumption) | lia)) (.b _) (by decide) boot_len rfl (EEs.cons (EE.name 0 rfl rfl) EEs.nil)) EE.int) (by simpa using ha))) (ES.ret (ES1.ret (EF.val (EF.list EEs.nil))))))⟩
      · exact FnSpec.at 32 T.defs (by decide +kernel) (by decide +kernel) ⟨_, (ES.ret (ES1.if_t (ET.or_f (ET.conv (ET.ieq (EE.bcall 7 (bs_len_m (by first | exact sm (by assumption) | lia)) (.b _) (by decide) boot_len rfl (EEs.cons (EE.name 0 rfl rfl) EEs.nil)) EE.int) (by simpa using ha)) (ET.or_t (ET.conv (ET.ieq (EE.bcall 7 (bs_len_m (by first | exact sm (by assumption) | lia)) (.b _) (by decide) boot_len rfl (EEs.cons (EE.name 1 rfl rfl) EEs.nil)) EE.int) (by simpa using (h0.resolve_left ha))))) (ES.ret (ES1.ret (EF.val (EF.list EEs.nil))))))⟩
    · rename_i h0
      rw [not_or] at h0
      exact FnSpec.at 32 T.defs (by decide +kernel) (by decide +kernel) ⟨_, (ES.cons (ES1.if_f (ET.or_f (ET.conv (ET.ieq (EE.bcall 7 (bs_len_m (by first | exact sm (by assumption) | lia)) (.b _) (by decide) boot_len rfl (EEs.cons (EE.name 0 rfl rfl) EEs.nil)) EE.int) (by simpa using h0.1)) (ET.or_f (ET.conv (ET.ieq (EE.bcall 7 (bs_len_m (by first | exact sm (by assumption) | lia)) (.b _) (by decide) boot_len rfl (EEs.cons (EE.name 1 rfl rfl) EEs.nil)) EE.int) (by simpa using h0.2)) ET.or_nil)) ES.nil) (ES1.assign_own 2 (EF.list_mul_m (EF.val (EF.list (EEs.cons (EE.glob 8 rfl T.R0) EEs.nil))) (EE.sub (EE.add (EE.bcall 7 (bs_len_m (by first | exact sm (by assumption) | lia)) (.b _) (by decide) boot_len rfl (EEs.cons (EE.name 0 rfl rfl) EEs.nil)) (EE.bcall 7 (bs_len_m (by first | exact sm (by assumption) | lia)) (.b _) (by decide) boot_len rfl (EEs.cons (EE.name 1 rfl rfl) EEs.nil))) EE.int) (show _ = a.length + b.length - 1 by lia) (by lia) (by lia)) (z := fun ad => ES.forget (by
        obtain ⟨s3, s4, s5, s6, L⟩ := qout_loop (G := G) (n := 3) (body := loopBody (stAt 32 2)) (A := .val (encP a)) (B := .val (encP b)) (b := b) (ad := ad) (r := [.unset, .unset, .unset, .unset, .unset]) (fun f g i x s5 s6 hl hz' hq => by
          obtain ⟨s5', s6', L⟩ := qin_loop (G := G) (n := 3) (body := loopBody (stIn (loopBody (stAt 32 2)) 0)) (A := .val (encP a)) (B := .val (encP b)) (ad := ad) (r := [.unset, .unset, .unset, .unset, .unset]) (fun f j y m s hlt hzf h1 h2 => (ES.cons (ES1.store_item_m 2 (i + j) (EE.call 10 (sp_radd T.defs h2) (by decide) rfl (EEs.cons (EE.item_own' 2 rfl rfl (EE.add (EE.name 3 rfl rfl) (EE.name 5 rfl rfl)) rfl (itm r0 (i + j) hlt hzf (by lia))) (EEs.cons (EE.call 11 (sp_rmul T.defs h1) (by decide) rfl (EEs.cons (EE.name 4 rfl rfl) (EEs.cons (EE.name 6 rfl rfl) EEs.nil))) EEs.nil))) rfl rfl (EE.add (EE.name 3 rfl rfl) (EE.name 5 rfl rfl)) rfl (by lia) hlt hzf) ES.nil)) b 0 f g s5 s6 hq (by lia) hz'
          exact ⟨s5', s6', ES.cons (ES1.for_enum 9 (EE.name 1 rfl rfl) rfl L) ES.nil⟩) a 0 _ c .unset .unset .unset .unset h (by rw [List.length_replicate]; lia) (by rw [List.length_replicate]; lia)
        exact ES.forget (ES.cons (ES1.for_enum 9 (EE.name 0 rfl rfl) rfl L) (ES.ret (ES1.ret (EE.name_own 2 rfl rfl))))))))⟩
  · cases h
end
end Mine

end -- WD
section -- WE
open PySem PySem.W PyProof.Rows PySem.Calls
set_option maxRecDepth 100000
set_option linter.unusedVariables false
set_option linter.unusedSectionVars false
namespace Mine

theorem qscale_length {p q : P} {r : R} (h : qscaleM p r = some q) : q.length ≤ p.length := by
  unfold qscaleM at h
  split at h
  · split at h
    · exact Nat.le_of_eq (mapO_length h)
    · cases h; exact Nat.zero_le _
  · cases h
theorem qraise_length (p : P) (k : Nat) : (qraise p k).length ≤ k + p.length := by
  unfold qraise
  split
  · rw [List.length_append, List.length_replicate]; lia
  · exact Nat.zero_le _
theorem qdivL_length {b : P} : ∀ {k : Nat} {rest found f r : P}, qdivL b k rest found = some (f, r) → f.length = found.length
  | 0, rest, found, f, r, h => by
    unfold qdivL at h
    split at h
    · cases h; rfl
    · cases h
  | k + 1, rest, found, f, r, h => by
    unfold qdivL at h
    split at h
    · cases h; rfl
    · split at h
      · split at h
        · cases h
        · split at h
          · cases h
          · split at h
            · cases h
            · rw [qdivL_length h, List.length_set]
      · cases h


section
variable {G : GC} (T : Tops G)
include T

theorem sp_qmonic {p q : P} (h : qmonicM p = some q) : FnSpec G 4 (Str.ofString "qmonic") [encP p] (encP q) := by
  unfold qmonicM at h
  split at h
  · rename_i hz
    split at h
    · rename_i h0
      split at h
      · cases h
      · rename_i _ i hi
        exact FnSpec.at 34 T.defs (by decide +kernel) (by decide +kernel) ⟨_, (ES.ret (ES1.ret (EE.ite_t (ET.conv (ET.igt (EE.bcall 1 (bs_len_m (by first | exact sm (by assumption) | lia)) (.b _) (by decide) boot_len rfl (EEs.cons (EE.name 0 rfl rfl) EEs.nil)) EE.int) (by simpa using h0)) (EE.call 2 (sp_qscale T h) (by decide) rfl (EEs.cons (EE.name 0 rfl rfl) (EEs.cons (EE.call 3 (sp_rinv T.defs hi) (by decide) rfl (EEs.cons (EE.item_l' (EE.name 0 rfl rfl) (EE.neg EE.int) (itlast r0 h0 (by lia))) EEs.nil)) EEs.nil))))))⟩
    · rename_i h0
      cases h
      exact FnSpec.at 34 T.defs (by decide +kernel) (by decide +kernel) ⟨_, (ES.ret (ES1.ret (EE.ite_f (ET.conv (ET.igt (EE.bcall 1 (bs_len_m (by first | exact sm (by assumption) | lia)) (.b _) (by decide) boot_len rfl (EEs.cons (EE.name 0 rfl rfl) EEs.nil)) EE.int) (by simpa using h0)) (EF.val (EF.list EEs.nil)))))⟩
  · cases h

noncomputable abbrev stD (A : Slot) (b : P) (ad : Addr) (rest found : P) (s4 s5 s6 : Slot) (r : St) : St := A :: .val (encP b) :: .val (encP rest) :: .own ad (found.map encR) :: s4 :: s5 :: s6 :: r

omit T in
theorem qdivL_loop {n : Nat} {A : Slot} {b : P} {ad : Addr} {r : St} {test : Expr} {body : List Stmt}
    (h0 : ∀ (rest found : P) (s4 s5 s6 : Slot), rest.length < b.length → ET G n (scAt 33) (stD A b ad rest found s4 s5 s6 r) test false (stD A b ad rest found s4 s5 s6 r))
    (h1 : ∀ (rest found : P) (s4 s5 s6 : Slot), ¬ rest.length < b.length → small rest → ET G n (scAt 33) (stD A b ad rest found s4 s5 s6 r) test true (stD A b ad rest found s4 s5 s6 r))
    (hb : ∀ (rest found sc low : P) (num : R) (s4 s5 s6 : Slot), ¬ rest.length < b.length → small rest → rest.length - b.length < found.length → found.length ≤ 1000 → rdivM (qlast rest) (qlast b) = some num → qscaleM (b.take (b.length - 1)) num = some sc →
      qsubM (rest.take (rest.length - 1)) (qraise sc (rest.length - b.length)) = some low →
      ∃ s4' s5' s6', ES G n (scAt 33) (stD A b ad rest found s4 s5 s6 r) body .next (stD A b ad low (found.set (rest.length - b.length) num) s4' s5' s6' r)) :
    ∀ (k : Nat) (rest found : P) (f' r' : P) (s4 s5 s6 : Slot), qdivL b k rest found = some (f', r') → found.length ≤ 1000 → (rest.length < b.length → small rest → True) →
      ∃ s4' s5' s6', EW G n (scAt 33) (stD A b ad rest found s4 s5 s6 r) test body .next (stD A b ad r' f' s4' s5' s6' r)
  | 0, rest, found, f', r', s4, s5, s6, h, hz, _ => by
    unfold qdivL at h
    split at h
    · rename_i hq
      cases h
      exact ⟨_, _, _, EW.done (h0 _ _ _ _ _ hq)⟩
    · cases h
  | k + 1, rest, found, f', r', s4, s5, s6, h, hz, _ => by
    unfold qdivL at h
    split at h
    · rename_i hq
      cases h
      exact ⟨_, _, _, EW.done (h0 _ _ _ _ _ hq)⟩
    · rename_i hq
      split at h
      · rename_i hg
        split at h
        · cases h
        · rename_i _ num h2
          split at h
          · cases h
          · rename_i _ sc h3
            split at h
            · cases h
            · rename_i _ low h4
              obtain ⟨t4, t5, t6, B⟩ := hb rest found sc low num s4 s5 s6 hq hg.1 hg.2 hz h2 h3 h4
              obtain ⟨u4, u5, u6, L⟩ := qdivL_loop h0 h1 hb k low _ f' r' t4 t5 t6 h (by rw [List.length_set]; exact hz) (fun _ _ => trivial)
              exact ⟨u4, u5, u6, EW.step (h1 _ _ _ _ _ hq hg.1) B L⟩
      · cases h

theorem sp_qdivmod {a b : P} {f : F} (h : qdivmodM a b = some f) : FnSpec G 5 (Str.ofString "qdivmod") [encP a, encP b] (encF f) := by
  unfold qdivmodM at h
  split at h
  · rename_i hz
    obtain ⟨hza, hzb, hb0⟩ := hz
    split at h
    · cases h
    · rename_i _ q r' hL
      split at h
      · rename_i hzr
        cases h
        exact FnSpec.at 33 T.defs (by decide +kernel) (by decide +kernel) ⟨_, (ES.cons (ES1.if_f (ET.conv (ET.ieq (EE.bcall 7 (bs_len_m (by first | exact sm (by assumption) | lia)) (.b _) (by decide) boot_len rfl (EEs.cons (EE.name 1 rfl rfl) EEs.nil)) EE.int) (by simpa using hb0)) ES.nil) (ES.assign_swap_own (ys1 := [Str.ofString "rest"]) (ys2 := []) 3 (EEsO.cons (EF.val (EF.list_of_m 9 (EE.name 0 rfl rfl) rfl (sm hza))) (EEsO.own (EF.list_mul_m (EF.val (EF.list (EEs.cons (EE.glob 10 rfl T.R0) EEs.nil))) (EE.bcall 11 (bs_max ) (.b _) (by decide) boot_max rfl (EEs.cons EE.int (EEs.cons (EE.add (EE.sub (EE.bcall 7 (bs_len_m (by first | exact sm (by assumption) | lia)) (.b _) (by decide) boot_len rfl (EEs.cons (EE.name 0 rfl rfl) EEs.nil)) (EE.bcall 7 (bs_len_m (by first | exact sm (by assumption) | lia)) (.b _) (by decide) boot_len rfl (EEs.cons (EE.name 1 rfl rfl) EEs.nil))) EE.int) EEs.nil))) (show _ = a.length + 1 - b.length by split <;> lia) (by lia) (by split <;> lia)) EEs.nil)) .nil (fun _ => (.cons 2 _ rfl (by decide) .nil)) (fun ad => ES.forget (by
          obtain ⟨s4, s5, s6, L⟩ := qdivL_loop (G := G) (n := 5) (A := .val (encP a)) (b := b) (ad := ad) (r := [.unset, .unset, .unset, .unset, .unset]) (test := loopTest (stAt 33 2)) (body := loopBody (stAt 33 2))
            (fun rest found s4 s5 s6 hq => (ET.conv (ET.ige (EE.bcall 7 (bs_len_m (by first | exact sm (by assumption) | lia)) (.b _) (by decide) boot_len rfl (EEs.cons (EE.name 2 rfl rfl) EEs.nil)) (EE.bcall 7 (bs_len_m (by first | exact sm (by assumption) | lia)) (.b _) (by decide) boot_len rfl (EEs.cons (EE.name 1 rfl rfl) EEs.nil))) (by simp; lia)))
            (fun rest found s4 s5 s6 hq hs => (ET.conv (ET.ige (EE.bcall 7 (bs_len_m (by first | exact sm (by assumption) | lia)) (.b _) (by decide) boot_len rfl (EEs.cons (EE.name 2 rfl rfl) EEs.nil)) (EE.bcall 7 (bs_len_m (by first | exact sm (by assumption) | lia)) (.b _) (by decide) boot_len rfl (EEs.cons (EE.name 1 rfl rfl) EEs.nil))) (by simp; lia)))
            (fun rest found sc low num s4 s5 s6 hq hs hp hzf h2 h3 h4 => ⟨_, _, _, (ES.cons (ES1.assign_swap (ys := [Str.ofString "number", Str.ofString "power"]) (EEs.cons (EE.call 12 (sp_rdiv T.defs h2) (by decide) rfl (EEs.cons (EE.item_l' (EE.name 2 rfl rfl) (EE.neg EE.int) (itlast r0 (by lia) (sm hs))) (EEs.cons (EE.item_l' (EE.name 1 rfl rfl) (EE.neg EE.int) (itlast r0 (Nat.pos_of_ne_zero hb0) (sm hzb))) EEs.nil))) (EEs.cons (EE.conv (EE.sub (EE.bcall 7 (bs_len_m (by first | exact sm (by assumption) | lia)) (.b _) (by decide) boot_len rfl (EEs.cons (EE.name 2 rfl rfl) EEs.nil)) (EE.bcall 7 (bs_len_m (by first | exact sm (by assumption) | lia)) (.b _) (by decide) boot_len rfl (EEs.cons (EE.name 1 rfl rfl) EEs.nil))) (congrArg D.int (show _ = ((rest.length - b.length : Nat) : Int) by lia))) EEs.nil)) (.cons 5 _ rfl (by decide) (.cons 4 _ rfl (by decide) .nil)) rfl) (ES.cons (ES1.store_item_m 3 (rest.length - b.length) (EE.name 4 rfl rfl) rfl rfl (EE.name 5 rfl rfl) rfl rfl hp hzf) (ES.cons (ES1.assign 6 (EE.call 13 (sp_qsub T h4 (Nat.le_trans (qraise_length _ _) (by have := qscale_length h3; rw [List.length_take] at this; lia))) (by decide) rfl (EEs.cons (EE.slice_last_m (EE.name 2 rfl rfl) (EE.neg EE.int) (by lia)) (EEs.cons (EE.call 14 (sp_qraise T (Nat.le_trans (qscale_length h3) (by rw [List.length_take]; lia)) (by lia)) (by decide) rfl (EEs.cons (EE.call 15 (sp_qscale T h3) (by decide) rfl (EEs.cons (EE.slice_last_m (EE.name 1 rfl rfl) (EE.neg EE.int) (by lia)) (EEs.cons (EE.name 4 rfl rfl) EEs.nil))) (EEs.cons (EE.name 5 rfl rfl) EEs.nil))) EEs.nil)))) (ES.cons (ES1.assign 2 (EE.name 6 rfl rfl)) ES.nil))))⟩)
            (a.length + 1) a _ q r' .unset .unset .unset hL (by rw [List.length_replicate]; lia) (fun _ _ => trivial)
          have hql := qdivL_length hL
          rw [List.length_replicate] at hql
          exact ES.forget (ES.cons (ES1.while L) (ES.ret (ES1.ret (EE.tuple (EEs.cons (EE.call 16 (sp_qtrim T (show q.length ≤ 1000 by lia)) (by decide) rfl (EEs.cons (EE.name_own 3 rfl rfl) EEs.nil)) (EEs.cons (EE.name 2 rfl rfl) EEs.nil))))))))))⟩
      · cases h
  · cases h
end
end Mine

end -- WE
section -- WF
open PySem PySem.W PyProof.Rows PySem.Calls
set_option maxRecDepth 100000
set_option linter.unusedVariables false
set_option linter.unusedSectionVars false
namespace Mine

noncomputable def fmakeM (top bottom : P) : Option F :=
  if small top ∧ small bottom ∧ bottom.length ≠ 0 then
    (if top.length = 0 then some ([], [r1]) else
      match qgcdM top bottom with
      | none => none
      | some c => if small c then
        (if 1 < c.length then
          match qdivmodM top c with
          | none => none
          | some t => match qdivmodM bottom c with
            | none => none
            | some b => if small t.1 ∧ small b.1 then
              match rinvM (qlast b.1) with
              | none => none
              | some s => match qscaleM t.1 s with
                | none => none
                | some x => match qscaleM b.1 s with
                  | none => none
                  | some y => some (x, y)
              else none
        else match rinvM (qlast bottom) with
          | none => none
          | some s => match qscaleM top s with
            | none => none
            | some x => match qscaleM bottom s with
              | none => none
              | some y => some (x, y))
        else none)
  else none
noncomputable def fnumber (r : R) : F := (if r = r0 then [] else [r], [r1])
noncomputable def faddM (f g : F) : Option F := match qmulM f.1 g.2 with
  | none => none
  | some a => match qmulM g.1 f.2 with
    | none => none
    | some b => match qaddM a b with
      | none => none
      | some c => match qmulM f.2 g.2 with
        | none => none
        | some d => fmakeM c d
noncomputable def fmulM (f g : F) : Option F := match qmulM f.1 g.1 with
  | none => none
  | some a => match qmulM f.2 g.2 with
    | none => none
    | some b => fmakeM a b
noncomputable def finvM (f : F) : Option F := fmakeM f.2 f.1
noncomputable def fdivM (f g : F) : Option F := match qmulM f.1 g.2 with
  | none => none
  | some a => match qmulM f.2 g.1 with
    | none => none
    | some b => fmakeM a b
noncomputable def fatM (f : F) (r : R) : Option (Option R) := if small f.1 ∧ small f.2 then
    match qatM f.2 r with
    | none => none
    | some b => if b = r0 then some none else
      match qatM f.1 r with
      | none => none
      | some a => match rdivM a b with
        | none => none
        | some v => some (some v)
  else none
noncomputable abbrev encO : Option R → D
  | none => .none
  | some r => encR r

theorem deq_R (a b : R) : deq (encR a) (encR b) = decide (a = b) := by
  obtain ⟨a1, a2⟩ := a
  obtain ⟨b1, b2⟩ := b
  show ((a1 == b1) && ((a2 == b2) && true)) = _
  rw [Bool.and_true, Bool.eq_iff_iff]
  simp

section
variable {G : GC} (T : Tops G)
include T

omit T in
theorem qgcdL_loop {n : Nat} {r : St} {test : Expr} {body : List Stmt}
    (h0 : ∀ (a b : P), b.length = 0 → ET G n (scAt 35) (.val (encP a) :: .val (encP b) :: r) test false (.val (encP a) :: .val (encP b) :: r))
    (h1 : ∀ (a b : P), b.length ≠ 0 → small b → ET G n (scAt 35) (.val (encP a) :: .val (encP b) :: r) test true (.val (encP a) :: .val (encP b) :: r))
    (hb : ∀ (a b q r' m : P), qdivmodM a b = some (q, r') → qmonicM r' = some m → ES G n (scAt 35) (.val (encP a) :: .val (encP b) :: r) body .next (.val (encP b) :: .val (encP m) :: r)) :
    ∀ (k : Nat) (a b g : P), qgcdL k a b = some g → ∃ b', EW G n (scAt 35) (.val (encP a) :: .val (encP b) :: r) test body .next (.val (encP g) :: .val (encP b') :: r)
  | 0, a, b, g, h => by
    unfold qgcdL at h
    split at h
    · rename_i hq; cases h; exact ⟨_, EW.done (h0 _ _ hq)⟩
    · cases h
  | k + 1, a, b, g, h => by
    unfold qgcdL at h
    split at h
    · rename_i hq; cases h; exact ⟨_, EW.done (h0 _ _ hq)⟩
    · rename_i hq
      split at h
      · rename_i hs
        split at h
        · cases h
        · rename_i _ q r' h2
          split at h
          · cases h
          · rename_i _ m h3
            obtain ⟨b', L⟩ := qgcdL_loop h0 h1 hb k b m g h
            exact ⟨b', EW.step (h1 a b hq hs) (hb a b q r' m h2 h3) L⟩
      · cases h

theorem sp_qgcd {a b c : P} (h : qgcdM a b = some c) : FnSpec G 6 (Str.ofString "qgcd") [encP a, encP b] (encP c) := by
  unfold qgcdM at h
  split at h
  · cases h
  · rename_i _ g hg
    obtain ⟨b', L⟩ := qgcdL_loop (G := G) (n := 6) (r := List.replicate 10 .unset) (test := loopTest (stAt 35 0)) (body := loopBody (stAt 35 0))
      (fun a b hq => (ET.conv (ET.igt (EE.bcall 2 (bs_len_m (by first | exact sm (by assumption) | lia)) (.b _) (by decide) boot_len rfl (EEs.cons (EE.name 1 rfl rfl) EEs.nil)) EE.int) (by simpa using hq))) (fun a b hq hs => (ET.conv (ET.igt (EE.bcall 2 (bs_len_m (by first | exact sm (by assumption) | lia)) (.b _) (by decide) boot_len rfl (EEs.cons (EE.name 1 rfl rfl) EEs.nil)) EE.int) (by simp; lia))) (fun a b q r' m h2 h3 => (ES.cons (ES1.assign_swap (ys := [Str.ofString "a", Str.ofString "b"]) (EEs.cons (EE.name 1 rfl rfl) (EEs.cons (EE.call 3 (sp_qmonic T h3) (by decide) rfl (EEs.cons (EE.item_t (EE.call 4 (sp_qdivmod T h2) (by decide) rfl (EEs.cons (EE.name 0 rfl rfl) (EEs.cons (EE.name 1 rfl rfl) EEs.nil))) EE.int rfl rfl (Nat.le_of_ble_eq_true rfl)) EEs.nil)) EEs.nil)) (.cons 1 _ rfl (by decide) (.cons 0 _ rfl (by decide) .nil)) rfl) ES.nil)) _ a b g hg
    exact FnSpec.at 35 T.defs (by decide +kernel) (by decide +kernel) ⟨_, ES.cons (ES1.while L) (ES.ret (ES1.ret (EE.call 3 (sp_qmonic T h) (by decide) rfl (EEs.cons (EE.name 0 rfl rfl) EEs.nil))))⟩

omit T in
theorem qatL_loop {n : Nat} {A B : Slot} {r : R} {st : St} {body : List Stmt} {p1 : Pos}
    (hb : ∀ (f x m s : R), rmulM f r = some m → raddM m x = some s → ES G n (scAt 36) (A :: B :: .val (encR f) :: .val (encR x) :: st) body .next (A :: B :: .val (encR s) :: .val (encR x) :: st)) :
    ∀ (xs : List R) (f g : R) (s3 : Slot), qatL r xs f = some g → ∃ s3', EFo G n (scAt 36) (A :: B :: .val (encR f) :: s3 :: st) (.Name (Str.ofString "number") p1) body (xs.map encR) .next (A :: B :: .val (encR g) :: s3' :: st)
  | [], f, g, s3, h => by cases h; exact ⟨_, EFo.nil⟩
  | x :: xs, f, g, s3, h => by
    unfold qatL at h
    split at h
    · cases h
    · rename_i _ m h1
      split at h
      · cases h
      · rename_i _ s h2
        obtain ⟨s3', L⟩ := qatL_loop hb xs s g (.val (encR x)) h
        exact ⟨s3', EFo.cons 3 rfl (by decide) (hb f x m s h1 h2) L⟩

theorem sp_qat {p : P} {r v : R} (h : qatM p r = some v) (hz : small p) : FnSpec G 3 (Str.ofString "qat") [encP p, encR r] (encR v) := by
  obtain ⟨s3, L⟩ := qatL_loop (G := G) (n := 3) (A := .val (encP p)) (B := .val (encR r)) (st := List.replicate 8 .unset) (body := loopBody (stAt 36 1)) (fun f x m s h1 h2 => (ES.cons (ES1.assign 2 (EE.call 6 (sp_radd T.defs h2) (by decide) rfl (EEs.cons (EE.call 7 (sp_rmul T.defs h1) (by decide) rfl (EEs.cons (EE.name 2 rfl rfl) (EEs.cons (EE.name 1 rfl rfl) EEs.nil))) (EEs.cons (EE.name 3 rfl rfl) EEs.nil)))) ES.nil)) p.reverse r0 v .unset h
  exact FnSpec.at 36 T.defs (by decide +kernel) (by decide +kernel) ⟨_, (ES.cons (ES1.assign 2 (EE.glob 4 rfl T.R0)) (ES.cons (ES1.for (EI.reversed_m 5 (EE.name 0 rfl rfl) rfl) L) (ES.ret (ES1.ret (EE.name 2 rfl rfl)))))⟩

theorem sp_fmake {a b : P} {f : F} (h : fmakeM a b = some f) : FnSpec G 7 (Str.ofString "fmake") [encP a, encP b] (encF f) := by
  unfold fmakeM at h
  split at h
  · rename_i hz
    obtain ⟨hza, hzb, hb0⟩ := hz
    split at h
    · rename_i h0
      cases h
      exact FnSpec.at 40 T.defs (by decide +kernel) (by decide +kernel) ⟨_, (ES.cons (ES1.if_f (ET.conv (ET.eq (EE.name 1 rfl rfl) (EF.val (EF.list EEs.nil)) (by decide +kernel)) ((deq_nil b).trans (by simpa using hb0))) ES.nil) (ES.ret (ES1.if_t (ET.conv (ET.eq (EE.name 0 rfl rfl) (EF.val (EF.list EEs.nil)) (by decide +kernel)) ((deq_nil a).trans (by simpa using h0))) (ES.ret (ES1.ret (EE.glob 5 rfl T.F0))))))⟩
    · rename_i h0
      split at h
      · cases h
      · rename_i _ c hc
        split at h
        · rename_i hzc
          split at h
          · rename_i h1
            split at h
            · cases h
            · rename_i _ t ht
              split at h
              · cases h
              · rename_i _ q hq
                split at h
                · rename_i hzt
                  split at h
                  · cases h
                  · rename_i _ s hs
                    split at h
                    · cases h
                    · rename_i _ x hx
                      split at h
                      · cases h
                      · rename_i _ y hy
                        cases h
                        exact FnSpec.at 40 T.defs (by decide +kernel) (by decide +kernel) ⟨_, (ES.cons (ES1.if_f (ET.conv (ET.eq (EE.name 1 rfl rfl) (EF.val (EF.list EEs.nil)) (by decide +kernel)) ((deq_nil b).trans (by simpa using hb0))) ES.nil) (ES.cons (ES1.if_f (ET.conv (ET.eq (EE.name 0 rfl rfl) (EF.val (EF.list EEs.nil)) (by decide +kernel)) ((deq_nil a).trans (by simpa using h0))) ES.nil) (ES.cons (ES1.assign 2 (EE.call 6 (sp_qgcd T hc) (by decide) rfl (EEs.cons (EE.name 0 rfl rfl) (EEs.cons (EE.name 1 rfl rfl) EEs.nil)))) (ES.cons (ES1.if_t (ET.conv (ET.igt (EE.call 7 (sp_qdegree T hzc) (by decide) rfl (EEs.cons (EE.name 2 rfl rfl) EEs.nil)) EE.int) (by simp; lia)) (ES.cons (ES1.assign_swap (ys := [Str.ofString "top", Str.ofString "bottom"]) (EEs.cons (EE.item_t (EE.call 8 (sp_qdivmod T ht) (by decide) rfl (EEs.cons (EE.name 0 rfl rfl) (EEs.cons (EE.name 2 rfl rfl) EEs.nil))) EE.int rfl rfl (Nat.le_of_ble_eq_true rfl)) (EEs.cons (EE.item_t (EE.call 8 (sp_qdivmod T hq) (by decide) rfl (EEs.cons (EE.name 1 rfl rfl) (EEs.cons (EE.name 2 rfl rfl) EEs.nil))) EE.int rfl rfl (Nat.le_of_ble_eq_true rfl)) EEs.nil)) (.cons 1 _ rfl (by decide) (.cons 0 _ rfl (by decide) .nil)) rfl) ES.nil)) (ES.cons (ES1.assign 3 (EE.call 9 (sp_rinv T.defs hs) (by decide) rfl (EEs.cons (EE.call 10 (sp_qlead T hzt.2) (by decide) rfl (EEs.cons (EE.name 1 rfl rfl) EEs.nil)) EEs.nil))) (ES.ret (ES1.ret (EE.tuple (EEs.cons (EE.call 11 (sp_qscale T hx) (by decide) rfl (EEs.cons (EE.name 0 rfl rfl) (EEs.cons (EE.name 3 rfl rfl) EEs.nil))) (EEs.cons (EE.call 11 (sp_qscale T hy) (by decide) rfl (EEs.cons (EE.name 1 rfl rfl) (EEs.cons (EE.name 3 rfl rfl) EEs.nil))) EEs.nil))))))))))⟩
                · cases h
          · rename_i h1
            split at h
            · cases h
            · rename_i _ s hs
              split at h
              · cases h
              · rename_i _ x hx
                split at h
                · cases h
                · rename_i _ y hy
                  cases h
                  exact FnSpec.at 40 T.defs (by decide +kernel) (by decide +kernel) ⟨_, (ES.cons (ES1.if_f (ET.conv (ET.eq (EE.name 1 rfl rfl) (EF.val (EF.list EEs.nil)) (by decide +kernel)) ((deq_nil b).trans (by simpa using hb0))) ES.nil) (ES.cons (ES1.if_f (ET.conv (ET.eq (EE.name 0 rfl rfl) (EF.val (EF.list EEs.nil)) (by decide +kernel)) ((deq_nil a).trans (by simpa using h0))) ES.nil) (ES.cons (ES1.assign 2 (EE.call 6 (sp_qgcd T hc) (by decide) rfl (EEs.cons (EE.name 0 rfl rfl) (EEs.cons (EE.name 1 rfl rfl) EEs.nil)))) (ES.cons (ES1.if_f (ET.conv (ET.igt (EE.call 7 (sp_qdegree T hzc) (by decide) rfl (EEs.cons (EE.name 2 rfl rfl) EEs.nil)) EE.int) (by simp; lia)) ES.nil) (ES.cons (ES1.assign 3 (EE.call 9 (sp_rinv T.defs hs) (by decide) rfl (EEs.cons (EE.call 10 (sp_qlead T hzb) (by decide) rfl (EEs.cons (EE.name 1 rfl rfl) EEs.nil)) EEs.nil))) (ES.ret (ES1.ret (EE.tuple (EEs.cons (EE.call 11 (sp_qscale T hx) (by decide) rfl (EEs.cons (EE.name 0 rfl rfl) (EEs.cons (EE.name 3 rfl rfl) EEs.nil))) (EEs.cons (EE.call 11 (sp_qscale T hy) (by decide) rfl (EEs.cons (EE.name 1 rfl rfl) (EEs.cons (EE.name 3 rfl rfl) EEs.nil))) EEs.nil))))))))))⟩
        · cases h
  · cases h

theorem sp_fnumber (r : R) : FnSpec G 0 (Str.ofString "fnumber") [encR r] (encF (fnumber r)) := by
  unfold fnumber
  by_cases h : r = r0
  · rw [if_pos h]
    exact FnSpec.at 41 T.defs (by decide +kernel) (by decide +kernel) ⟨_, (ES.ret (ES1.ret (EE.tuple (EEs.cons (EE.ite_t (ET.conv (ET.eq (EE.name 0 rfl rfl) (EE.glob 1 rfl T.R0) (by decide +kernel)) ((deq_R r r0).trans (by simpa using h))) (EF.val (EF.list EEs.nil))) (EEs.cons (EF.val (EF.list (EEs.cons (EE.glob 2 rfl T.R1) EEs.nil))) EEs.nil)))))⟩
  · rw [if_neg h]
    exact FnSpec.at 41 T.defs (by decide +kernel) (by decide +kernel) ⟨_, (ES.ret (ES1.ret (EE.tuple (EEs.cons (EE.ite_f (ET.conv (ET.eq (EE.name 0 rfl rfl) (EE.glob 1 rfl T.R0) (by decide +kernel)) ((deq_R r r0).trans (by simpa using h))) (EF.val (EF.list (EEs.cons (EE.name 0 rfl rfl) EEs.nil)))) (EEs.cons (EF.val (EF.list (EEs.cons (EE.glob 2 rfl T.R1) EEs.nil))) EEs.nil)))))⟩
theorem sp_is_poly {f : F} (hz : small f.2) : FnSpec G 1 (Str.ofString "is_poly") [encF f] (.bool (((f.2.length : Int) - 1) == 0)) :=
  FnSpec.at 42 T.defs (by decide +kernel) (by decide +kernel) ⟨_, (ES.ret (ES1.ret (EE.ieq (EE.call 1 (sp_qdegree T hz) (by decide) rfl (EEs.cons (EE.item_t (EE.name 0 rfl rfl) EE.int rfl rfl (Nat.le_of_ble_eq_true rfl)) EEs.nil)) EE.int)))⟩
theorem sp_fadd {f g r : F} (h : faddM f g = some r) : FnSpec G 8 (Str.ofString "fadd") [encF f, encF g] (encF r) := by
  unfold faddM at h
  split at h
  · cases h
  · rename_i _ a ha
    split at h
    · cases h
    · rename_i _ b hb
      split at h
      · cases h
      · rename_i _ c hc
        split at h
        · cases h
        · rename_i _ d hd
          exact FnSpec.at 43 T.defs (by decide +kernel) (by decide +kernel) ⟨_, (ES.ret (ES1.ret (EE.call 2 (sp_fmake T h) (by decide) rfl (EEs.cons (EE.call 3 (sp_qadd T hc) (by decide) rfl (EEs.cons (EE.call 4 (sp_qmul T ha) (by decide) rfl (EEs.cons (EE.item_t (EE.name 0 rfl rfl) EE.int rfl rfl (Nat.le_of_ble_eq_true rfl)) (EEs.cons (EE.item_t (EE.name 1 rfl rfl) EE.int rfl rfl (Nat.le_of_ble_eq_true rfl)) EEs.nil))) (EEs.cons (EE.call 4 (sp_qmul T hb) (by decide) rfl (EEs.cons (EE.item_t (EE.name 1 rfl rfl) EE.int rfl rfl (Nat.le_of_ble_eq_true rfl)) (EEs.cons (EE.item_t (EE.name 0 rfl rfl) EE.int rfl rfl (Nat.le_of_ble_eq_true rfl)) EEs.nil))) EEs.nil))) (EEs.cons (EE.call 4 (sp_qmul T hd) (by decide) rfl (EEs.cons (EE.item_t (EE.name 0 rfl rfl) EE.int rfl rfl (Nat.le_of_ble_eq_true rfl)) (EEs.cons (EE.item_t (EE.name 1 rfl rfl) EE.int rfl rfl (Nat.le_of_ble_eq_true rfl)) EEs.nil))) EEs.nil)))))⟩
theorem sp_fmul {f g r : F} (h : fmulM f g = some r) : FnSpec G 8 (Str.ofString "fmul") [encF f, encF g] (encF r) := by
  unfold fmulM at h
  split at h
  · cases h
  · rename_i _ a ha
    split at h
    · cases h
    · rename_i _ b hb
      exact FnSpec.at 44 T.defs (by decide +kernel) (by decide +kernel) ⟨_, (ES.ret (ES1.ret (EE.call 2 (sp_fmake T h) (by decide) rfl (EEs.cons (EE.call 3 (sp_qmul T ha) (by decide) rfl (EEs.cons (EE.item_t (EE.name 0 rfl rfl) EE.int rfl rfl (Nat.le_of_ble_eq_true rfl)) (EEs.cons (EE.item_t (EE.name 1 rfl rfl) EE.int rfl rfl (Nat.le_of_ble_eq_true rfl)) EEs.nil))) (EEs.cons (EE.call 3 (sp_qmul T hb) (by decide) rfl (EEs.cons (EE.item_t (EE.name 0 rfl rfl) EE.int rfl rfl (Nat.le_of_ble_eq_true rfl)) (EEs.cons (EE.item_t (EE.name 1 rfl rfl) EE.int rfl rfl (Nat.le_of_ble_eq_true rfl)) EEs.nil))) EEs.nil)))))⟩
theorem sp_finv {f r : F} (h : finvM f = some r) : FnSpec G 8 (Str.ofString "finv") [encF f] (encF r) :=
  FnSpec.at 45 T.defs (by decide +kernel) (by decide +kernel) ⟨_, (ES.ret (ES1.ret (EE.call 1 (sp_fmake T h) (by decide) rfl (EEs.cons (EE.item_t (EE.name 0 rfl rfl) EE.int rfl rfl (Nat.le_of_ble_eq_true rfl)) (EEs.cons (EE.item_t (EE.name 0 rfl rfl) EE.int rfl rfl (Nat.le_of_ble_eq_true rfl)) EEs.nil)))))⟩
theorem sp_fdiv {f g r : F} (h : fdivM f g = some r) : FnSpec G 8 (Str.ofString "fdiv") [encF f, encF g] (encF r) := by
  unfold fdivM at h
  split at h
  · cases h
  · rename_i _ a ha
    split at h
    · cases h
    · rename_i _ b hb
      exact FnSpec.at 46 T.defs (by decide +kernel) (by decide +kernel) ⟨_, (ES.ret (ES1.ret (EE.call 2 (sp_fmake T h) (by decide) rfl (EEs.cons (EE.call 3 (sp_qmul T ha) (by decide) rfl (EEs.cons (EE.item_t (EE.name 0 rfl rfl) EE.int rfl rfl (Nat.le_of_ble_eq_true rfl)) (EEs.cons (EE.item_t (EE.name 1 rfl rfl) EE.int rfl rfl (Nat.le_of_ble_eq_true rfl)) EEs.nil))) (EEs.cons (EE.call 3 (sp_qmul T hb) (by decide) rfl (EEs.cons (EE.item_t (EE.name 0 rfl rfl) EE.int rfl rfl (Nat.le_of_ble_eq_true rfl)) (EEs.cons (EE.item_t (EE.name 1 rfl rfl) EE.int rfl rfl (Nat.le_of_ble_eq_true rfl)) EEs.nil))) EEs.nil)))))⟩
theorem sp_fat {f : F} {r : R} {v : Option R} (h : fatM f r = some v) : FnSpec G 4 (Str.ofString "fat") [encF f, encR r] (encO v) := by
  unfold fatM at h
  split at h
  · rename_i hz
    split at h
    · cases h
    · rename_i _ b hb
      split at h
      · rename_i h0
        cases h
        exact FnSpec.at 48 T.defs (by decide +kernel) (by decide +kernel) ⟨_, (ES.cons (ES1.assign 2 (EE.call 3 (sp_qat T hb hz.2) (by decide) rfl (EEs.cons (EE.item_t (EE.name 0 rfl rfl) EE.int rfl rfl (Nat.le_of_ble_eq_true rfl)) (EEs.cons (EE.name 1 rfl rfl) EEs.nil)))) (ES.ret (ES1.ret (EE.ite_t (ET.conv (ET.eq (EE.name 2 rfl rfl) (EE.glob 4 rfl T.R0) (by decide +kernel)) ((deq_R b r0).trans (by simpa using h0))) EE.none))))⟩
      · rename_i h0
        split at h
        · cases h
        · rename_i _ a ha
          split at h
          · cases h
          · rename_i _ w hw
            cases h
            exact FnSpec.at 48 T.defs (by decide +kernel) (by decide +kernel) ⟨_, (ES.cons (ES1.assign 2 (EE.call 3 (sp_qat T hb hz.2) (by decide) rfl (EEs.cons (EE.item_t (EE.name 0 rfl rfl) EE.int rfl rfl (Nat.le_of_ble_eq_true rfl)) (EEs.cons (EE.name 1 rfl rfl) EEs.nil)))) (ES.ret (ES1.ret (EE.ite_f (ET.conv (ET.eq (EE.name 2 rfl rfl) (EE.glob 4 rfl T.R0) (by decide +kernel)) ((deq_R b r0).trans (by simpa using h0))) (EE.call 5 (sp_rdiv T.defs hw) (by decide) rfl (EEs.cons (EE.call 3 (sp_qat T ha hz.1) (by decide) rfl (EEs.cons (EE.item_t (EE.name 0 rfl rfl) EE.int rfl rfl (Nat.le_of_ble_eq_true rfl)) (EEs.cons (EE.name 1 rfl rfl) EEs.nil))) (EEs.cons (EE.name 2 rfl rfl) EEs.nil)))))))⟩
  · cases h
theorem sp_fdegree {f : F} (hz : small f.1 ∧ small f.2) : FnSpec G 1 (Str.ofString "fdegree") [encF f] (if f.1.length = 0 then .none else .int ((f.1.length : Int) - 1 - ((f.2.length : Int) - 1))) := by
  by_cases h : f.1.length = 0
  · rw [if_pos h]
    exact FnSpec.at 51 T.defs (by decide +kernel) (by decide +kernel) ⟨_, (ES.ret (ES1.ret (EE.ite_t (ET.conv (ET.eq (EE.item_t (EE.name 0 rfl rfl) EE.int rfl rfl (Nat.le_of_ble_eq_true rfl)) (EF.val (EF.list EEs.nil)) (by decide +kernel)) ((deq_nil f.1).trans (by simpa using h))) EE.none)))⟩
  · rw [if_neg h]
    exact FnSpec.at 51 T.defs (by decide +kernel) (by decide +kernel) ⟨_, (ES.ret (ES1.ret (EE.ite_f (ET.conv (ET.eq (EE.item_t (EE.name 0 rfl rfl) EE.int rfl rfl (Nat.le_of_ble_eq_true rfl)) (EF.val (EF.list EEs.nil)) (by decide +kernel)) ((deq_nil f.1).trans (by simpa using h))) (EE.sub (EE.call 1 (sp_qdegree T hz.1) (by decide) rfl (EEs.cons (EE.item_t (EE.name 0 rfl rfl) EE.int rfl rfl (Nat.le_of_ble_eq_true rfl)) EEs.nil)) (EE.call 1 (sp_qdegree T hz.2) (by decide) rfl (EEs.cons (EE.item_t (EE.name 0 rfl rfl) EE.int rfl rfl (Nat.le_of_ble_eq_true rfl)) EEs.nil))))))⟩
end
end Mine

end -- WF
section -- WG
open PySem PySem.W PyProof.Rows PySem.Calls
set_option maxRecDepth 100000
set_option linter.unusedVariables false
set_option linter.unusedSectionVars false
namespace Mine

noncomputable def fsumL : List F → F → Option F
  | [], f => some f
  | x :: xs, f => match faddM f x with | none => none | some y => fsumL xs y
noncomputable def fsumM (l : List F) : Option F := fsumL l ([], [r1])
noncomputable def fcompL (g : F) : List R → F → Option F
  | [], f => some f
  | r :: rs, f => match fmulM f g with
    | none => none
    | some m => match faddM m (fnumber r) with
      | none => none
      | some s => fcompL g rs s
noncomputable def fcomposeM (f g : F) : Option F := if small f.1 ∧ small f.2 then
    match fcompL g f.1.reverse ([], [r1]) with
    | none => none
    | some a => match fcompL g f.2.reverse ([], [r1]) with
      | none => none
      | some b => fdivM a b
  else none
noncomputable def fsplitM (f : F) : Option F := qdivmodM f.1 f.2
noncomputable def fpowM1 (f : F) : Option F := match finvM f with | none => none | some b => fmulM ([r1], [r1]) b
noncomputable def plainL (pt : R) : List R → Int × Int → Option (Int × Int)
  | [], s => some s
  | x :: xs, s => if MulOk s.1 pt.1 ∧ MulOk (s.1 * pt.1) x.2 ∧ MulOk x.1 s.2 ∧ MulOk (x.1 * s.2) pt.2 ∧ MulOk s.2 pt.2 ∧ MulOk (s.2 * pt.2) x.2 then
      plainL pt xs (s.1 * pt.1 * x.2 + x.1 * s.2 * pt.2, s.2 * pt.2 * x.2)
    else none
noncomputable def plainM (row : P) (pt : R) : Option R := if small row then match plainL pt row.reverse (0, 1) with | none => none | some s => ratM s.1 s.2 else none
noncomputable def worthM (f : F) (pt : R) : Option (Option R) := match plainM f.2 pt with
  | none => none
  | some low => if low.1 = 0 then some none else match plainM f.1 pt with
    | none => none
    | some a => match rdivM a low with
      | none => none
      | some v => some (some v)

section
variable {G : GC} (T : Tops G)
include T

theorem sp_fpower {f b r : F} (h1 : finvM f = some b) (h2 : fmulM ([r1], [r1]) b = some r) : FnSpec G 9 (Str.ofString "fpower") [encF f, .int (-1)] (encF r) :=
  FnSpec.at 47 T.defs (by decide +kernel) (by decide +kernel) ⟨_, (ES.cons (ES1.assign_swap (ys := [Str.ofString "found", Str.ofString "base", Str.ofString "left"]) (EEs.cons (EE.glob 5 rfl T.F1) (EEs.cons (EE.ite_t (ET.conv (ET.ilt (EE.name 1 rfl rfl) EE.int) (by decide)) (EE.call 6 (sp_finv T h1) (by decide) rfl (EEs.cons (EE.name 0 rfl rfl) EEs.nil))) (EEs.cons (EE.bcall 7 (bs_abs ) (.b _) (by decide) boot_abs rfl (EEs.cons (EE.name 1 rfl rfl) EEs.nil)) EEs.nil))) (.cons 4 _ rfl (by decide) (.cons 3 _ rfl (by decide) (.cons 2 _ rfl (by decide) .nil))) rfl) (ES.cons (ES1.while (EW.step (ET.conv (ET.igt (EE.name 4 rfl rfl) EE.int) (by decide)) (ES.cons (ES1.if_t (ET.conv (ET.ieq (EE.mod (EE.name 4 rfl rfl) EE.int (by decide)) EE.int) (by decide)) (ES.cons (ES1.assign 2 (EE.call 8 (sp_fmul T h2) (by decide) rfl (EEs.cons (EE.name 2 rfl rfl) (EEs.cons (EE.name 3 rfl rfl) EEs.nil)))) ES.nil)) (ES.cons (ES1.assign_swap (ys := [Str.ofString "base", Str.ofString "left"]) (EEs.cons (EE.ite_f (ET.conv (ET.igt (EE.name 4 rfl rfl) EE.int) (by decide)) (EE.name 3 rfl rfl)) (EEs.cons (EE.floordiv (EE.name 4 rfl rfl) EE.int (by decide)) EEs.nil)) (.cons 4 _ rfl (by decide) (.cons 3 _ rfl (by decide) .nil)) rfl) ES.nil)) (EW.done (ET.conv (ET.igt (EE.name 4 rfl rfl) EE.int) (by decide))))) (ES.ret (ES1.ret (EE.name 2 rfl rfl)))))⟩

omit T in
theorem fsumL_loop {n : Nat} {A : Slot} {st : St} {body : List Stmt} {p1 : Pos}
    (hb : ∀ (f x y : F), faddM f x = some y → ES G n (scAt 49) (A :: .val (encF f) :: .val (encF x) :: st) body .next (A :: .val (encF y) :: .val (encF x) :: st)) :
    ∀ (xs : List F) (f g : F) (s2 : Slot), fsumL xs f = some g → ∃ s2', EFo G n (scAt 49) (A :: .val (encF f) :: s2 :: st) (.Name (Str.ofString "f") p1) body (xs.map encF) .next (A :: .val (encF g) :: s2' :: st)
  | [], f, g, s2, h => by cases h; exact ⟨_, EFo.nil⟩
  | x :: xs, f, g, s2, h => by
    unfold fsumL at h
    split at h
    · cases h
    · rename_i _ y h1
      obtain ⟨s2', L⟩ := fsumL_loop hb xs y g (.val (encF x)) h
      exact ⟨s2', EFo.cons 2 rfl (by decide) (hb f x y h1) L⟩
theorem sp_fsum {l : List F} {r : F} (h : fsumM l = some r) : FnSpec G 9 (Str.ofString "fsum") [.lst (l.map encF)] (encF r) := by
  obtain ⟨s2, L⟩ := fsumL_loop (G := G) (n := 9) (A := .val (.lst (l.map encF))) (st := List.replicate 8 .unset) (body := loopBody (stAt 49 1)) (fun f x y h1 => (ES.cons (ES1.assign 1 (EE.call 4 (sp_fadd T h1) (by decide) rfl (EEs.cons (EE.name 1 rfl rfl) (EEs.cons (EE.name 2 rfl rfl) EEs.nil)))) ES.nil)) l ([], [r1]) r .unset h
  exact FnSpec.at 49 T.defs (by decide +kernel) (by decide +kernel) ⟨_, (ES.cons (ES1.assign 1 (EE.glob 3 rfl T.F0)) (ES.cons (ES1.for (EI.list (EE.name 0 rfl rfl)) L) (ES.ret (ES1.ret (EE.name 1 rfl rfl)))))⟩

omit T in
theorem fcompL_loop {n : Nat} {A B C S3 : Slot} {g : F} {st : St} {body : List Stmt} {p1 : Pos}
    (hb : ∀ (f m s : F) (r : R), fmulM f g = some m → faddM m (fnumber r) = some s → ES G n (scAt 50) (A :: B :: C :: S3 :: .val (encF f) :: .val (encR r) :: st) body .next (A :: B :: C :: S3 :: .val (encF s) :: .val (encR r) :: st)) :
    ∀ (xs : List R) (f v : F) (s5 : Slot), fcompL g xs f = some v → ∃ s5', EFo G n (scAt 50) (A :: B :: C :: S3 :: .val (encF f) :: s5 :: st) (.Name (Str.ofString "r") p1) body (xs.map encR) .next (A :: B :: C :: S3 :: .val (encF v) :: s5' :: st)
  | [], f, v, s5, h => by cases h; exact ⟨_, EFo.nil⟩
  | x :: xs, f, v, s5, h => by
    unfold fcompL at h
    split at h
    · cases h
    · rename_i _ m h1
      split at h
      · cases h
      · rename_i _ s h2
        obtain ⟨s5', L⟩ := fcompL_loop hb xs s v (.val (encR x)) h
        exact ⟨s5', EFo.cons 5 rfl (by decide) (hb f m s x h1 h2) L⟩

theorem sp_fcompose {f g r : F} (h : fcomposeM f g = some r) : FnSpec G 9 (Str.ofString "fcompose") [encF f, encF g] (encF r) := by
  unfold fcomposeM at h
  split at h
  · rename_i hz
    split at h
    · cases h
    · rename_i _ a ha
      split at h
      · cases h
      · rename_i _ b hb
        exact FnSpec.at 50 T.defs (by decide +kernel) (by decide +kernel) ⟨_, (ES1.assign_own 2 (EF.list EEs.nil) (z := fun ad => ES.forget (by
          obtain ⟨s5, L1⟩ := fcompL_loop (G := G) (n := 9) (A := .val (encF f)) (B := .val (encF g)) (C := .own ad []) (S3 := .val (encP f.1)) (g := g) (st := List.replicate 6 .unset) (body := loopBody (stIn (loopBody (stAt 50 1)) 1))
            (fun f m s r h1 h2 => (ES.cons (ES1.assign 4 (EE.call 7 (sp_fadd T h2) (by decide) rfl (EEs.cons (EE.call 8 (sp_fmul T h1) (by decide) rfl (EEs.cons (EE.name 4 rfl rfl) (EEs.cons (EE.name 1 rfl rfl) EEs.nil))) (EEs.cons (EE.call 9 (sp_fnumber T _ ) (by decide) rfl (EEs.cons (EE.name 5 rfl rfl) EEs.nil)) EEs.nil)))) ES.nil)) f.1.reverse ([], [r1]) a .unset ha
          obtain ⟨t5, L2⟩ := fcompL_loop (G := G) (n := 9) (A := .val (encF f)) (B := .val (encF g)) (C := .own ad [encF a]) (S3 := .val (encP f.2)) (g := g) (st := List.replicate 6 .unset) (body := loopBody (stIn (loopBody (stAt 50 1)) 1))
            (fun f m s r h1 h2 => (ES.cons (ES1.assign 4 (EE.call 7 (sp_fadd T h2) (by decide) rfl (EEs.cons (EE.call 8 (sp_fmul T h1) (by decide) rfl (EEs.cons (EE.name 4 rfl rfl) (EEs.cons (EE.name 1 rfl rfl) EEs.nil))) (EEs.cons (EE.call 9 (sp_fnumber T _ ) (by decide) rfl (EEs.cons (EE.name 5 rfl rfl) EEs.nil)) EEs.nil)))) ES.nil)) f.2.reverse ([], [r1]) b s5 hb
          have B1 : ES G 9 (scAt 50) (.val (encF f) :: .val (encF g) :: .own ad [] :: .val (encP f.1) :: .unset :: .unset :: List.replicate 6 .unset) (loopBody (stAt 50 1)) .next (.val (encF f) :: .val (encF g) :: .own ad [encF a] :: .val (encP f.1) :: .val (encF a) :: s5 :: List.replicate 6 .unset) :=
            (ES.cons (ES1.assign 4 (EE.glob 6 rfl T.F0)) (ES.cons (ES1.for (EI.list (EE.slice_rev_m (EE.name 3 rfl rfl) (EE.neg EE.int) (Nat.le_trans hz.1 (by decide)))) L1) (ES.cons (ES1.append 2 rfl rfl (EE.name 4 rfl rfl) rfl (Nat.le_of_ble_eq_true rfl)) ES.nil)))
          have B2 : ES G 9 (scAt 50) (.val (encF f) :: .val (encF g) :: .own ad [encF a] :: .val (encP f.2) :: .val (encF a) :: s5 :: List.replicate 6 .unset) (loopBody (stAt 50 1)) .next (.val (encF f) :: .val (encF g) :: .own ad [encF a, encF b] :: .val (encP f.2) :: .val (encF b) :: t5 :: List.replicate 6 .unset) :=
            (ES.cons (ES1.assign 4 (EE.glob 6 rfl T.F0)) (ES.cons (ES1.for (EI.list (EE.slice_rev_m (EE.name 3 rfl rfl) (EE.neg EE.int) (Nat.le_trans hz.2 (by decide)))) L2) (ES.cons (ES1.append 2 rfl rfl (EE.name 4 rfl rfl) rfl (Nat.le_of_ble_eq_true rfl)) ES.nil)))
          exact ES.forget (ES.cons (ES1.for (EI.tuple (EE.name 0 rfl rfl)) (EFo.cons 3 rfl (by decide) B1 (EFo.cons 3 rfl (by decide) B2 EFo.nil))) (ES.ret (ES1.ret (EE.call 10 (sp_fdiv T h) (by decide) rfl (EEs.cons (EE.item_own' 2 rfl rfl EE.int rfl (ItemAt.nat (j := 0) rfl (Nat.le_of_ble_eq_true rfl))) (EEs.cons (EE.item_own' 2 rfl rfl EE.int rfl (ItemAt.nat (j := 1) rfl (Nat.le_of_ble_eq_true rfl))) EEs.nil)))))))))⟩
  · cases h

theorem sp_fsplit {f q : F} (h : fsplitM f = some q) (hz : small f.2) : FnSpec G 6 (Str.ofString "fsplit") [encF f] (.tup [encP q.1, encF (if q.2.length = 0 then ([], [r1]) else (q.2, f.2))]) := by
  by_cases h0 : q.2.length = 0
  · rw [if_pos h0]
    exact FnSpec.at 52 T.defs (by decide +kernel) (by decide +kernel) ⟨_, (ES.cons (ES1.unpack (l := [(Str.ofString "whole", _), (Str.ofString "rest", _)]) (EE.call 3 (sp_qdivmod T h) (by decide) rfl (EEs.cons (EE.item_t (EE.name 0 rfl rfl) EE.int rfl rfl (Nat.le_of_ble_eq_true rfl)) (EEs.cons (EE.item_t (EE.name 0 rfl rfl) EE.int rfl rfl (Nat.le_of_ble_eq_true rfl)) EEs.nil))) (.cons 1 _ rfl (by decide) (.cons 2 _ rfl (by decide) .nil)) rfl (fun _ => (.name (.name .nil))) (fun _ => rfl)) (ES.ret (ES1.ret (EE.tuple (EEs.cons (EE.name 1 rfl rfl) (EEs.cons (EE.ite_f (ET.conv (ET.ne (EE.name 2 rfl rfl) (EF.val (EF.list EEs.nil)) (by decide +kernel)) (by rw [deq_nil, h0]; rfl)) (EE.glob 5 rfl T.F0)) EEs.nil))))))⟩
  · rw [if_neg h0]
    exact FnSpec.at 52 T.defs (by decide +kernel) (by decide +kernel) ⟨_, (ES.cons (ES1.unpack (l := [(Str.ofString "whole", _), (Str.ofString "rest", _)]) (EE.call 3 (sp_qdivmod T h) (by decide) rfl (EEs.cons (EE.item_t (EE.name 0 rfl rfl) EE.int rfl rfl (Nat.le_of_ble_eq_true rfl)) (EEs.cons (EE.item_t (EE.name 0 rfl rfl) EE.int rfl rfl (Nat.le_of_ble_eq_true rfl)) EEs.nil))) (.cons 1 _ rfl (by decide) (.cons 2 _ rfl (by decide) .nil)) rfl (fun _ => (.name (.name .nil))) (fun _ => rfl)) (ES.ret (ES1.ret (EE.tuple (EEs.cons (EE.name 1 rfl rfl) (EEs.cons (EE.ite_t (ET.conv (ET.ne (EE.name 2 rfl rfl) (EF.val (EF.list EEs.nil)) (by decide +kernel)) (by rw [deq_nil]; simpa using h0)) (EE.tuple (EEs.cons (EE.name 2 rfl rfl) (EEs.cons (EF.val (EF.list_of_m 4 (EE.item_t (EE.name 0 rfl rfl) EE.int rfl rfl (Nat.le_of_ble_eq_true rfl)) rfl (Nat.le_trans hz (by decide)))) EEs.nil)))) EEs.nil))))))⟩

omit T in
theorem plainL_loop {n : Nat} {A : Slot} {pt : R} {st : St} {body : List Stmt} {p1 p2 p3 : Pos} {kk : Nat}
    (hb : ∀ (s : Int × Int) (x : R), MulOk s.1 pt.1 ∧ MulOk (s.1 * pt.1) x.2 ∧ MulOk x.1 s.2 ∧ MulOk (x.1 * s.2) pt.2 ∧ MulOk s.2 pt.2 ∧ MulOk (s.2 * pt.2) x.2 →
      ES G n (scAt 118) (A :: .val (encR pt) :: .val (.int s.1) :: .val (.int s.2) :: .val (.int x.1) :: .val (.int x.2) :: st) body .next (A :: .val (encR pt) :: .val (.int (s.1 * pt.1 * x.2 + x.1 * s.2 * pt.2)) :: .val (.int (s.2 * pt.2 * x.2)) :: .val (.int x.1) :: .val (.int x.2) :: st)) :
    ∀ (xs : List R) (s v : Int × Int) (s4 s5 : Slot), plainL pt xs s = some v → ∃ s4' s5', EFo G n (scAt 118) (A :: .val (encR pt) :: .val (.int s.1) :: .val (.int s.2) :: s4 :: s5 :: st) (.Tuple [.Name (Str.ofString "one") p1, .Name (Str.ofString "other") p2] kk p3) body (xs.map encR) .next (A :: .val (encR pt) :: .val (.int v.1) :: .val (.int v.2) :: s4' :: s5' :: st)
  | [], s, v, s4, s5, h => by cases h; exact ⟨_, _, EFo.nil⟩
  | x :: xs, s, v, s4, s5, h => by
    unfold plainL at h
    split at h
    · rename_i hm
      obtain ⟨s4', s5', L⟩ := plainL_loop hb xs _ v (.val (.int x.1)) (.val (.int x.2)) h
      exact ⟨s4', s5', EFo.cons_tup (l := [(Str.ofString "one", .int x.1), (Str.ofString "other", .int x.2)]) (.cons 4 _ rfl (by decide) (.cons 5 _ rfl (by decide) .nil)) rfl (fun _ => .name (.name .nil)) (fun _ => rfl) (hb s x hm) L⟩
    · cases h

theorem sp_plain {row : P} {pt r : R} (h : plainM row pt = some r) : FnSpec G 2 (Str.ofString "_law_plain") [encP row, encR pt] (encR r) := by
  unfold plainM at h
  split at h
  · rename_i hz
    split at h
    · cases h
    · rename_i _ s hs
      obtain ⟨s4, s5, L⟩ := plainL_loop (G := G) (n := 2) (A := .val (encP row)) (pt := pt) (st := List.replicate 6 .unset) (body := loopBody (stAt 118 1))
        (fun s x hm => (ES.cons (ES1.assign_swap (ys := [Str.ofString "top", Str.ofString "bottom"]) (EEs.cons (EE.add (EE.mul (EE.mul (EE.name 2 rfl rfl) (EE.item_t (EE.name 1 rfl rfl) EE.int rfl rfl (Nat.le_of_ble_eq_true rfl)) hm.1) (EE.name 5 rfl rfl) hm.2.1) (EE.mul (EE.mul (EE.name 4 rfl rfl) (EE.name 3 rfl rfl) hm.2.2.1) (EE.item_t (EE.name 1 rfl rfl) EE.int rfl rfl (Nat.le_of_ble_eq_true rfl)) hm.2.2.2.1)) (EEs.cons (EE.mul (EE.mul (EE.name 3 rfl rfl) (EE.item_t (EE.name 1 rfl rfl) EE.int rfl rfl (Nat.le_of_ble_eq_true rfl)) hm.2.2.2.2.1) (EE.name 5 rfl rfl) hm.2.2.2.2.2) EEs.nil)) (.cons 3 _ rfl (by decide) (.cons 2 _ rfl (by decide) .nil)) rfl) ES.nil)) row.reverse (0, 1) s .unset .unset hs
      exact FnSpec.at 118 T.defs (by decide +kernel) (by decide +kernel) ⟨_, (ES.cons (ES1.unpack (l := [(Str.ofString "top", _), (Str.ofString "bottom", _)]) (EE.tuple (EEs.cons EE.int (EEs.cons EE.int EEs.nil))) (.cons 2 _ rfl (by decide) (.cons 3 _ rfl (by decide) .nil)) rfl (fun _ => (.name (.name .nil))) (fun _ => rfl)) (ES.cons (ES1.for (EI.list (EE.slice_rev_m (EE.name 0 rfl rfl) (EE.neg EE.int) (Nat.le_trans hz (by decide)))) L) (ES.ret (ES1.ret (EE.call 6 (sp_rat T.defs h) (by decide) rfl (EEs.cons (EE.name 2 rfl rfl) (EEs.cons (EE.name 3 rfl rfl) EEs.nil)))))))⟩
  · cases h
theorem sp_worth {f : F} {pt : R} {v : Option R} (h : worthM f pt = some v) : FnSpec G 3 (Str.ofString "_law_worth") [encF f, encR pt] (encO v) := by
  unfold worthM at h
  split at h
  · cases h
  · rename_i _ low hl
    split at h
    · rename_i h0
      cases h
      exact FnSpec.at 119 T.defs (by decide +kernel) (by decide +kernel) ⟨_, (ES.cons (ES1.assign 2 (EE.call 3 (sp_plain T hl) (by decide) rfl (EEs.cons (EE.item_t (EE.name 0 rfl rfl) EE.int rfl rfl (Nat.le_of_ble_eq_true rfl)) (EEs.cons (EE.name 1 rfl rfl) EEs.nil)))) (ES.ret (ES1.if_t (ET.conv (ET.ieq (EE.item_t (EE.name 2 rfl rfl) EE.int rfl rfl (Nat.le_of_ble_eq_true rfl)) EE.int) (by simpa using h0)) (ES.ret (ES1.ret EE.none)))))⟩
    · rename_i h0
      split at h
      · cases h
      · rename_i _ a ha
        split at h
        · cases h
        · rename_i _ v hv
          cases h
          exact FnSpec.at 119 T.defs (by decide +kernel) (by decide +kernel) ⟨_, (ES.cons (ES1.assign 2 (EE.call 3 (sp_plain T hl) (by decide) rfl (EEs.cons (EE.item_t (EE.name 0 rfl rfl) EE.int rfl rfl (Nat.le_of_ble_eq_true rfl)) (EEs.cons (EE.name 1 rfl rfl) EEs.nil)))) (ES.cons (ES1.if_f (ET.conv (ET.ieq (EE.item_t (EE.name 2 rfl rfl) EE.int rfl rfl (Nat.le_of_ble_eq_true rfl)) EE.int) (by simpa using h0)) ES.nil) (ES.ret (ES1.ret (EE.call 4 (sp_rdiv T.defs hv) (by decide) rfl (EEs.cons (EE.call 3 (sp_plain T ha) (by decide) rfl (EEs.cons (EE.item_t (EE.name 0 rfl rfl) EE.int rfl rfl (Nat.le_of_ble_eq_true rfl)) (EEs.cons (EE.name 1 rfl rfl) EEs.nil))) (EEs.cons (EE.name 2 rfl rfl) EEs.nil)))))))⟩
end
end Mine

end -- WG
section -- WH
open PySem PySem.W PyProof.Rows PySem.Calls
set_option maxRecDepth 100000
set_option linter.unusedVariables false
set_option linter.unusedSectionVars false
namespace Mine

inductive Tm where
  | num (a b : Int)
  | sym
  | sum (l : List Tm)
  | prod (l : List Tm)
  | pow (b e : Tm)

mutual
noncomputable def encT (X : Str) : Tm → D
  | .num a b => .tup [.str "num", .int a, .int b]
  | .sym => .tup [.str "sym", .str X]
  | .sum l => .tup [.str "sum", .tup (encTL X l)]
  | .prod l => .tup [.str "prod", .tup (encTL X l)]
  | .pow b e => .tup [.str "pow", encT X b, encT X e]
noncomputable def encTL (X : Str) : List Tm → List D
  | [] => []
  | a :: as => encT X a :: encTL X as
end
theorem encTL_map (X : Str) : ∀ l : List Tm, encTL X l = l.map (encT X)
  | [] => by simp [encTL]
  | a :: as => by simp [encTL, encTL_map X as]

noncomputable def tNum (a b : Int) : Tm → Bool
  | .num c d => a == c && b == d
  | .sym => false
  | .sum _ => false
  | .prod _ => false
  | .pow _ _ => false
noncomputable def tSym : Tm → Bool
  | .num _ _ => false
  | .sym => true
  | .sum _ => false
  | .prod _ => false
  | .pow _ _ => false
noncomputable def tSum : Tm → Option (List Tm)
  | .num _ _ => none
  | .sym => none
  | .sum l => some l
  | .prod _ => none
  | .pow _ _ => none
noncomputable def tProd : Tm → Option (List Tm)
  | .num _ _ => none
  | .sym => none
  | .sum _ => none
  | .prod l => some l
  | .pow _ _ => none
noncomputable def tPow : Tm → Option (Tm × Tm)
  | .num _ _ => none
  | .sym => none
  | .sum _ => none
  | .prod _ => none
  | .pow a b => some (a, b)
mutual
noncomputable def teq : Tm → Tm → Bool
  | .num a b, e => tNum a b e
  | .sym, e => tSym e
  | .sum l, e => match tSum e with
    | some m => teqL l m
    | none => false
  | .prod l, e => match tProd e with
    | some m => teqL l m
    | none => false
  | .pow a b, e => match tPow e with
    | some q => teq a q.1 && teq b q.2
    | none => false
noncomputable def teqL : List Tm → List Tm → Bool
  | [], l => l.isEmpty
  | a :: as, l => match l with
    | [] => false
    | b :: bs => teq a b && teqL as bs
end
theorem tag_ne {a b : Str} (h : (a == b) = false) (l m : List D) : deq (.tup (.str a :: l)) (.tup (.str b :: m)) = false := by
  show ((a == b) && deqL l m) = false
  rw [h]; rfl
theorem tag_eq (a : Str) (l m : List D) : deq (.tup (.str a :: l)) (.tup (.str a :: m)) = deqL l m := by
  show ((a == a) && deqL l m) = _
  rw [beq_self_eq_true]; rfl
mutual
theorem deq_encT (X : Str) : ∀ a b : Tm, deq (encT X a) (encT X b) = teq a b
  | .num a b, e => by
    cases e with
    | num c d => exact (tag_eq _ _ _).trans (congrArg (fun q => a == c && q) (Bool.and_true (b == d)))
    | _ => exact tag_ne (by decide) _ _
  | .sym, e => by
    cases e with
    | sym => exact (tag_eq _ _ _).trans (by show ((X == X) && true) = true; rw [beq_self_eq_true]; rfl)
    | _ => exact tag_ne (by decide) _ _
  | .sum l, e => by
    cases e with
    | sum m => exact (tag_eq _ _ _).trans ((Bool.and_true _).trans (deqL_encT X l m))
    | _ => exact tag_ne (by decide) _ _
  | .prod l, e => by
    cases e with
    | prod m => exact (tag_eq _ _ _).trans ((Bool.and_true _).trans (deqL_encT X l m))
    | _ => exact tag_ne (by decide) _ _
  | .pow a b, e => by
    cases e with
    | pow c d => exact (tag_eq _ _ _).trans (by show (deq (encT X a) (encT X c) && (deq (encT X b) (encT X d) && true)) = (teq a c && teq b d); rw [deq_encT X a c, deq_encT X b d, Bool.and_true])
    | _ => exact tag_ne (by decide) _ _
theorem deqL_encT (X : Str) : ∀ a b : List Tm, deqL (encTL X a) (encTL X b) = teqL a b
  | [], [] => rfl
  | [], _ :: _ => rfl
  | _ :: _, [] => rfl
  | a :: as, b :: bs => by show (deq (encT X a) (encT X b) && deqL (encTL X as) (encTL X bs)) = (teq a b && teqL as bs); rw [deq_encT X a b, deqL_encT X as bs]
end
mutual
noncomputable def dpT : Tm → Nat
  | .num _ _ => 1
  | .sym => 1
  | .sum l => dpTL l + 2
  | .prod l => dpTL l + 2
  | .pow b e => max (dpT b) (dpT e) + 1
noncomputable def dpTL : List Tm → Nat
  | [] => 0
  | a :: as => max (dpT a) (dpTL as)
end
mutual
theorem dep_encT (X : Str) : ∀ a : Tm, dep (encT X a) = dpT a
  | .num _ _ => by simp [encT, dep, depL, dpT]
  | .sym => by simp [encT, dep, depL, dpT]
  | .sum l => by simp [encT, dep, depL, dpT, dep_encTL X l]
  | .prod l => by simp [encT, dep, depL, dpT, dep_encTL X l]
  | .pow a b => by simp [encT, dep, depL, dpT, dep_encT X a, dep_encT X b]
theorem dep_encTL (X : Str) : ∀ a : List Tm, depL (encTL X a) = dpTL a
  | [] => by simp [encTL, depL, dpTL]
  | a :: as => by simp [encTL, depL, dpTL, dep_encT X a, dep_encTL X as]
end
mutual
theorem hk_encT (X : Str) : ∀ a : Tm, hk (encT X a) = true
  | .num _ _ => by simp [encT, hk, hkL]
  | .sym => by simp [encT, hk, hkL]
  | .sum l => by simp [encT, hk, hkL, hk_encTL X l]
  | .prod l => by simp [encT, hk, hkL, hk_encTL X l]
  | .pow a b => by simp [encT, hk, hkL, hk_encT X a, hk_encT X b]
theorem hk_encTL (X : Str) : ∀ a : List Tm, hkL (encTL X a) = true
  | [] => by simp [encTL, hkL]
  | a :: as => by simp [encTL, hkL, hk_encT X a, hk_encTL X as]
end
theorem keyOk_encT (X : Str) {t : Tm} (h : dpT t ≤ 6) : keyOk (encT X t) := ⟨hk_encT X t, by rw [dep_encT]; exact h⟩

noncomputable def kindS : Tm → Str
  | .num _ _ => "num"
  | .sym => "sym"
  | .sum _ => "sum"
  | .prod _ => "prod"
  | .pow _ _ => "pow"
theorem EE.kind {G : GC} {n : Nat} {sc : Scope} {ρ ρ₁ ρ₂ : St} {X : Str} {v i : Expr} {t : Tm} {pos : Pos} (x : EE G n sc ρ v (encT X t) ρ₁) (y : EE G n sc ρ₁ i (.int 0) ρ₂) (hs : autoParam (Sub1 i) byUnfB) : EE G n sc ρ (.Subscript v i pos) (.str (kindS t)) ρ₂ := by
  cases t <;> exact EE.item_t x y rfl rfl (Nat.le_of_ble_eq_true rfl) hs

noncomputable def isNum : Tm → Bool
  | .num _ _ => true
  | _ => false
noncomputable def isSum : Tm → Bool
  | .sum _ => true
  | _ => false
noncomputable def isProd : Tm → Bool
  | .prod _ => true
  | _ => false
noncomputable def isPow : Tm → Bool
  | .pow _ _ => true
  | _ => false
noncomputable def isSym : Tm → Bool
  | .sym => true
  | _ => false
theorem kNum (t : Tm) : deq (.str (kindS t)) (.str (Str.ofString "num")) = isNum t := by cases t <;> simp only [kindS, isNum] <;> decide +kernel
theorem kSum (t : Tm) : deq (.str (kindS t)) (.str (Str.ofString "sum")) = isSum t := by cases t <;> simp only [kindS, isSum] <;> decide +kernel
theorem kProd (t : Tm) : deq (.str (kindS t)) (.str (Str.ofString "prod")) = isProd t := by cases t <;> simp only [kindS, isProd] <;> decide +kernel
theorem kPow (t : Tm) : deq (.str (kindS t)) (.str (Str.ofString "pow")) = isPow t := by cases t <;> simp only [kindS, isPow] <;> decide +kernel
theorem kSym (t : Tm) : deq (.str (kindS t)) (.str (Str.ofString "sym")) = isSym t := by cases t <;> simp only [kindS, isSym] <;> decide +kernel
theorem kCall (t : Tm) : deq (.str (kindS t)) (.str (Str.ofString "call")) = false := by cases t <;> simp only [kindS] <;> decide +kernel
theorem kEq (t : Tm) : deq (.str (kindS t)) (.str (Str.ofString "eq")) = false := by cases t <;> simp only [kindS] <;> decide +kernel

noncomputable def tsum : List Tm → Tm
  | [] => .num 0 1
  | [x] => x
  | l => .sum l
noncomputable def tprod : List Tm → Tm
  | [] => .num 1 1
  | [x] => x
  | l => .prod l

theorem FnSpec.cv {G : GC} {n : Nat} {sc : Scope} {ρ ρ' : St} {st : List Stmt} {d d' : D} (e : d = d') (x : ES G n sc ρ st (.ret d) ρ') : ES G n sc ρ st (.ret d') ρ' := e ▸ x
section
variable {G : GC} (T : Tops G) (X : Str)
include T
theorem sp_t_num {a b : Int} {r : R} (h : ratM a b = some r) : FnSpec G 2 (Str.ofString "t_num") [.int a, .int b] (encT X (.num r.1 r.2)) :=
  FnSpec.at 57 T.defs (by decide +kernel) (by decide +kernel) ⟨_, (ES.cons (ES1.assign 2 (EE.call 3 (sp_rat T.defs h) (by decide) rfl (EEs.cons (EE.name 0 rfl rfl) (EEs.cons (EE.name 1 rfl rfl) EEs.nil)))) (ES.ret (ES1.ret (EE.tuple (EEs.cons EE.str (EEs.cons (EE.item_t (EE.name 2 rfl rfl) EE.int rfl rfl (Nat.le_of_ble_eq_true rfl)) (EEs.cons (EE.item_t (EE.name 2 rfl rfl) EE.int rfl rfl (Nat.le_of_ble_eq_true rfl)) EEs.nil)))))))⟩
theorem sp_t_sym : FnSpec G 0 (Str.ofString "t_sym") [.str X] (encT X .sym) :=
  FnSpec.at 58 T.defs (by decide +kernel) (by decide +kernel) ⟨_, (ES.ret (ES1.ret (EE.tuple (EEs.cons EE.str (EEs.cons (EE.name 0 rfl rfl) EEs.nil)))))⟩
theorem sp_t_pow (b e : Tm) : FnSpec G 0 (Str.ofString "t_pow") [encT X b, encT X e] (encT X (.pow b e)) :=
  FnSpec.at 61 T.defs (by decide +kernel) (by decide +kernel) ⟨_, (ES.ret (ES1.ret (EE.tuple (EEs.cons EE.str (EEs.cons (EE.name 0 rfl rfl) (EEs.cons (EE.name 1 rfl rfl) EEs.nil))))))⟩
theorem sp_is_num (t : Tm) : FnSpec G 0 (Str.ofString "is_num") [encT X t] (.bool (isNum t)) :=
  FnSpec.at 63 T.defs (by decide +kernel) (by decide +kernel) ⟨_, ES.ret (ES1.ret (EE.conv (EE.eq (EE.kind (EE.name 0 rfl rfl) EE.int) EE.str (Nat.le_of_ble_eq_true rfl)) (congrArg D.bool (kNum t))))⟩
theorem sp_num_of (a b : Int) : FnSpec G 0 (Str.ofString "num_of") [encT X (.num a b)] (encR (a, b)) :=
  FnSpec.at 64 T.defs (by decide +kernel) (by decide +kernel) ⟨_, (ES.ret (ES1.ret (EE.tuple (EEs.cons (EE.item_t (EE.name 0 rfl rfl) EE.int rfl rfl (Nat.le_of_ble_eq_true rfl)) (EEs.cons (EE.item_t (EE.name 0 rfl rfl) EE.int rfl rfl (Nat.le_of_ble_eq_true rfl)) EEs.nil)))))⟩
theorem sp_number_term (r : R) : FnSpec G 0 (Str.ofString "number_term") [encR r] (encT X (.num r.1 r.2)) :=
  FnSpec.at 89 T.defs (by decide +kernel) (by decide +kernel) ⟨_, (ES.ret (ES1.ret (EE.tuple (EEs.cons EE.str (EEs.cons (EE.item_t (EE.name 0 rfl rfl) EE.int rfl rfl (Nat.le_of_ble_eq_true rfl)) (EEs.cons (EE.item_t (EE.name 0 rfl rfl) EE.int rfl rfl (Nat.le_of_ble_eq_true rfl)) EEs.nil))))))⟩
theorem sp_t_sum {l : List Tm} (hz : l.length ≤ 1000) : FnSpec G 0 (Str.ofString "t_sum") [.lst (l.map (encT X))] (encT X (tsum l)) := by
  rcases l with _ | ⟨x, _ | ⟨y, r⟩⟩
  · exact FnSpec.at 59 T.defs (by decide +kernel) (by decide +kernel) ⟨_, (ES.ret (ES1.if_t (ET.conv (ET.ieq (EE.bcall 1 (bs_len_m hz) (.b _) (by decide) boot_len rfl (EEs.cons (EE.name 0 rfl rfl) EEs.nil)) EE.int) (by rfl)) (ES.ret (ES1.ret (EE.glob 2 rfl T.TZERO)))))⟩
  · exact FnSpec.at 59 T.defs (by decide +kernel) (by decide +kernel) ⟨_, (ES.cons (ES1.if_f (ET.conv (ET.ieq (EE.bcall 1 (bs_len_m hz) (.b _) (by decide) boot_len rfl (EEs.cons (EE.name 0 rfl rfl) EEs.nil)) EE.int) (by rfl)) ES.nil) (ES.ret (ES1.ret (EE.ite_t (ET.conv (ET.ieq (EE.bcall 1 (bs_len_m hz) (.b _) (by decide) boot_len rfl (EEs.cons (EE.name 0 rfl rfl) EEs.nil)) EE.int) (by rfl)) (EE.item_l' (EE.name 0 rfl rfl) EE.int (ItemAt.nat (j := 0) rfl (lzm hz)))))))⟩
  · refine FnSpec.at 59 T.defs (by decide +kernel) (by decide +kernel) ⟨_, FnSpec.cv (by simp only [tsum, encT, encTL_map]) (ES.cons (ES1.if_f (ET.conv (ET.ieq (EE.bcall 1 (bs_len_m hz) (.b _) (by decide) boot_len rfl (EEs.cons (EE.name 0 rfl rfl) EEs.nil)) EE.int) (by simp; lia)) ES.nil) (ES.ret (ES1.ret (EE.ite_f (ET.conv (ET.ieq (EE.bcall 1 (bs_len_m hz) (.b _) (by decide) boot_len rfl (EEs.cons (EE.name 0 rfl rfl) EEs.nil)) EE.int) (by simp; lia)) (EE.tuple (EEs.cons EE.str (EEs.cons (EE.bcall 3 (bs_tuple (lzm hz)) (.t _) (by decide) boot_tuple rfl (EEs.cons (EE.name 0 rfl rfl) EEs.nil)) EEs.nil)))))))⟩
theorem sp_t_prod {l : List Tm} (hz : l.length ≤ 1000) : FnSpec G 0 (Str.ofString "t_prod") [.lst (l.map (encT X))] (encT X (tprod l)) := by
  rcases l with _ | ⟨x, _ | ⟨y, r⟩⟩
  · exact FnSpec.at 60 T.defs (by decide +kernel) (by decide +kernel) ⟨_, (ES.ret (ES1.if_t (ET.conv (ET.ieq (EE.bcall 1 (bs_len_m hz) (.b _) (by decide) boot_len rfl (EEs.cons (EE.name 0 rfl rfl) EEs.nil)) EE.int) (by rfl)) (ES.ret (ES1.ret (EE.glob 2 rfl T.TONE)))))⟩
  · exact FnSpec.at 60 T.defs (by decide +kernel) (by decide +kernel) ⟨_, (ES.cons (ES1.if_f (ET.conv (ET.ieq (EE.bcall 1 (bs_len_m hz) (.b _) (by decide) boot_len rfl (EEs.cons (EE.name 0 rfl rfl) EEs.nil)) EE.int) (by rfl)) ES.nil) (ES.ret (ES1.ret (EE.ite_t (ET.conv (ET.ieq (EE.bcall 1 (bs_len_m hz) (.b _) (by decide) boot_len rfl (EEs.cons (EE.name 0 rfl rfl) EEs.nil)) EE.int) (by rfl)) (EE.item_l' (EE.name 0 rfl rfl) EE.int (ItemAt.nat (j := 0) rfl (lzm hz)))))))⟩
  · refine FnSpec.at 60 T.defs (by decide +kernel) (by decide +kernel) ⟨_, FnSpec.cv (by simp only [tprod, encT, encTL_map]) (ES.cons (ES1.if_f (ET.conv (ET.ieq (EE.bcall 1 (bs_len_m hz) (.b _) (by decide) boot_len rfl (EEs.cons (EE.name 0 rfl rfl) EEs.nil)) EE.int) (by simp; lia)) ES.nil) (ES.ret (ES1.ret (EE.ite_f (ET.conv (ET.ieq (EE.bcall 1 (bs_len_m hz) (.b _) (by decide) boot_len rfl (EEs.cons (EE.name 0 rfl rfl) EEs.nil)) EE.int) (by simp; lia)) (EE.tuple (EEs.cons EE.str (EEs.cons (EE.bcall 3 (bs_tuple (lzm hz)) (.t _) (by decide) boot_tuple rfl (EEs.cons (EE.name 0 rfl rfl) EEs.nil)) EEs.nil)))))))⟩
end
end Mine

end -- WH
section -- WI
open PySem PySem.W PyProof.Rows PySem.Calls
set_option maxRecDepth 100000
set_option linter.unusedVariables false
set_option linter.unusedSectionVars false
namespace Mine

noncomputable def sgn (a b : Int) : Int := if a = b then 0 else if a < b then -1 else 1
noncomputable def rankT : Tm → Int
  | .sym => 0
  | .sum _ => 2
  | .prod _ => 3
  | .num _ _ => 4
  | .pow _ _ => 5
noncomputable def cmpV (a b : R) : Option Int := if MulOk a.1 b.2 ∧ MulOk b.1 a.2 then some (sgn (a.1 * b.2) (b.1 * a.2)) else none

noncomputable def bareF : Tm → List Tm
  | .prod l => l.filter fun t => !isNum t
  | t => [t]
noncomputable def frontV : Tm → R
  | .prod (.num a b :: _) => (a, b)
  | _ => (1, 1)
noncomputable def frontOk : Tm → Bool
  | .prod [.num _ _, _] => true
  | .prod _ => false
  | _ => true
noncomputable def baseE : Tm → Tm × Tm
  | .pow b e => (b, e)
  | t => (t, .num 1 1)
noncomputable def cmpRows (c : Tm → Tm → Option Int) : List Tm → List Tm → Option Int
  | [a1, a2], [b1, b2] => match c a1 b1 with
    | none => none
    | some r => if r = 0 then match c a2 b2 with
      | none => none
      | some q => if q = 0 then none else some q
      else some r
  | _, _ => none
noncomputable def cmpExps : Tm → Tm → Option Int
  | .num a b, .num c d => cmpV (c, d) (a, b)
  | _, _ => none
noncomputable def cmpBases (c : Tm → Tm → Option Int) (a b : Tm) : Option Int :=
  if rankT a = rankT b then match a, b with
    | .sym, .sym => some 0
    | .sum l, .sum m => cmpRows c l m
    | _, _ => none
  else some (sgn (rankT a) (rankT b))
noncomputable def cmpFactors (c : Tm → Tm → Option Int) (a b : Tm) : Option Int :=
  match cmpBases c (baseE a).1 (baseE b).1 with
  | none => none
  | some r => if r = 0 then cmpExps (baseE a).2 (baseE b).2 else some r
noncomputable def cmpTB (c : Tm → Tm → Option Int) : Tm → Tm → Option Int
  | .num a b, .num a' b' => cmpV (a, b) (a', b')
  | a, b => if isNum a = false ∧ isNum b = false ∧ frontOk a = true ∧ frontOk b = true then match bareF a, bareF b with
    | [p], [q] => match cmpFactors c p q with
      | none => none
      | some r => if r = 0 then cmpV (frontV a) (frontV b) else some r
    | _, _ => none
    else none
noncomputable def cmpT0 : Tm → Tm → Option Int := cmpTB fun _ _ => none
noncomputable def cmpT : Tm → Tm → Option Int := cmpTB cmpT0
noncomputable def sortM : List Tm → Option (List Tm)
  | [] => some []
  | [a] => some [a]
  | [a, b] => match cmpT a b with
    | none => none
    | some r => some (if r ≤ 0 then [a, b] else [b, a])
  | _ => none

theorem eco_filter_aux {G : GC} {n : Nat} {scC : Scope} {α : Type} {φ : α → D} {ρc : St} {y : Str} {p : Pos} {k : NameKind} {iter elt c : Expr} {scope : Scope} {pos : Pos} (i : Nat) (hi : scC.names[i]? = some (y, k)) (hk : k = .local ∨ k = .cell) (f : α → Bool) :
    ∀ (l : List α) (s0 : Slot), (∀ a, ET G n scC (ρc.set i (.val (φ a))) c (f a) (ρc.set i (.val (φ a)))) → (∀ a, EE G n scC (ρc.set i (.val (φ a))) elt (φ a) (ρc.set i (.val (φ a)))) →
      ECo G n scC (ρc.set i s0) (.Name y p) iter [c] elt scope pos (l.map φ) ((l.filter f).map φ) (ρc.set i (fin φ s0 l))
  | [], s0, _, _ => ECo.nil
  | a :: as, s0, tc, b => by
    rw [List.map_cons]
    unfold fin
    have ih := eco_filter_aux (iter := iter) (elt := elt) (scope := scope) (pos := pos) (p := p) i hi hk f as (.val (φ a)) tc b
    have t := tc a
    cases q : f a with
    | true =>
      rw [List.filter_cons_of_pos (by simpa using q), List.map_cons]
      rw [q] at t
      refine ECo.cons i hi hk (.inr ⟨c, rfl, ?_⟩) (b a) ih
      rw [List.set_set]; exact t
    | false =>
      rw [List.filter_cons_of_neg (by simp [q])]
      rw [q] at t
      refine ECo.skip i hi hk ?_ ih
      rw [List.set_set]; exact t
theorem eco_filter {G : GC} {n : Nat} {scC : Scope} {α : Type} {φ : α → D} {ρc : St} {y : Str} {p : Pos} {k : NameKind} {iter elt c : Expr} {scope : Scope} {pos : Pos} (i : Nat) (f : α → Bool) (l : List α) (tc : ∀ a, ET G n scC (ρc.set i (.val (φ a))) c (f a) (ρc.set i (.val (φ a)))) (b : ∀ a, EE G n scC (ρc.set i (.val (φ a))) elt (φ a) (ρc.set i (.val (φ a))))
    (hi : autoParam (scC.names[i]? = some (y, k)) byRfl) (hk : autoParam (k = .local ∨ k = .cell) byDec) (h0 : autoParam (ρc.set i .unset = ρc) byRfl) :
      ECo G n scC ρc (.Name y p) iter [c] elt scope pos (l.map φ) ((l.filter f).map φ) (ρc.set i (fin φ .unset l)) := by
  have := eco_filter_aux (G := G) (n := n) (ρc := ρc) (p := p) (iter := iter) (elt := elt) (scope := scope) (pos := pos) i hi hk f l .unset tc b
  rwa [h0] at this

theorem EE.ranks {G : GC} (T : Tops G) {n : Nat} {sc : Scope} {ρ ρ₁ : St} (i : Nat) {e : Expr} {t : Tm} {p pos : Pos} (hi : sc.names[i]? = some (("RANKS" : Str), .globalImplicit)) (x : EE G n sc ρ e (.str (kindS t)) ρ₁) (hs : autoParam (Sub1 e) byUnfB) :
    EE G n sc ρ (.Subscript (.Name "RANKS" p) e pos) (.int (rankT t)) ρ₁ := fun env he A amb s Q E hA I hQ => Subscript_ (by
  obtain ⟨a, f, h1, hm, hf⟩ := T.RANKS I.gl
  refine Name_function_global he.fn (he.kind hi) (loadGlobal_global (he.gl ▸ I.gl.g.keeps I.top) h1 (x env he A amb s _ E hA I fun v2 h2 t2 I2 g2 r2 => ?_)) (he.nodebug hi)
  obtain ⟨u, rfl⟩ := r2
  obtain ⟨tok, hv⟩ : ∃ tok, f (kindS t) = some (.int (rankT t) tok) := hf (kindS t, rankT t) (by cases t <;> simp [kindS, rankT, ranksL])
  have hm2 : h2.MapOf (strKind G.prog G.w) a f := let ⟨o, es, ep, e1, r⟩ := hm; ⟨o, es, ep, I2.top _ _ e1, r⟩
  exact tail_any (Heap.MapOf.typeIs (s := { s with heap := h2, toks := t2 }) hm2) slot_dict_getitem.lookup (wpAny_getItem_of (knd := strKind G.prog G.w) (k := kindS t) (by simp [PySem.strKind, Value.isStrOf]) hm2 hv (hQ _ h2 _ I2 g2 ⟨_, rfl⟩)) (hs _ _))
theorem encT_prod (X : Str) (l : List Tm) : encT X (.prod l) = .tup [.str "prod", .tup (l.map (encT X))] := by simp only [encT, encTL_map]
theorem encT_sum (X : Str) (l : List Tm) : encT X (.sum l) = .tup [.str "sum", .tup (l.map (encT X))] := by simp only [encT, encTL_map]
section
variable {G : GC} (T : Tops G) (X : Str)
include T

theorem sp_sgn (a b : Int) : FnSpec G 0 (Str.ofString "sign_between") [.int a, .int b] (.int (sgn a b)) := by
  unfold sgn
  by_cases h : a = b
  · rw [if_pos h]
    exact FnSpec.at 68 T.defs (by decide +kernel) (by decide +kernel) ⟨_, (ES.ret (ES1.if_t (ET.conv (ET.ieq (EE.name 0 rfl rfl) (EE.name 1 rfl rfl)) (by simpa using h)) (ES.ret (ES1.ret EE.int))))⟩
  · rw [if_neg h]
    by_cases h2 : a < b
    · rw [if_pos h2]
      exact FnSpec.at 68 T.defs (by decide +kernel) (by decide +kernel) ⟨_, (ES.cons (ES1.if_f (ET.conv (ET.ieq (EE.name 0 rfl rfl) (EE.name 1 rfl rfl)) (by simpa using h)) ES.nil) (ES.ret (ES1.ret (EE.ite_t (ET.conv (ET.ilt (EE.name 0 rfl rfl) (EE.name 1 rfl rfl)) (by simpa using h2)) (EE.neg EE.int)))))⟩
    · rw [if_neg h2]
      exact FnSpec.at 68 T.defs (by decide +kernel) (by decide +kernel) ⟨_, (ES.cons (ES1.if_f (ET.conv (ET.ieq (EE.name 0 rfl rfl) (EE.name 1 rfl rfl)) (by simpa using h)) ES.nil) (ES.ret (ES1.ret (EE.ite_f (ET.conv (ET.ilt (EE.name 0 rfl rfl) (EE.name 1 rfl rfl)) (by simpa using h2)) EE.int))))⟩
theorem sp_sgnEq (a : Str) : FnSpec G 0 (Str.ofString "sign_between") [.str a, .str a] (.int 0) :=
  FnSpec.at 68 T.defs (by decide +kernel) (by decide +kernel) ⟨_, (ES.ret (ES1.if_t (ET.conv (ET.eq (EE.name 0 rfl rfl) (EE.name 1 rfl rfl) (Nat.le_of_ble_eq_true rfl)) (by exact beq_self_eq_true _)) (ES.ret (ES1.ret EE.int))))⟩
theorem sp_cmpV {a b : R} {r : Int} (h : cmpV a b = some r) : FnSpec G 1 (Str.ofString "compare_values") [encR a, encR b] (.int r) := by
  unfold cmpV at h
  split at h
  · rename_i q
    cases h
    exact FnSpec.at 69 T.defs (by decide +kernel) (by decide +kernel) ⟨_, (ES.ret (ES1.ret (EE.call 2 (sp_sgn T _ _ ) (by first | decide | omega) rfl (EEs.cons (EE.mul (EE.item_t (EE.name 0 rfl rfl) EE.int rfl rfl (Nat.le_of_ble_eq_true rfl)) (EE.item_t (EE.name 1 rfl rfl) EE.int rfl rfl (Nat.le_of_ble_eq_true rfl)) q.1) (EEs.cons (EE.mul (EE.item_t (EE.name 1 rfl rfl) EE.int rfl rfl (Nat.le_of_ble_eq_true rfl)) (EE.item_t (EE.name 0 rfl rfl) EE.int rfl rfl (Nat.le_of_ble_eq_true rfl)) q.2) EEs.nil)))))⟩
  · cases h
theorem sp_rat_term {a r : R} (h : ratM a.1 a.2 = some r) : FnSpec G 3 (Str.ofString "rat_term") [encR a] (encT X (.num r.1 r.2)) :=
  FnSpec.at 111 T.defs (by decide +kernel) (by decide +kernel) ⟨_, (ES.ret (ES1.ret (EE.call 1 (sp_t_num T X h) (by first | decide | omega) rfl (EEs.cons (EE.item_t (EE.name 0 rfl rfl) EE.int rfl rfl (Nat.le_of_ble_eq_true rfl)) (EEs.cons (EE.item_t (EE.name 0 rfl rfl) EE.int rfl rfl (Nat.le_of_ble_eq_true rfl)) EEs.nil)))))⟩
theorem sp_bare1 {t : Tm} (h : isProd t = false) : FnSpec G 1 (Str.ofString "bare_factors") [encT X t] (.lst ((bareF t).map (encT X))) := by
  rw [show bareF t = [t] by cases t <;> first | rfl | simp [isProd] at h]
  exact FnSpec.at 70 T.defs (by decide +kernel) (by decide +kernel) ⟨_, (ES.ret (ES1.if_t (ET.conv (ET.ne (EE.kind (EE.name 0 rfl rfl) EE.int) EE.str (Nat.le_of_ble_eq_true rfl)) (by rw [kProd,h]; rfl)) (ES.ret (ES1.ret (EF.val (EF.list (EEs.cons (EE.name 0 rfl rfl) EEs.nil)))))))⟩
theorem sp_bare2 {l : List Tm} (hz : l.length ≤ 1000) : FnSpec G 1 (Str.ofString "bare_factors") [encT X (.prod l)] (.lst ((bareF (.prod l)).map (encT X))) := by
  rw [encT_prod]
  exact FnSpec.at 70 T.defs (by decide +kernel) (by decide +kernel) ⟨_, (ES.cons (ES1.if_f (ET.conv (ET.ne (EE.item_t (EE.name 0 rfl rfl) EE.int rfl rfl (Nat.le_of_ble_eq_true rfl)) EE.str (Nat.le_of_ble_eq_true rfl)) (by decide +kernel)) ES.nil) (ES.ret (ES1.ret (EF.val (EF.comp (EI.tuple (EE.item_t (EE.name 0 rfl rfl) EE.int rfl rfl (Nat.le_of_ble_eq_true rfl))) (.skip rfl (.skip rfl (.skip rfl (.nil rfl)))) (eco_filter 1 (fun t => !isNum t) l (fun t => (ET.not (ET.of_bool (EE.call 2 (sp_is_num T X _ ) (by first | decide | omega) rfl (EEs.cons (EE.name 1 rfl rfl) EEs.nil))))) (fun t => (EE.name 1 rfl rfl))) (lzm hz) (CompOk.of (by decide +kernel)))))))⟩
end
end Mine

end -- WI
section -- WJ
open PySem PySem.W PyProof.Rows PySem.Calls
set_option maxRecDepth 100000
set_option linter.unusedVariables false
set_option linter.unusedSimpArgs false
set_option linter.unusedSectionVars false
namespace Mine

theorem FnSpec.mono {G : GC} {m m' : Nat} {name : Str} {ds : List D} {d : D} (x : FnSpec G m name ds d) (h : m ≤ m') : FnSpec G m' name ds d := fun gl => by
  obtain ⟨f, o, fd, h1, h2, h3, h4⟩ := x gl
  exact ⟨f, o, fd, h1, h2, h3, fun A M s vs Q E hA => h4 A M s vs Q E (hA.mono (by lia))⟩

noncomputable def CmpOk (G : GC) (X : Str) (m : Nat) (c : Tm → Tm → Option Int) : Prop := ∀ a b r, c a b = some r → FnSpec G m (Str.ofString "compare_terms") [encT X a, encT X b] (.int r)


section
variable {G : GC} (T : Tops G) (X : Str)
include T

theorem sp_bare {t : Tm} {l : List Tm} (h : bareF t = l) (hz : (match t with | .prod m => m.length | _ => 0) ≤ 1000) : FnSpec G 1 (Str.ofString "bare_factors") [encT X t] (.lst (l.map (encT X))) := by
  subst h
  cases t with
  | prod m => exact sp_bare2 T X hz
  | _ => exact sp_bare1 T X rfl
theorem sp_frontV {t : Tm} (h : frontOk t = true) : FnSpec G 1 (Str.ofString "front_value") [encT X t] (encR (frontV t)) := by
  unfold frontOk at h
  split at h
  · rename_i p q x
    exact FnSpec.at 71 T.defs (by decide +kernel) (by decide +kernel) ⟨_, (ES.ret (ES1.if_t (ET.and_t (ET.conv (ET.eq (EE.item_t (EE.name 0 rfl rfl) EE.int rfl rfl (Nat.le_of_ble_eq_true rfl)) EE.str (Nat.le_of_ble_eq_true rfl)) (by decide +kernel)) (ET.and_t (ET.conv (ET.of_bool (EE.call 1 (sp_is_num T X (.num p q)) (by first | decide | lia) rfl (EEs.cons (EE.item_t (EE.item_t (EE.name 0 rfl rfl) EE.int rfl rfl (Nat.le_of_ble_eq_true rfl)) EE.int rfl rfl (Nat.le_of_ble_eq_true rfl)) EEs.nil))) (by rfl)) ET.and_nil)) (ES.ret (ES1.ret (EE.call 2 (sp_num_of T X _ _ ) (by first | decide | lia) rfl (EEs.cons (EE.item_t (EE.item_t (EE.name 0 rfl rfl) EE.int rfl rfl (Nat.le_of_ble_eq_true rfl)) EE.int rfl rfl (Nat.le_of_ble_eq_true rfl)) EEs.nil))))))⟩
  · cases h
  · rename_i _ _ hp
    rw [show frontV t = (1, 1) by cases t <;> first | rfl | exact absurd rfl (hp _)]
    exact FnSpec.at 71 T.defs (by decide +kernel) (by decide +kernel) ⟨_, (ES.cons (ES1.if_f (ET.and_f (ET.conv (ET.eq (EE.kind (EE.name 0 rfl rfl) EE.int) EE.str (Nat.le_of_ble_eq_true rfl)) (by rw [kProd]; cases t <;> first | rfl | exact absurd rfl (hp _)))) ES.nil) (ES.ret (ES1.ret (EE.tuple (EEs.cons EE.int (EEs.cons EE.int EEs.nil))))))⟩
theorem sp_baseE (t : Tm) : FnSpec G 0 (Str.ofString "base_and_exponent") [encT X t] (.tup [encT X (baseE t).1, encT X (baseE t).2]) := by
  by_cases hp : isPow t = true
  · cases t with
    | pow b e => exact FnSpec.at 72 T.defs (by decide +kernel) (by decide +kernel) ⟨_, (ES.ret (ES1.ret (EE.ite_t (ET.conv (ET.eq (EE.item_t (EE.name 0 rfl rfl) EE.int rfl rfl (Nat.le_of_ble_eq_true rfl)) EE.str (Nat.le_of_ble_eq_true rfl)) (by decide +kernel)) (EE.tuple (EEs.cons (EE.item_t (EE.name 0 rfl rfl) EE.int rfl rfl (Nat.le_of_ble_eq_true rfl)) (EEs.cons (EE.item_t (EE.name 0 rfl rfl) EE.int rfl rfl (Nat.le_of_ble_eq_true rfl)) EEs.nil))))))⟩
    | _ => exact absurd hp (by simp [isPow])
  · rw [show baseE t = (t, .num 1 1) by cases t <;> first | rfl | exact absurd rfl hp]
    exact FnSpec.at 72 T.defs (by decide +kernel) (by decide +kernel) ⟨_, (ES.ret (ES1.ret (EE.ite_f (ET.conv (ET.eq (EE.kind (EE.name 0 rfl rfl) EE.int) EE.str (Nat.le_of_ble_eq_true rfl)) (by rw [kPow]; simpa using hp)) (EE.tuple (EEs.cons (EE.name 0 rfl rfl) (EEs.cons (EE.glob 1 rfl T.TONE) EEs.nil))))))⟩
theorem sp_exps {a b : Tm} {r : Int} (h : cmpExps a b = some r) : FnSpec G 2 (Str.ofString "compare_exponents") [encT X a, encT X b] (.int r) := by
  cases a <;> cases b <;> first | (simp [cmpExps] at h; done) | skip
  rename_i a b c d
  exact FnSpec.at 74 T.defs (by decide +kernel) (by decide +kernel) ⟨_, (ES.ret (ES1.if_t (ET.and_t (ET.conv (ET.of_bool (EE.call 2 (sp_is_num T X _) (by first | decide | lia) rfl (EEs.cons (EE.name 0 rfl rfl) EEs.nil))) (by rfl)) (ET.and_t (ET.conv (ET.of_bool (EE.call 2 (sp_is_num T X _) (by first | decide | lia) rfl (EEs.cons (EE.name 1 rfl rfl) EEs.nil))) (by rfl)) ET.and_nil)) (ES.ret (ES1.ret (EE.call 3 (sp_cmpV T h) (by first | decide | lia) rfl (EEs.cons (EE.call 4 (sp_num_of T X _ _ ) (by first | decide | lia) rfl (EEs.cons (EE.name 1 rfl rfl) EEs.nil)) (EEs.cons (EE.call 4 (sp_num_of T X _ _ ) (by first | decide | lia) rfl (EEs.cons (EE.name 0 rfl rfl) EEs.nil)) EEs.nil)))))))⟩
variable {X} {m : Nat} {c : Tm → Tm → Option Int} (hc : CmpOk G X m c)
include hc
theorem sp_rows {a b : List Tm} {r : Int} (h : cmpRows c a b = some r) : FnSpec G (m + 1) (Str.ofString "compare_rows") [.tup (a.map (encT X)), .tup (b.map (encT X))] (.int r) := by
  unfold cmpRows at h
  split at h
  · split at h
    · cases h
    · rename_i a1 a2 b1 b2 _ r1 h1
      split at h
      · rename_i h0
        subst h0
        split at h
        · cases h
        · rename_i _ r2 h2
          split at h
          · cases h
          · rename_i hn
            cases h
            exact FnSpec.at 73 T.defs (by decide +kernel) (by decide +kernel) ⟨_, ES.ret (ES1.for (EI.range 4 (EE.conv (EE.bcall 5 (bs_min ) (.b _) (by decide) boot_min rfl (EEs.cons (EE.bcall 6 (bs_len_t (Nat.le_of_ble_eq_true rfl)) (.b _) (by decide) boot_len rfl (EEs.cons (EE.name 0 rfl rfl) EEs.nil)) (EEs.cons (EE.bcall 6 (bs_len_t (Nat.le_of_ble_eq_true rfl)) (.b _) (by decide) boot_len rfl (EEs.cons (EE.name 1 rfl rfl) EEs.nil)) EEs.nil))) (congrArg D.int (show _ = ((2:Nat):Int) by rfl))) rfl (Nat.le_of_ble_eq_true rfl)) (EFo.cons 2 rfl (by decide) (ES.cons (ES1.assign 3 (EE.call 7 (hc _ _ _ h1) (by first | decide | lia) rfl (EEs.cons (EE.item_t (EE.name 0 rfl rfl) (EE.name 2 rfl rfl) rfl rfl (Nat.le_of_ble_eq_true rfl)) (EEs.cons (EE.item_t (EE.name 1 rfl rfl) (EE.name 2 rfl rfl) rfl rfl (Nat.le_of_ble_eq_true rfl)) EEs.nil)))) (ES.cons (ES1.if_f (ET.conv (ET.ine (EE.name 3 rfl rfl) EE.int) (by rfl)) ES.nil) ES.nil)) (EFo.ret 2 rfl (by decide) (ES.cons (ES1.assign 3 (EE.call 7 (hc _ _ _ h2) (by first | decide | lia) rfl (EEs.cons (EE.item_t (EE.name 0 rfl rfl) (EE.name 2 rfl rfl) rfl rfl (Nat.le_of_ble_eq_true rfl)) (EEs.cons (EE.item_t (EE.name 1 rfl rfl) (EE.name 2 rfl rfl) rfl rfl (Nat.le_of_ble_eq_true rfl)) EEs.nil)))) (ES.ret (ES1.if_t (ET.conv (ET.ine (EE.name 3 rfl rfl) EE.int) (by simpa using hn)) (ES.ret (ES1.ret (EE.name 3 rfl rfl)))))))))⟩
      · rename_i hn
        cases h
        exact FnSpec.at 73 T.defs (by decide +kernel) (by decide +kernel) ⟨_, ES.ret (ES1.for (EI.range 4 (EE.conv (EE.bcall 5 (bs_min ) (.b _) (by decide) boot_min rfl (EEs.cons (EE.bcall 6 (bs_len_t (Nat.le_of_ble_eq_true rfl)) (.b _) (by decide) boot_len rfl (EEs.cons (EE.name 0 rfl rfl) EEs.nil)) (EEs.cons (EE.bcall 6 (bs_len_t (Nat.le_of_ble_eq_true rfl)) (.b _) (by decide) boot_len rfl (EEs.cons (EE.name 1 rfl rfl) EEs.nil)) EEs.nil))) (congrArg D.int (show _ = ((2:Nat):Int) by rfl))) rfl (Nat.le_of_ble_eq_true rfl)) (EFo.ret 2 rfl (by decide) (ES.cons (ES1.assign 3 (EE.call 7 (hc _ _ _ h1) (by first | decide | lia) rfl (EEs.cons (EE.item_t (EE.name 0 rfl rfl) (EE.name 2 rfl rfl) rfl rfl (Nat.le_of_ble_eq_true rfl)) (EEs.cons (EE.item_t (EE.name 1 rfl rfl) (EE.name 2 rfl rfl) rfl rfl (Nat.le_of_ble_eq_true rfl)) EEs.nil)))) (ES.ret (ES1.if_t (ET.conv (ET.ine (EE.name 3 rfl rfl) EE.int) (by simpa using hn)) (ES.ret (ES1.ret (EE.name 3 rfl rfl))))))))⟩
  · cases h
theorem sp_rowsL {a b : List Tm} {r : Int} (h : cmpRows c a b = some r) : FnSpec G (m + 1) (Str.ofString "compare_rows") [.tup (encTL X a), .tup (encTL X b)] (.int r) := by
  rw [encTL_map, encTL_map]; exact sp_rows T hc h
theorem sp_bases {a b : Tm} {r : Int} (h : cmpBases c a b = some r) : FnSpec G (m + 2) (Str.ofString "compare_bases") [encT X a, encT X b] (.int r) := by
  unfold cmpBases at h
  by_cases hr : rankT a = rankT b
  · rw [if_pos hr] at h
    split at h
    · cases h
      exact FnSpec.at 75 T.defs (by decide +kernel) (by decide +kernel) ⟨_, (ES.cons (ES1.assign 2 (EE.call 4 ((by first | exact sp_sgn T _ _ | exact sp_sgnEq T _) ) (by first | decide | lia) rfl (EEs.cons (EE.ranks T 5 rfl (EE.kind (EE.name 0 rfl rfl) EE.int)) (EEs.cons (EE.ranks T 5 rfl (EE.kind (EE.name 1 rfl rfl) EE.int)) EEs.nil)))) (ES.cons (ES1.if_f (ET.conv (ET.ine (EE.name 2 rfl rfl) EE.int) (by decide)) ES.nil) (ES.cons (ES1.assign 3 (EE.kind (EE.name 0 rfl rfl) EE.int)) (ES.cons (ES1.if_f (ET.conv (ET.eq (EE.name 3 rfl rfl) EE.str (Nat.le_of_ble_eq_true rfl)) (by decide +kernel)) ES.nil) (ES.ret (ES1.if_t (ET.conv (ET.eq (EE.name 3 rfl rfl) EE.str (Nat.le_of_ble_eq_true rfl)) (by decide +kernel)) (ES.ret (ES1.ret (EE.call 4 ((by first | exact sp_sgn T _ _ | exact sp_sgnEq T _) ) (by first | decide | lia) rfl (EEs.cons (EE.item_t (EE.name 0 rfl rfl) EE.int rfl rfl (Nat.le_of_ble_eq_true rfl)) (EEs.cons (EE.item_t (EE.name 1 rfl rfl) EE.int rfl rfl (Nat.le_of_ble_eq_true rfl)) EEs.nil)))))))))))⟩
    · rename_i l m'
      exact FnSpec.at 75 T.defs (by decide +kernel) (by decide +kernel) ⟨_, (ES.cons (ES1.assign 2 (EE.call 4 (sp_sgn T _ _ ) (by first | decide | lia) rfl (EEs.cons (EE.ranks T 5 rfl (EE.kind (EE.name 0 rfl rfl) EE.int)) (EEs.cons (EE.ranks T 5 rfl (EE.kind (EE.name 1 rfl rfl) EE.int)) EEs.nil)))) (ES.cons (ES1.if_f (ET.conv (ET.ine (EE.name 2 rfl rfl) EE.int) (by simp only [kindS, rankT]; decide +kernel)) ES.nil) (ES.cons (ES1.assign 3 (EE.kind (EE.name 0 rfl rfl) EE.int)) (ES.cons (ES1.if_f (ET.conv (ET.eq (EE.name 3 rfl rfl) EE.str (Nat.le_of_ble_eq_true rfl)) (by simp only [kindS, rankT]; decide +kernel)) ES.nil) (ES.cons (ES1.if_f (ET.conv (ET.eq (EE.name 3 rfl rfl) EE.str (Nat.le_of_ble_eq_true rfl)) (by simp only [kindS, rankT]; decide +kernel)) ES.nil) (ES.cons (ES1.if_f (ET.conv (ET.eq (EE.name 3 rfl rfl) EE.str (Nat.le_of_ble_eq_true rfl)) (by simp only [kindS, rankT]; decide +kernel)) ES.nil) (ES.ret (ES1.if_t (ET.conv (ET.in_tup (EE.name 3 rfl rfl) (EE.tuple (EEs.cons EE.str (EEs.cons EE.str (EEs.cons EE.str EEs.nil)))) (by simp only [kindS, rankT]; decide +kernel)) (by simp only [kindS, rankT]; decide +kernel)) (ES.ret (ES1.ret (EE.call 8 (sp_rowsL T hc h) (by first | decide | lia) rfl (EEs.cons (EE.item_t (EE.name 0 rfl rfl) EE.int rfl rfl (Nat.le_of_ble_eq_true rfl)) (EEs.cons (EE.item_t (EE.name 1 rfl rfl) EE.int rfl rfl (Nat.le_of_ble_eq_true rfl)) EEs.nil)))))))))))))⟩
    · cases h
  · rw [if_neg hr] at h
    cases h
    exact FnSpec.at 75 T.defs (by decide +kernel) (by decide +kernel) ⟨_, (ES.cons (ES1.assign 2 (EE.call 4 (sp_sgn T _ _ ) (by first | decide | lia) rfl (EEs.cons (EE.ranks T 5 rfl (EE.kind (EE.name 0 rfl rfl) EE.int)) (EEs.cons (EE.ranks T 5 rfl (EE.kind (EE.name 1 rfl rfl) EE.int)) EEs.nil)))) (ES.ret (ES1.if_t (ET.conv (ET.ine (EE.name 2 rfl rfl) EE.int) (by simp only [sgn,hr,if_false]; split <;> rfl)) (ES.ret (ES1.ret (EE.name 2 rfl rfl))))))⟩
theorem sp_factors {a b : Tm} {r : Int} (h : cmpFactors c a b = some r) : FnSpec G (m + 3) (Str.ofString "compare_factors") [encT X a, encT X b] (.int r) := by
  unfold cmpFactors at h
  split at h
  · cases h
  · rename_i _ r1 h1
    split at h
    · rename_i h0
      subst h0
      exact FnSpec.at 76 T.defs (by decide +kernel) (by decide +kernel) ⟨_, (ES.cons (ES1.unpack (l := [(Str.ofString "base", _), (Str.ofString "exponent", _)]) (EE.call 7 (sp_baseE T X _ ) (by first | decide | lia) rfl (EEs.cons (EE.name 0 rfl rfl) EEs.nil)) (.cons 2 _ rfl (by decide) (.cons 3 _ rfl (by decide) .nil)) rfl (fun _ => (.name (.name .nil))) (fun _ => rfl)) (ES.cons (ES1.unpack (l := [(Str.ofString "other_base", _), (Str.ofString "other_exponent", _)]) (EE.call 7 (sp_baseE T X _ ) (by first | decide | lia) rfl (EEs.cons (EE.name 1 rfl rfl) EEs.nil)) (.cons 4 _ rfl (by decide) (.cons 5 _ rfl (by decide) .nil)) rfl (fun _ => (.name (.name .nil))) (fun _ => rfl)) (ES.cons (ES1.assign 6 (EE.call 8 (sp_bases T hc h1) (by first | decide | lia) rfl (EEs.cons (EE.name 2 rfl rfl) (EEs.cons (EE.name 4 rfl rfl) EEs.nil)))) (ES.ret (ES1.ret (EE.ite_f (ET.conv (ET.ine (EE.name 6 rfl rfl) EE.int) (by rfl)) (EE.call 9 (sp_exps T X h) (by first | decide | lia) rfl (EEs.cons (EE.name 3 rfl rfl) (EEs.cons (EE.name 5 rfl rfl) EEs.nil)))))))))⟩
    · rename_i hn
      cases h
      exact FnSpec.at 76 T.defs (by decide +kernel) (by decide +kernel) ⟨_, (ES.cons (ES1.unpack (l := [(Str.ofString "base", _), (Str.ofString "exponent", _)]) (EE.call 7 (sp_baseE T X _ ) (by first | decide | lia) rfl (EEs.cons (EE.name 0 rfl rfl) EEs.nil)) (.cons 2 _ rfl (by decide) (.cons 3 _ rfl (by decide) .nil)) rfl (fun _ => (.name (.name .nil))) (fun _ => rfl)) (ES.cons (ES1.unpack (l := [(Str.ofString "other_base", _), (Str.ofString "other_exponent", _)]) (EE.call 7 (sp_baseE T X _ ) (by first | decide | lia) rfl (EEs.cons (EE.name 1 rfl rfl) EEs.nil)) (.cons 4 _ rfl (by decide) (.cons 5 _ rfl (by decide) .nil)) rfl (fun _ => (.name (.name .nil))) (fun _ => rfl)) (ES.cons (ES1.assign 6 (EE.call 8 (sp_bases T hc h1) (by first | decide | lia) rfl (EEs.cons (EE.name 2 rfl rfl) (EEs.cons (EE.name 4 rfl rfl) EEs.nil)))) (ES.ret (ES1.ret (EE.ite_t (ET.conv (ET.ine (EE.name 6 rfl rfl) EE.int) (by simpa using hn)) (EE.name 6 rfl rfl)))))))⟩
theorem sp_cmpTB {a b : Tm} {r : Int} (h : cmpTB c a b = some r) : FnSpec G (m + 4) (Str.ofString "compare_terms") [encT X a, encT X b] (.int r) := by
  unfold cmpTB at h
  split at h
  · exact FnSpec.at 77 T.defs (by decide +kernel) (by decide +kernel) ⟨_, (ES.ret (ES1.if_t (ET.and_t (ET.conv (ET.of_bool (EE.call 6 (sp_is_num T X _) (by first | decide | lia) rfl (EEs.cons (EE.name 0 rfl rfl) EEs.nil))) (by rfl)) (ET.and_t (ET.conv (ET.of_bool (EE.call 6 (sp_is_num T X _) (by first | decide | lia) rfl (EEs.cons (EE.name 1 rfl rfl) EEs.nil))) (by rfl)) ET.and_nil)) (ES.ret (ES1.ret (EE.call 7 (sp_cmpV T h) (by first | decide | lia) rfl (EEs.cons (EE.call 8 (sp_num_of T X _ _ ) (by first | decide | lia) rfl (EEs.cons (EE.name 0 rfl rfl) EEs.nil)) (EEs.cons (EE.call 8 (sp_num_of T X _ _ ) (by first | decide | lia) rfl (EEs.cons (EE.name 1 rfl rfl) EEs.nil)) EEs.nil)))))))⟩
  · split at h
    · rename_i hn
      obtain ⟨ha, hb, fa, fb⟩ := hn
      split at h
      · rename_i p q ea eb
        have za : (match a with | .prod m => m.length | _ => 0) ≤ 1000 := by unfold frontOk at fa; split at fa <;> simp_all
        have zb : (match b with | .prod m => m.length | _ => 0) ≤ 1000 := by unfold frontOk at fb; split at fb <;> simp_all
        split at h
        · cases h
        · rename_i _ r1 h1
          split at h
          · rename_i h0
            subst h0
            exact FnSpec.at 77 T.defs (by decide +kernel) (by decide +kernel) ⟨_, (ES.cons (ES1.if_f (ET.and_f (ET.conv (ET.of_bool (EE.call 6 (sp_is_num T X _) (by first | decide | lia) rfl (EEs.cons (EE.name 0 rfl rfl) EEs.nil))) (by exact ha))) ES.nil) (ES.cons (ES1.if_f (ET.conv (ET.ne (EE.call 6 (sp_is_num T X _) (by first | decide | lia) rfl (EEs.cons (EE.name 0 rfl rfl) EEs.nil)) (EE.call 6 (sp_is_num T X _) (by first | decide | lia) rfl (EEs.cons (EE.name 1 rfl rfl) EEs.nil)) (Nat.le_of_ble_eq_true rfl)) (by rw [ha,hb]; rfl)) ES.nil) (ES.cons (ES1.assign_swap (ys := [Str.ofString "ones", Str.ofString "others"]) (EEs.cons (EE.call 9 (sp_bare T X ea za) (by first | decide | lia) rfl (EEs.cons (EE.name 0 rfl rfl) EEs.nil)) (EEs.cons (EE.call 9 (sp_bare T X eb zb) (by first | decide | lia) rfl (EEs.cons (EE.name 1 rfl rfl) EEs.nil)) EEs.nil)) (.cons 3 _ rfl (by decide) (.cons 2 _ rfl (by decide) .nil)) rfl) (ES.cons (ES1.for (EI.range 10 (EE.conv (EE.bcall 11 (bs_min ) (.b _) (by decide) boot_min rfl (EEs.cons (EE.bcall 12 (bs_len_m (Nat.le_of_ble_eq_true rfl)) (.b _) (by decide) boot_len rfl (EEs.cons (EE.name 2 rfl rfl) EEs.nil)) (EEs.cons (EE.bcall 12 (bs_len_m (Nat.le_of_ble_eq_true rfl)) (.b _) (by decide) boot_len rfl (EEs.cons (EE.name 3 rfl rfl) EEs.nil)) EEs.nil))) (congrArg D.int (show _ = ((1:Nat):Int) by rfl))) rfl (Nat.le_of_ble_eq_true rfl)) (EFo.cons 4 rfl (by decide) (ES.cons (ES1.assign 5 (EE.call 13 (sp_factors T hc h1) (by first | decide | lia) rfl (EEs.cons (EE.item_l' (EE.name 2 rfl rfl) (EE.name 4 rfl rfl) (ItemAt.nat (j := 0) rfl (Nat.le_of_ble_eq_true rfl))) (EEs.cons (EE.item_l' (EE.name 3 rfl rfl) (EE.name 4 rfl rfl) (ItemAt.nat (j := 0) rfl (Nat.le_of_ble_eq_true rfl))) EEs.nil)))) (ES.cons (ES1.if_f (ET.conv (ET.ine (EE.name 5 rfl rfl) EE.int) (by rfl)) ES.nil) ES.nil)) EFo.nil)) (ES.cons (ES1.assign 5 (EE.call 14 (sp_sgn T _ _ ) (by first | decide | lia) rfl (EEs.cons (EE.bcall 12 (bs_len_m (Nat.le_of_ble_eq_true rfl)) (.b _) (by decide) boot_len rfl (EEs.cons (EE.name 3 rfl rfl) EEs.nil)) (EEs.cons (EE.bcall 12 (bs_len_m (Nat.le_of_ble_eq_true rfl)) (.b _) (by decide) boot_len rfl (EEs.cons (EE.name 2 rfl rfl) EEs.nil)) EEs.nil)))) (ES.ret (ES1.ret (EE.ite_f (ET.conv (ET.ine (EE.name 5 rfl rfl) EE.int) (by rfl)) (EE.call 7 (sp_cmpV T h) (by first | decide | lia) rfl (EEs.cons (EE.call 15 (sp_frontV T X fa) (by first | decide | lia) rfl (EEs.cons (EE.name 0 rfl rfl) EEs.nil)) (EEs.cons (EE.call 15 (sp_frontV T X fb) (by first | decide | lia) rfl (EEs.cons (EE.name 1 rfl rfl) EEs.nil)) EEs.nil)))))))))))⟩
          · rename_i hn
            cases h
            exact FnSpec.at 77 T.defs (by decide +kernel) (by decide +kernel) ⟨_, (ES.cons (ES1.if_f (ET.and_f (ET.conv (ET.of_bool (EE.call 6 (sp_is_num T X _) (by first | decide | lia) rfl (EEs.cons (EE.name 0 rfl rfl) EEs.nil))) (by exact ha))) ES.nil) (ES.cons (ES1.if_f (ET.conv (ET.ne (EE.call 6 (sp_is_num T X _) (by first | decide | lia) rfl (EEs.cons (EE.name 0 rfl rfl) EEs.nil)) (EE.call 6 (sp_is_num T X _) (by first | decide | lia) rfl (EEs.cons (EE.name 1 rfl rfl) EEs.nil)) (Nat.le_of_ble_eq_true rfl)) (by rw [ha,hb]; rfl)) ES.nil) (ES.cons (ES1.assign_swap (ys := [Str.ofString "ones", Str.ofString "others"]) (EEs.cons (EE.call 9 (sp_bare T X ea za) (by first | decide | lia) rfl (EEs.cons (EE.name 0 rfl rfl) EEs.nil)) (EEs.cons (EE.call 9 (sp_bare T X eb zb) (by first | decide | lia) rfl (EEs.cons (EE.name 1 rfl rfl) EEs.nil)) EEs.nil)) (.cons 3 _ rfl (by decide) (.cons 2 _ rfl (by decide) .nil)) rfl) (ES.ret (ES1.for (EI.range 10 (EE.conv (EE.bcall 11 (bs_min ) (.b _) (by decide) boot_min rfl (EEs.cons (EE.bcall 12 (bs_len_m (Nat.le_of_ble_eq_true rfl)) (.b _) (by decide) boot_len rfl (EEs.cons (EE.name 2 rfl rfl) EEs.nil)) (EEs.cons (EE.bcall 12 (bs_len_m (Nat.le_of_ble_eq_true rfl)) (.b _) (by decide) boot_len rfl (EEs.cons (EE.name 3 rfl rfl) EEs.nil)) EEs.nil))) (congrArg D.int (show _ = ((1:Nat):Int) by rfl))) rfl (Nat.le_of_ble_eq_true rfl)) (EFo.ret 4 rfl (by decide) (ES.cons (ES1.assign 5 (EE.call 13 (sp_factors T hc h1) (by first | decide | lia) rfl (EEs.cons (EE.item_l' (EE.name 2 rfl rfl) (EE.name 4 rfl rfl) (ItemAt.nat (j := 0) rfl (Nat.le_of_ble_eq_true rfl))) (EEs.cons (EE.item_l' (EE.name 3 rfl rfl) (EE.name 4 rfl rfl) (ItemAt.nat (j := 0) rfl (Nat.le_of_ble_eq_true rfl))) EEs.nil)))) (ES.ret (ES1.if_t (ET.conv (ET.ine (EE.name 5 rfl rfl) EE.int) (by simpa using hn)) (ES.ret (ES1.ret (EE.name 5 rfl rfl))))))))))))⟩
      · cases h
    · cases h
end
end Mine

end -- WJ
section -- WK
open PySem PySem.W PyProof.Rows PySem.Calls
set_option maxRecDepth 100000
set_option linter.unusedVariables false
set_option linter.unusedSimpArgs false
set_option linter.unusedSectionVars false
namespace Mine
section
variable {G : GC} (T : Tops G) (X : Str)
include T
theorem sp_cmpT {a b : Tm} {r : Int} (h : cmpT a b = some r) : FnSpec G 8 (Str.ofString "compare_terms") [encT X a, encT X b] (.int r) :=
  sp_cmpTB (m := 4) T (X := X) (c := cmpT0) (fun a b r h => sp_cmpTB (m := 0) T (X := X) (c := fun _ _ => none) (fun _ _ _ h => nomatch h) h) h
theorem sp_merged {a b : Tm} {r : Int} (h : cmpT a b = some r) : FnSpec G 9 (Str.ofString "merged_terms") [.lst ([a].map (encT X)), .lst ([b].map (encT X))] (.lst ((if r ≤ 0 then [a, b] else [b, a]).map (encT X))) := by
  by_cases hr : r ≤ 0
  · rw [if_pos hr]
    exact FnSpec.at 78 T.defs (by decide +kernel) (by decide +kernel) ⟨_, (ES.assign_swap_own (ys1 := []) (ys2 := [Str.ofString "at", Str.ofString "spot"]) 2 (EEsO.own (EF.list EEs.nil) (EEs.cons EE.int (EEs.cons EE.int EEs.nil))) (.cons 4 _ rfl (by decide) (.cons 3 _ rfl (by decide) .nil)) (fun _ => .nil) (fun ad => ES.forget (ES.cons (ES1.while (EW.step (ET.or_t (ET.conv (ET.ilt (EE.name 3 rfl rfl) (EE.bcall 6 (bs_len_m (Nat.le_of_ble_eq_true rfl)) (.b _) (by decide) boot_len rfl (EEs.cons (EE.name 0 rfl rfl) EEs.nil))) (by rfl))) (ES.cons (ES1.assign 5 (EE.or_f (EE.conv (EE.ige (EE.name 4 rfl rfl) (EE.bcall 6 (bs_len_m (Nat.le_of_ble_eq_true rfl)) (.b _) (by decide) boot_len rfl (EEs.cons (EE.name 1 rfl rfl) EEs.nil))) (congrArg D.bool (by rfl))) (EE.or_nil1 (EE.and_t (EE.conv (EE.ilt (EE.name 3 rfl rfl) (EE.bcall 6 (bs_len_m (Nat.le_of_ble_eq_true rfl)) (.b _) (by decide) boot_len rfl (EEs.cons (EE.name 0 rfl rfl) EEs.nil))) (congrArg D.bool (by rfl))) (EE.and_nil1 (EE.ile (EE.call 7 (sp_cmpT T X h) (by first | decide | omega) rfl (EEs.cons (EE.item_l' (EE.name 0 rfl rfl) (EE.name 3 rfl rfl) (ItemAt.nat (j := 0) rfl (Nat.le_of_ble_eq_true rfl))) (EEs.cons (EE.item_l' (EE.name 1 rfl rfl) (EE.name 4 rfl rfl) (ItemAt.nat (j := 0) rfl (Nat.le_of_ble_eq_true rfl))) EEs.nil))) EE.int)))))) (ES.cons (ES1.if_t (ET.conv (ET.of_bool (EE.name 5 rfl rfl)) (by simpa using hr)) (ES.cons (ES1.append 2 rfl rfl (EE.item_l' (EE.name 0 rfl rfl) (EE.name 3 rfl rfl) (ItemAt.nat (j := 0) rfl (Nat.le_of_ble_eq_true rfl))) rfl (Nat.le_of_ble_eq_true rfl)) (ES.cons (ES1.aug_add 3 EE.int rfl rfl) ES.nil))) ES.nil)) (EW.step (ET.or_f (ET.conv (ET.ilt (EE.name 3 rfl rfl) (EE.bcall 6 (bs_len_m (Nat.le_of_ble_eq_true rfl)) (.b _) (by decide) boot_len rfl (EEs.cons (EE.name 0 rfl rfl) EEs.nil))) (by rfl)) (ET.or_t (ET.conv (ET.ilt (EE.name 4 rfl rfl) (EE.bcall 6 (bs_len_m (Nat.le_of_ble_eq_true rfl)) (.b _) (by decide) boot_len rfl (EEs.cons (EE.name 1 rfl rfl) EEs.nil))) (by rfl)))) (ES.cons (ES1.assign 5 (EE.or_f (EE.conv (EE.ige (EE.name 4 rfl rfl) (EE.bcall 6 (bs_len_m (Nat.le_of_ble_eq_true rfl)) (.b _) (by decide) boot_len rfl (EEs.cons (EE.name 1 rfl rfl) EEs.nil))) (congrArg D.bool (by rfl))) (EE.or_nil1 (EE.and_f (EE.conv (EE.ilt (EE.name 3 rfl rfl) (EE.bcall 6 (bs_len_m (Nat.le_of_ble_eq_true rfl)) (.b _) (by decide) boot_len rfl (EEs.cons (EE.name 0 rfl rfl) EEs.nil))) (congrArg D.bool (by rfl))))))) (ES.cons (ES1.if_f (ET.conv (ET.of_bool (EE.name 5 rfl rfl)) (by rfl)) (ES.cons (ES1.append 2 rfl rfl (EE.item_l' (EE.name 1 rfl rfl) (EE.name 4 rfl rfl) (ItemAt.nat (j := 0) rfl (Nat.le_of_ble_eq_true rfl))) rfl (Nat.le_of_ble_eq_true rfl)) (ES.cons (ES1.aug_add 4 EE.int rfl rfl) ES.nil))) ES.nil)) (EW.done (ET.or_f (ET.conv (ET.ilt (EE.name 3 rfl rfl) (EE.bcall 6 (bs_len_m (Nat.le_of_ble_eq_true rfl)) (.b _) (by decide) boot_len rfl (EEs.cons (EE.name 0 rfl rfl) EEs.nil))) (by rfl)) (ET.or_f (ET.conv (ET.ilt (EE.name 4 rfl rfl) (EE.bcall 6 (bs_len_m (Nat.le_of_ble_eq_true rfl)) (.b _) (by decide) boot_len rfl (EEs.cons (EE.name 1 rfl rfl) EEs.nil))) (by rfl)) ET.or_nil)))))) (ES.ret (ES1.ret (EE.name_own 2 rfl rfl))))))⟩
  · rw [if_neg hr]
    exact FnSpec.at 78 T.defs (by decide +kernel) (by decide +kernel) ⟨_, (ES.assign_swap_own (ys1 := []) (ys2 := [Str.ofString "at", Str.ofString "spot"]) 2 (EEsO.own (EF.list EEs.nil) (EEs.cons EE.int (EEs.cons EE.int EEs.nil))) (.cons 4 _ rfl (by decide) (.cons 3 _ rfl (by decide) .nil)) (fun _ => .nil) (fun ad => ES.forget (ES.cons (ES1.while (EW.step (ET.or_t (ET.conv (ET.ilt (EE.name 3 rfl rfl) (EE.bcall 6 (bs_len_m (Nat.le_of_ble_eq_true rfl)) (.b _) (by decide) boot_len rfl (EEs.cons (EE.name 0 rfl rfl) EEs.nil))) (by rfl))) (ES.cons (ES1.assign 5 (EE.or_f (EE.conv (EE.ige (EE.name 4 rfl rfl) (EE.bcall 6 (bs_len_m (Nat.le_of_ble_eq_true rfl)) (.b _) (by decide) boot_len rfl (EEs.cons (EE.name 1 rfl rfl) EEs.nil))) (congrArg D.bool (by rfl))) (EE.or_nil1 (EE.and_t (EE.conv (EE.ilt (EE.name 3 rfl rfl) (EE.bcall 6 (bs_len_m (Nat.le_of_ble_eq_true rfl)) (.b _) (by decide) boot_len rfl (EEs.cons (EE.name 0 rfl rfl) EEs.nil))) (congrArg D.bool (by rfl))) (EE.and_nil1 (EE.ile (EE.call 7 (sp_cmpT T X h) (by first | decide | omega) rfl (EEs.cons (EE.item_l' (EE.name 0 rfl rfl) (EE.name 3 rfl rfl) (ItemAt.nat (j := 0) rfl (Nat.le_of_ble_eq_true rfl))) (EEs.cons (EE.item_l' (EE.name 1 rfl rfl) (EE.name 4 rfl rfl) (ItemAt.nat (j := 0) rfl (Nat.le_of_ble_eq_true rfl))) EEs.nil))) EE.int)))))) (ES.cons (ES1.if_f (ET.conv (ET.of_bool (EE.name 5 rfl rfl)) (by simpa using hr)) (ES.cons (ES1.append 2 rfl rfl (EE.item_l' (EE.name 1 rfl rfl) (EE.name 4 rfl rfl) (ItemAt.nat (j := 0) rfl (Nat.le_of_ble_eq_true rfl))) rfl (Nat.le_of_ble_eq_true rfl)) (ES.cons (ES1.aug_add 4 EE.int rfl rfl) ES.nil))) ES.nil)) (EW.step (ET.or_t (ET.conv (ET.ilt (EE.name 3 rfl rfl) (EE.bcall 6 (bs_len_m (Nat.le_of_ble_eq_true rfl)) (.b _) (by decide) boot_len rfl (EEs.cons (EE.name 0 rfl rfl) EEs.nil))) (by rfl))) (ES.cons (ES1.assign 5 (EE.or_t (EE.conv (EE.ige (EE.name 4 rfl rfl) (EE.bcall 6 (bs_len_m (Nat.le_of_ble_eq_true rfl)) (.b _) (by decide) boot_len rfl (EEs.cons (EE.name 1 rfl rfl) EEs.nil))) (congrArg D.bool (by rfl))))) (ES.cons (ES1.if_t (ET.conv (ET.of_bool (EE.name 5 rfl rfl)) (by rfl)) (ES.cons (ES1.append 2 rfl rfl (EE.item_l' (EE.name 0 rfl rfl) (EE.name 3 rfl rfl) (ItemAt.nat (j := 0) rfl (Nat.le_of_ble_eq_true rfl))) rfl (Nat.le_of_ble_eq_true rfl)) (ES.cons (ES1.aug_add 3 EE.int rfl rfl) ES.nil))) ES.nil)) (EW.done (ET.or_f (ET.conv (ET.ilt (EE.name 3 rfl rfl) (EE.bcall 6 (bs_len_m (Nat.le_of_ble_eq_true rfl)) (.b _) (by decide) boot_len rfl (EEs.cons (EE.name 0 rfl rfl) EEs.nil))) (by rfl)) (ET.or_f (ET.conv (ET.ilt (EE.name 4 rfl rfl) (EE.bcall 6 (bs_len_m (Nat.le_of_ble_eq_true rfl)) (.b _) (by decide) boot_len rfl (EEs.cons (EE.name 1 rfl rfl) EEs.nil))) (by rfl)) ET.or_nil)))))) (ES.ret (ES1.ret (EE.name_own 2 rfl rfl))))))⟩
theorem sp_sort0 : FnSpec G 0 (Str.ofString "sort_terms") [.lst (([] : List Tm).map (encT X))] (.lst (([] : List Tm).map (encT X))) :=
  FnSpec.at 79 T.defs (by decide +kernel) (by decide +kernel) ⟨_, (ES.ret (ES1.if_t (ET.conv (ET.ilt (EE.bcall 2 (bs_len_m (Nat.le_of_ble_eq_true rfl)) (.b _) (by decide) boot_len rfl (EEs.cons (EE.name 0 rfl rfl) EEs.nil)) EE.int) (by rfl)) (ES.ret (ES1.ret (EF.val (EF.list_of_m 3 (EE.name 0 rfl rfl) rfl (Nat.le_of_ble_eq_true rfl)))))))⟩
theorem sp_sort1 (a : Tm) : FnSpec G 0 (Str.ofString "sort_terms") [.lst ([a].map (encT X))] (.lst ([a].map (encT X))) :=
  FnSpec.at 79 T.defs (by decide +kernel) (by decide +kernel) ⟨_, (ES.ret (ES1.if_t (ET.conv (ET.ilt (EE.bcall 2 (bs_len_m (Nat.le_of_ble_eq_true rfl)) (.b _) (by decide) boot_len rfl (EEs.cons (EE.name 0 rfl rfl) EEs.nil)) EE.int) (by rfl)) (ES.ret (ES1.ret (EF.val (EF.list_of_m 3 (EE.name 0 rfl rfl) rfl (Nat.le_of_ble_eq_true rfl)))))))⟩
theorem sp_sortT {l : List Tm} {a : Tm} {b : Nat} (h : l.take b = [a]) : FnSpec G 0 (Str.ofString "sort_terms") [.lst ((l.take b).map (encT X))] (.lst ([a].map (encT X))) := by rw [h]; exact sp_sort1 T X a
theorem sp_sortD {l : List Tm} {a : Tm} {b : Nat} (h : l.drop b = [a]) : FnSpec G 0 (Str.ofString "sort_terms") [.lst ((l.drop b).map (encT X))] (.lst ([a].map (encT X))) := by rw [h]; exact sp_sort1 T X a
theorem sp_sort {l m : List Tm} (h : sortM l = some m) : FnSpec G 10 (Str.ofString "sort_terms") [.lst (l.map (encT X))] (.lst (m.map (encT X))) := by
  unfold sortM at h
  split at h
  · cases h; exact (sp_sort0 T X).mono (by decide)
  · cases h; exact (sp_sort1 T X _).mono (by decide)
  · rename_i a b
    split at h
    · cases h
    · rename_i _ r h1
      cases h
      exact FnSpec.at 79 T.defs (by decide +kernel) (by decide +kernel) ⟨_, (ES.cons (ES1.if_f (ET.conv (ET.ilt (EE.bcall 2 (bs_len_m (Nat.le_of_ble_eq_true rfl)) (.b _) (by decide) boot_len rfl (EEs.cons (EE.name 0 rfl rfl) EEs.nil)) EE.int) (by rfl)) ES.nil) (ES.cons (ES1.assign 1 (EE.conv (EE.floordiv (EE.bcall 2 (bs_len_m (Nat.le_of_ble_eq_true rfl)) (.b _) (by decide) boot_len rfl (EEs.cons (EE.name 0 rfl rfl) EEs.nil)) EE.int (by decide)) (congrArg D.int (show Int.fdiv ((2:Nat):Int) 2 = ((1:Nat):Int) by decide)))) (ES.ret (ES1.ret (EE.call 4 (sp_merged T X h1) (by first | decide | omega) rfl (EEs.cons (EE.call 5 ((by first | exact sp_sortT T X rfl | exact sp_sortD T X rfl) ) (by first | decide | omega) rfl (EEs.cons (EE.slice_upto_m (EE.name 0 rfl rfl) (EE.name 1 rfl rfl) (Nat.le_of_ble_eq_true rfl)) EEs.nil)) (EEs.cons (EE.call 5 ((by first | exact sp_sortT T X rfl | exact sp_sortD T X rfl) ) (by first | decide | omega) rfl (EEs.cons (EE.slice_from_m (EE.name 0 rfl rfl) (EE.name 1 rfl rfl) (Nat.le_of_ble_eq_true rfl)) EEs.nil)) EEs.nil)))))))⟩
  · cases h
end
end Mine

end -- WK
section -- WL
open PySem PySem.W PyProof.Rows PySem.Calls
set_option maxRecDepth 100000
set_option linter.unusedVariables false
set_option linter.unusedSimpArgs false
set_option linter.unusedSectionVars false
namespace Mine

noncomputable def numRest : Tm → Option (R × Tm)
  | .num a b => some ((a, b), .num 1 1)
  | .prod [.num a b, x] => some ((a, b), x)
  | .prod _ => none
  | t => some ((1, 1), t)
noncomputable def withNum (r : R) (t : Tm) : Option Tm :=
  if r.1 ≠ 0 ∧ teq t (.num 1 1) = false then
    (if r = (1, 1) then some t else match t with
      | .prod l => if l.length ≠ 0 ∧ l.length ≤ 900 then some (.prod (.num r.1 r.2 :: l)) else none
      | t => some (.prod [.num r.1 r.2, t]))
  else none
noncomputable def kS : Bool → Str
  | true => "sum"
  | false => "prod"
noncomputable def isK : Bool → Tm → Bool
  | true, t => isSum t
  | false, t => isProd t
noncomputable def subs : Bool → Tm → List Tm
  | true, .sum l => l
  | false, .prod l => l
  | _, t => [t]
noncomputable def flatL (k : Bool) : List Tm → List Tm → Option (List Tm)
  | [], acc => some acc
  | t :: ts, acc => if (subs k t).length ≤ 900 ∧ acc.length + (subs k t).length ≤ 900 then flatL k ts (acc ++ subs k t) else none
theorem kK (k : Bool) (t : Tm) : deq (.str (kindS t)) (.str (kS k)) = isK k t := by
  cases k
  · exact kProd t
  · exact kSum t
theorem encT_K (X : Str) {k : Bool} {t : Tm} (h : isK k t = true) : encT X t = .tup [.str (kS k), .tup ((subs k t).map (encT X))] := by
  cases k <;> cases t <;> first | (simp [isK, isSum, isProd] at h; done) | skip
  · exact encT_prod X _
  · exact encT_sum X _
theorem subs_not {k : Bool} {t : Tm} (h : isK k t = false) : subs k t = [t] := by
  cases k <;> cases t <;> first | rfl | (simp [isK, isSum, isProd] at h; done)

theorem EF.listT {G : GC} {n : Nat} {sc : Scope} {ρ ρ₁ : St} {X : Str} {e : Expr} {l : List Tm} (x : EF G n sc ρ e (l.map (encT X)) ρ₁) : EF G n sc ρ e (l.map (encT X)) ρ₁ := x
theorem ES1.extend_m {G : GC} {n : Nat} {sc : Scope} {ρ ρ₁ : St} {α : Type} {φ : α → D} (i : Nat) {y : Str} {k : NameKind} {e : Expr} {a : Addr} {l m : List α} {p ap cp pos : Pos} (e1 : sc.names[i]? = some (y, k)) (e2 : ρ[i]? = some (.own a (l.map φ))) (x : EE G n sc ρ e (.lst (m.map φ)) ρ₁) (e3 : ρ₁[i]? = some (.own a (l.map φ))) (hz : l.length + m.length ≤ 1000)
    (hbase : autoParam (∀ env, attributeBase (.Name y p) "extend" env (eval (.Name y p) env) = eval (.Name y p) env) byRflA) (hline : autoParam ((ap.endLine == cp.line) = true) byRfl)
    (hs : autoParam (∀ env, backTo cp (starEach [e] env) = [(false, eval e env)]) byRflA) :
    ES1 G n sc ρ (.Expr (.Call (.Attribute (.Name y p) "extend" ap) [e] [] cp) pos) .next (ρ₁.set i (.own a ((l ++ m).map φ))) := by
  have := ES1.extend (G := G) (n := n) (sc := sc) (pos := pos) i e1 e2 x e3 (by rw [List.length_map, List.length_map]; lia) hbase hline hs
  rwa [← List.map_append] at this

section
variable {β : Type}
noncomputable def getA (k : Tm) : List (Tm × β) → Option β
  | [] => none
  | (a, v) :: r => if teq a k = true then some v else getA k r
noncomputable def putA (k : Tm) (v : β) (kvs : List (Tm × β)) : List (Tm × β) := if (getA k kvs).isSome then kvs.map (fun p => if teq p.1 k = true then (p.1, v) else p) else kvs ++ [(k, v)]
noncomputable def delA (k : Tm) : List (Tm × β) → List (Tm × β)
  | [] => []
  | (a, v) :: r => if teq a k = true then r else (a, v) :: delA k r
noncomputable def encKV (X : Str) (ψ : β → D) (kvs : List (Tm × β)) : List (D × D) := kvs.map fun p => (encT X p.1, ψ p.2)
theorem getKV_enc (X : Str) (ψ : β → D) (k : Tm) : ∀ kvs : List (Tm × β), getKV (encT X k) (encKV X ψ kvs) = (getA k kvs).map ψ
  | [] => rfl
  | (a, v) :: r => by
    show (if deq (encT X a) (encT X k) = true then some (ψ v) else getKV (encT X k) (encKV X ψ r)) = _
    rw [deq_encT, getKV_enc X ψ k r, show getA k ((a, v) :: r) = if teq a k = true then some v else getA k r from rfl]
    split <;> rfl
theorem delKV_enc (X : Str) (ψ : β → D) (k : Tm) : ∀ kvs : List (Tm × β), delKV (encT X k) (encKV X ψ kvs) = encKV X ψ (delA k kvs)
  | [] => rfl
  | (a, v) :: r => by
    show (if deq (encT X a) (encT X k) = true then encKV X ψ r else (encT X a, ψ v) :: delKV (encT X k) (encKV X ψ r)) = _
    rw [deq_encT, delKV_enc X ψ k r, show delA k ((a, v) :: r) = if teq a k = true then r else (a, v) :: delA k r from rfl]
    split <;> rfl
theorem putKV_enc (X : Str) (ψ : β → D) (k : Tm) (v : β) (kvs : List (Tm × β)) : putKV (encT X k) (ψ v) (encKV X ψ kvs) = encKV X ψ (putA k v kvs) := by
  unfold putKV putA
  rw [getKV_enc, Option.isSome_map]
  split
  · unfold encKV
    rw [List.map_map, List.map_map]
    refine List.map_congr_left fun p _ => ?_
    show (if deq (encT X p.1) (encT X k) = true then (encT X p.1, ψ v) else (encT X p.1, ψ p.2)) = (encT X (if teq p.1 k = true then (p.1, v) else p).1, ψ (if teq p.1 k = true then (p.1, v) else p).2)
    rw [deq_encT]
    split <;> rfl
  · unfold encKV
    rw [List.map_append]; rfl
theorem encT_tup (X : Str) (t : Tm) : ∃ l, encT X t = .tup l := by cases t <;> exact ⟨_, rfl⟩
theorem KeysOk.putT {X : Str} {ψ : β → D} {k : Tm} {v : β} {kvs : List (Tm × β)} (hk : dpT k ≤ 6) (ok : KeysOk (encKV X ψ kvs)) : KeysOk (encKV X ψ (putA k v kvs)) := by
  rw [← putKV_enc]; exact ok.put (keyOk_encT X hk)
theorem KeysOk.delT {X : Str} {ψ : β → D} {k : Tm} {kvs : List (Tm × β)} (ok : KeysOk (encKV X ψ kvs)) : KeysOk (encKV X ψ (delA k kvs)) := by
  rw [← delKV_enc]; exact ok.del
theorem putA_length (k : Tm) (v : β) (kvs : List (Tm × β)) : (putA k v kvs).length ≤ kvs.length + 1 := by
  unfold putA; split <;> simp
theorem delA_length (k : Tm) : ∀ kvs : List (Tm × β), (delA k kvs).length ≤ kvs.length
  | [] => Nat.le_refl _
  | (a, v) :: r => by unfold delA; split <;> simp; exact delA_length k r
variable {G : GC} {n : Nat} {sc : Scope} {ρ ρ₁ ρ₂ : St}
theorem ES1.dict_storeT {X : Str} {ψ : β → D} (i : Nat) {y : Str} {kn : NameKind} {e v : Expr} {a : Addr} {kvs : List (Tm × β)} {t : Tm} {d : β} {p sp pos : Pos} (x : EE G n sc ρ v (ψ d) ρ₁) (e1 : sc.names[i]? = some (y, kn)) (e2 : ρ₁[i]? = some (.dict (hashD G.w) a (encKV X ψ kvs))) (z : EE G n sc ρ₁ e (encT X t) ρ₂) (e3 : ρ₂[i]? = some (.dict (hashD G.w) a (encKV X ψ kvs)))
    (hk : dpT t ≤ 6) (ok : KeysOk (encKV X ψ kvs)) (hz : kvs.length ≤ 1000) (hs : autoParam (∀ env, swapsWith v (some (.Subscript (.Name y p) e sp)) pos.line env = pure false) byRflA) :
    ES1 G n sc ρ (.Assign [.Subscript (.Name y p) e sp] v pos) .next (ρ₂.set i (.dict (hashD G.w) a (encKV X ψ (putA t d kvs)))) := by
  obtain ⟨l, hl⟩ := encT_tup X t
  have hk' : keyOk (.tup l) := hl ▸ keyOk_encT X hk
  rw [hl] at z
  have := ES1.dict_store i x e1 e2 z e3 hk' ok (by rw [encKV, List.length_map]; exact hz) hs
  rwa [← hl, putKV_enc] at this
theorem EE.dict_getT {X : Str} {ψ : β → D} (i : Nat) {y : Str} {kn : NameKind} {e1 e2 : Expr} {a : Addr} {kvs : List (Tm × β)} {t : Tm} {d : β} {p ap cp : Pos} (f1 : sc.names[i]? = some (y, kn)) (f2 : ρ[i]? = some (.dict (hashD G.w) a (encKV X ψ kvs))) (x : EE G n sc ρ e1 (encT X t) ρ₁) (z : EE G n sc ρ₁ e2 (ψ d) ρ₂)
    (f3 : ρ₂[i]? = some (.dict (hashD G.w) a (encKV X ψ kvs))) (hk : dpT t ≤ 6) (ok : KeysOk (encKV X ψ kvs))
    (hbase : autoParam (∀ env, attributeBase (.Name y p) "get" env (eval (.Name y p) env) = eval (.Name y p) env) byRflA) (hline : autoParam ((ap.endLine == cp.line) = true) byRfl)
    (ht : autoParam (∀ env, backTo cp (starEach [e1, e2] env) = [(false, eval e1 env), (false, eval e2 env)]) byRflA) :
    EE G n sc ρ (.Call (.Attribute (.Name y p) "get" ap) [e1, e2] [] cp) (ψ ((getA t kvs).getD d)) ρ₂ := by
  obtain ⟨l, hl⟩ := encT_tup X t
  have hk' : keyOk (.tup l) := hl ▸ keyOk_encT X hk
  rw [hl] at x
  have := EE.dict_get i f1 f2 x z f3 hk' ok hbase hline ht
  rw [← hl, getKV_enc] at this
  rwa [show ((getA t kvs).map ψ).getD (ψ d) = ψ ((getA t kvs).getD d) by cases getA t kvs <;> rfl] at this
theorem EE.dict_popT {X : Str} {ψ : β → D} (i : Nat) {y : Str} {kn : NameKind} {e1 e2 : Expr} {a : Addr} {kvs : List (Tm × β)} {t : Tm} {d : β} {p ap cp : Pos} (f1 : sc.names[i]? = some (y, kn)) (f2 : ρ[i]? = some (.dict (hashD G.w) a (encKV X ψ kvs))) (x : EE G n sc ρ e1 (encT X t) ρ₁) (z : EE G n sc ρ₁ e2 (ψ d) ρ₂)
    (f3 : ρ₂[i]? = some (.dict (hashD G.w) a (encKV X ψ kvs))) (hk : dpT t ≤ 6) (ok : KeysOk (encKV X ψ kvs)) (hz : kvs.length ≤ 1000)
    (hbase : autoParam (∀ env, attributeBase (.Name y p) "pop" env (eval (.Name y p) env) = eval (.Name y p) env) byRflA) (hline : autoParam ((ap.endLine == cp.line) = true) byRfl)
    (ht : autoParam (∀ env, backTo cp (starEach [e1, e2] env) = [(false, eval e1 env), (false, eval e2 env)]) byRflA) :
    EE G n sc ρ (.Call (.Attribute (.Name y p) "pop" ap) [e1, e2] [] cp) (ψ ((getA t kvs).getD d)) (ρ₂.set i (.dict (hashD G.w) a (encKV X ψ (delA t kvs)))) := by
  obtain ⟨l, hl⟩ := encT_tup X t
  have hk' : keyOk (.tup l) := hl ▸ keyOk_encT X hk
  rw [hl] at x
  have := EE.dict_pop i f1 f2 x z f3 hk' ok (by rw [encKV, List.length_map]; exact hz) hbase hline ht
  rw [← hl, getKV_enc, delKV_enc] at this
  rwa [show ((getA t kvs).map ψ).getD (ψ d) = ψ ((getA t kvs).getD d) by cases getA t kvs <;> rfl] at this
theorem ET.in_dictT {X : Str} {ψ : β → D} (i : Nat) {y : Str} {kn : NameKind} {e : Expr} {a : Addr} {kvs : List (Tm × β)} {t : Tm} {p pos : Pos} (x : EE G n sc ρ e (encT X t) ρ₁) (f1 : sc.names[i]? = some (y, kn)) (f2 : ρ₁[i]? = some (.dict (hashD G.w) a (encKV X ψ kvs))) (hk : dpT t ≤ 6) (ok : KeysOk (encKV X ψ kvs)) :
    ET G n sc ρ (.Compare e [.In] [.Name y p] pos) (getA t kvs).isSome ρ₁ := by
  obtain ⟨l, hl⟩ := encT_tup X t
  have hk' : keyOk (.tup l) := hl ▸ keyOk_encT X hk
  rw [hl] at x
  have := ET.in_dict (pos := pos) (p := p) i x f1 f2 hk' ok
  rwa [← hl, getKV_enc, Option.isSome_map] at this
end

section
variable {G : GC} (T : Tops G) (X : Str)
include T
theorem sp_numRest {t : Tm} {q : R × Tm} (h : numRest t = some q) : FnSpec G 0 (Str.ofString "number_and_rest") [encT X t] (.tup [encR q.1, encT X q.2]) := by
  unfold numRest at h
  split at h
  · cases h
    exact FnSpec.at 90 T.defs (by decide +kernel) (by decide +kernel) ⟨_, (ES.ret (ES1.if_t (ET.conv (ET.eq (EE.kind (EE.name 0 rfl rfl) EE.int) EE.str (Nat.le_of_ble_eq_true rfl)) (by simp only [kindS, rankT]; decide +kernel)) (ES.ret (ES1.ret (EE.tuple (EEs.cons (EE.tuple (EEs.cons (EE.item_t (EE.name 0 rfl rfl) EE.int rfl rfl (Nat.le_of_ble_eq_true rfl)) (EEs.cons (EE.item_t (EE.name 0 rfl rfl) EE.int rfl rfl (Nat.le_of_ble_eq_true rfl)) EEs.nil))) (EEs.cons (EE.glob 2 rfl T.ONE) EEs.nil)))))))⟩
  · cases h
    exact FnSpec.at 90 T.defs (by decide +kernel) (by decide +kernel) ⟨_, (ES.cons (ES1.if_f (ET.conv (ET.eq (EE.kind (EE.name 0 rfl rfl) EE.int) EE.str (Nat.le_of_ble_eq_true rfl)) (by simp only [kindS, rankT]; decide +kernel)) ES.nil) (ES.cons (ES1.if_f (ET.or_f (ET.conv (ET.ne (EE.kind (EE.name 0 rfl rfl) EE.int) EE.str (Nat.le_of_ble_eq_true rfl)) (by simp only [kindS, rankT]; decide +kernel)) (ET.or_f (ET.conv (ET.ne (EE.item_t (EE.item_t (EE.item_t (EE.name 0 rfl rfl) EE.int rfl rfl (Nat.le_of_ble_eq_true rfl)) EE.int rfl rfl (Nat.le_of_ble_eq_true rfl)) EE.int rfl rfl (Nat.le_of_ble_eq_true rfl)) EE.str (Nat.le_of_ble_eq_true rfl)) (by decide +kernel)) ET.or_nil)) ES.nil) (ES.cons (ES1.assign 1 (EE.ite_t (ET.conv (ET.ieq (EE.bcall 3 (bs_len_t (Nat.le_of_ble_eq_true rfl)) (.b _) (by decide) boot_len rfl (EEs.cons (EE.item_t (EE.name 0 rfl rfl) EE.int rfl rfl (Nat.le_of_ble_eq_true rfl)) EEs.nil)) EE.int) (by rfl)) (EE.item_t (EE.item_t (EE.name 0 rfl rfl) EE.int rfl rfl (Nat.le_of_ble_eq_true rfl)) EE.int rfl rfl (Nat.le_of_ble_eq_true rfl)))) (ES.ret (ES1.ret (EE.tuple (EEs.cons (EE.tuple (EEs.cons (EE.item_t (EE.item_t (EE.item_t (EE.name 0 rfl rfl) EE.int rfl rfl (Nat.le_of_ble_eq_true rfl)) EE.int rfl rfl (Nat.le_of_ble_eq_true rfl)) EE.int rfl rfl (Nat.le_of_ble_eq_true rfl)) (EEs.cons (EE.item_t (EE.item_t (EE.item_t (EE.name 0 rfl rfl) EE.int rfl rfl (Nat.le_of_ble_eq_true rfl)) EE.int rfl rfl (Nat.le_of_ble_eq_true rfl)) EE.int rfl rfl (Nat.le_of_ble_eq_true rfl)) EEs.nil))) (EEs.cons (EE.name 1 rfl rfl) EEs.nil))))))))⟩
  · cases h
  · rename_i h1 h2 h3
    cases h
    exact FnSpec.at 90 T.defs (by decide +kernel) (by decide +kernel) ⟨_, (ES.cons (ES1.if_f (ET.conv (ET.eq (EE.kind (EE.name 0 rfl rfl) EE.int) EE.str (Nat.le_of_ble_eq_true rfl)) (by rw [kNum]; cases t <;> first | rfl | exact absurd rfl (h1 _ _))) ES.nil) (ES.ret (ES1.if_t (ET.or_t (ET.conv (ET.ne (EE.kind (EE.name 0 rfl rfl) EE.int) EE.str (Nat.le_of_ble_eq_true rfl)) (by rw [kProd]; cases t <;> first | rfl | exact absurd rfl (h3 _)))) (ES.ret (ES1.ret (EE.tuple (EEs.cons (EE.tuple (EEs.cons EE.int (EEs.cons EE.int EEs.nil))) (EEs.cons (EE.name 0 rfl rfl) EEs.nil))))))))⟩
theorem sp_withNum {r : R} {t u : Tm} (h : withNum r t = some u) : FnSpec G 1 (Str.ofString "with_number") [encR r, encT X t] (encT X u) := by
  unfold withNum at h
  split at h
  · rename_i hn
    have h0 := (deq_encT X t (.num 1 1)).trans hn.2
    split at h
    · rename_i hr
      cases h
      exact FnSpec.at 91 T.defs (by decide +kernel) (by decide +kernel) ⟨_, (ES.cons (ES1.if_f (ET.or_f (ET.conv (ET.ieq (EE.item_t (EE.name 0 rfl rfl) EE.int rfl rfl (Nat.le_of_ble_eq_true rfl)) EE.int) (by simpa using hn.1)) (ET.or_f (ET.conv (ET.eq (EE.name 1 rfl rfl) (EE.glob 2 rfl T.ONE) (Nat.le_of_ble_eq_true rfl)) h0) ET.or_nil)) ES.nil) (ES.ret (ES1.if_t (ET.conv (ET.eq (EE.name 0 rfl rfl) (EE.tuple (EEs.cons EE.int (EEs.cons EE.int EEs.nil))) (Nat.le_of_ble_eq_true rfl)) ((deq_R r (1,1)).trans (by simpa using hr))) (ES.ret (ES1.ret (EE.name 1 rfl rfl))))))⟩
    · rename_i hr
      split at h
      · rename_i l
        split at h
        · rename_i hl
          cases h
          rw [encT_prod] at h0 ⊢
          rw [encT_prod]
          exact FnSpec.at 91 T.defs (by decide +kernel) (by decide +kernel) ⟨_, (ES.cons (ES1.if_f (ET.or_f (ET.conv (ET.ieq (EE.item_t (EE.name 0 rfl rfl) EE.int rfl rfl (Nat.le_of_ble_eq_true rfl)) EE.int) (by simpa using hn.1)) (ET.or_f (ET.conv (ET.eq (EE.name 1 rfl rfl) (EE.glob 2 rfl T.ONE) (Nat.le_of_ble_eq_true rfl)) h0) ET.or_nil)) ES.nil) (ES.cons (ES1.if_f (ET.conv (ET.eq (EE.name 0 rfl rfl) (EE.tuple (EEs.cons EE.int (EEs.cons EE.int EEs.nil))) (Nat.le_of_ble_eq_true rfl)) ((deq_R r (1,1)).trans (by simpa using hr))) ES.nil) (ES.ret (ES1.ret (EE.tuple (EEs.cons EE.str (EEs.cons (EE.tuple_add (EE.tuple (EEs.cons (EE.call 3 (sp_number_term T X _ ) (by first | decide | lia) rfl (EEs.cons (EE.name 0 rfl rfl) EEs.nil)) EEs.nil)) (EE.ite_t (ET.conv (ET.eq (EE.item_t (EE.name 1 rfl rfl) EE.int rfl rfl (Nat.le_of_ble_eq_true rfl)) EE.str (Nat.le_of_ble_eq_true rfl)) (by decide +kernel)) (EE.item_t (EE.name 1 rfl rfl) EE.int rfl rfl (Nat.le_of_ble_eq_true rfl))) (by simp) (by simpa using hl.1) (by simp; lia)) EEs.nil)))))))⟩
        · cases h
      · rename_i hp
        cases h
        exact FnSpec.at 91 T.defs (by decide +kernel) (by decide +kernel) ⟨_, (ES.cons (ES1.if_f (ET.or_f (ET.conv (ET.ieq (EE.item_t (EE.name 0 rfl rfl) EE.int rfl rfl (Nat.le_of_ble_eq_true rfl)) EE.int) (by simpa using hn.1)) (ET.or_f (ET.conv (ET.eq (EE.name 1 rfl rfl) (EE.glob 2 rfl T.ONE) (Nat.le_of_ble_eq_true rfl)) h0) ET.or_nil)) ES.nil) (ES.cons (ES1.if_f (ET.conv (ET.eq (EE.name 0 rfl rfl) (EE.tuple (EEs.cons EE.int (EEs.cons EE.int EEs.nil))) (Nat.le_of_ble_eq_true rfl)) ((deq_R r (1,1)).trans (by simpa using hr))) ES.nil) (ES.ret (ES1.ret (EE.tuple (EEs.cons EE.str (EEs.cons (EE.tuple_add (EE.tuple (EEs.cons (EE.call 3 (sp_number_term T X _ ) (by first | decide | lia) rfl (EEs.cons (EE.name 0 rfl rfl) EEs.nil)) EEs.nil)) (EE.ite_f (ET.conv (ET.eq (EE.kind (EE.name 1 rfl rfl) EE.int) EE.str (Nat.le_of_ble_eq_true rfl)) (by rw [kProd]; cases t <;> first | rfl | exact absurd rfl (hp _))) (EE.tuple (EEs.cons (EE.name 1 rfl rfl) EEs.nil))) (by simp) (by simp) (by simp [encTL])) EEs.nil)))))))⟩
  · cases h
omit T in
theorem flat_loop {n : Nat} {A : Slot} {k : Bool} {ad : Addr} {st : St} {body : List Stmt} {p1 : Pos}
    (hb : ∀ (t : Tm) (acc : List Tm), (subs k t).length ≤ 900 ∧ acc.length + (subs k t).length ≤ 900 → ES G n (scAt 92) (A :: .val (.str (kS k)) :: .own ad (acc.map (encT X)) :: .val (encT X t) :: st) body .next (A :: .val (.str (kS k)) :: .own ad ((acc ++ subs k t).map (encT X)) :: .val (encT X t) :: st)) :
    ∀ (ts acc r : List Tm) (s3 : Slot), flatL k ts acc = some r → ∃ s3', EFo G n (scAt 92) (A :: .val (.str (kS k)) :: .own ad (acc.map (encT X)) :: s3 :: st) (.Name (Str.ofString "part") p1) body (ts.map (encT X)) .next (A :: .val (.str (kS k)) :: .own ad (r.map (encT X)) :: s3' :: st)
  | [], acc, r, s3, h => by cases h; exact ⟨_, EFo.nil⟩
  | t :: ts, acc, r, s3, h => by
    unfold flatL at h
    split at h
    · rename_i hz
      obtain ⟨s3', L⟩ := flat_loop hb ts (acc ++ subs k t) r (.val (encT X t)) h
      exact ⟨s3', EFo.cons 3 rfl (by decide) (hb t acc hz) L⟩
    · cases h
theorem sp_flat {k : Bool} {l r : List Tm} (h : flatL k l [] = some r) (hz : l.length ≤ 1000) : FnSpec G 0 (Str.ofString "flat_parts") [.lst (l.map (encT X)), .str (kS k)] (.lst (r.map (encT X))) := by
  refine FnSpec.at 92 T.defs (by decide +kernel) (by decide +kernel) ⟨[], ES1.assign_own 2 (EF.list EEs.nil) (z := fun ad => ?_)⟩
  obtain ⟨s3, L⟩ := flat_loop (G := G) X (n := 0) (A := .val (.lst (l.map (encT X)))) (k := k) (ad := ad) (st := List.replicate 8 .unset) (body := loopBody (stAt 92 1)) (fun t acc hq => by
    by_cases hk : isK k t = true
    · rw [encT_K X hk]
      exact (ES.cons (ES1.extend_m 2 rfl rfl (EE.ite_t (ET.conv (ET.eq (EE.item_t (EE.name 3 rfl rfl) EE.int rfl rfl (Nat.le_of_ble_eq_true rfl)) (EE.name 1 rfl rfl) (Nat.le_of_ble_eq_true rfl)) (deq_refl _)) (EF.val (EF.list_of_t 4 (EE.item_t (EE.name 3 rfl rfl) EE.int rfl rfl (Nat.le_of_ble_eq_true rfl)) rfl (lzm (Nat.le_trans hq.1 (by decide)))))) rfl (Nat.le_trans hq.2 (by decide))) ES.nil)
    · have hk : isK k t = false := by simpa using hk
      rw [subs_not hk] at hq ⊢
      exact (ES.cons (ES1.extend_m 2 rfl rfl (EE.ite_f (ET.conv (ET.eq (EE.kind (EE.name 3 rfl rfl) EE.int) (EE.name 1 rfl rfl) (Nat.le_of_ble_eq_true rfl)) ((kK k t).trans hk)) (EF.val (EF.list (EEs.cons (EE.name 3 rfl rfl) EEs.nil)))) rfl (Nat.le_trans hq.2 (by decide))) ES.nil)) l [] r .unset h
  exact ES.forget (ES.cons (ES1.for (EI.list (EE.name 0 rfl rfl)) L) (ES.ret (ES1.ret (EE.name_own 2 rfl rfl))))
end
end Mine

end -- WL
section -- WM
open PySem PySem.W PyProof.Rows PySem.Calls
set_option maxRecDepth 100000
set_option linter.unusedVariables false
set_option linter.unusedSimpArgs false
set_option linter.unusedSectionVars false
namespace Mine

noncomputable def gsumL : List Tm → List (Tm × R) → Option (List (Tm × R))
  | [], kvs => some kvs
  | t :: ts, kvs => match numRest t with
    | none => none
    | some q => if dpT q.2 ≤ 6 ∧ kvs.length ≤ 900 then
        match raddM ((getA q.2 kvs).getD (0, 1)) q.1 with
        | none => none
        | some s => gsumL ts (putA q.2 s kvs)
      else none
noncomputable def foundS : List (Tm × R) → Option (List Tm)
  | [] => some []
  | q :: kvs => if q.2.1 = 0 then foundS kvs else match withNum q.2 q.1 with
    | none => none
    | some t => match foundS kvs with
      | none => none
      | some l => some (t :: l)
noncomputable def gsumM (parts : List Tm) : Option Tm :=
  if parts.length ≤ 900 then match flatL true parts [] with
    | none => none
    | some ps => if ps.length ≤ 900 then match gsumL ps [] with
      | none => none
      | some kvs => if kvs.length ≤ 900 then match foundS (delA (.num 1 1) kvs) with
        | none => none
        | some fd => if fd.filter isSum = [] ∧ fd.length ≤ 900 then match sortM fd with
          | none => none
          | some fs => some (tsum (fs ++ (if ((getA (.num 1 1) kvs).getD (0, 1)).1 ≠ 0 then [.num ((getA (.num 1 1) kvs).getD (0, 1)).1 ((getA (.num 1 1) kvs).getD (0, 1)).2] else [])))
          else none
        else none
      else none
  else none

theorem cONE {G : GC} (T : Tops G) (X : Str) : ConstIs G "ONE" (encT X (.num 1 1)) := T.ONE
theorem cZERO {G : GC} (T : Tops G) (X : Str) : ConstIs G "ZERO" (encT X (.num 0 1)) := T.ZERO
noncomputable def fin1 (X : Str) : Slot → List (Tm × R) → Slot
  | s, [] => s
  | _, q :: l => fin1 X (.val (encT X q.1)) l
noncomputable def fin2 : Slot → List (Tm × R) → Slot
  | s, [] => s
  | _, q :: l => fin2 (.val (encR q.2)) l
theorem ecd_found {G : GC} {n : Nat} {scC : Scope} {X : Str} {y z : Str} {k1 k2 : NameKind} {p1 p2 p3 : Pos} {kk : Nat} {iter elt c : Expr} {scope : Scope} {pos : Pos} (h1 : scC.names[1]? = some (y, k1)) (c1 : k1 = .local ∨ k1 = .cell) (h2 : scC.names[2]? = some (z, k2)) (c2 : k2 = .local ∨ k2 = .cell)
    (tc : ∀ (t : Tm) (r : R), ET G n scC [.unset, .val (encT X t), .val (encR r), .unset] c (r.1 != 0) [.unset, .val (encT X t), .val (encR r), .unset])
    (b : ∀ (t : Tm) (r : R) (u : Tm), withNum r t = some u → EE G n scC [.unset, .val (encT X t), .val (encR r), .unset] elt (encT X u) [.unset, .val (encT X t), .val (encR r), .unset]) :
    ∀ (kvs : List (Tm × R)) (out : List Tm) (s1 s2 : Slot), foundS kvs = some out → ECd G n scC [.unset, s1, s2, .unset] (.Tuple [.Name y p1, .Name z p2] kk p3) iter [c] elt scope pos (encKV X encR kvs) (out.map (encT X)) [.unset, fin1 X s1 kvs, fin2 s2 kvs, .unset]
  | [], out, s1, s2, h => by cases h; exact ECd.nil
  | (t, r) :: kvs, out, s1, s2, h => by
    unfold foundS at h
    by_cases h0 : r.1 = 0
    · rw [if_pos h0] at h
      have L := ecd_found (iter := iter) (scope := scope) (pos := pos) (p1 := p1) (p2 := p2) (p3 := p3) (kk := kk) h1 c1 h2 c2 tc b kvs out (.val (encT X t)) (.val (encR r)) h
      have q := tc t r
      rw [show (r.1 != 0) = (none : Option D).isSome by simpa using h0] at q
      exact ECd.cons (w := none) 1 2 h1 c1 h2 c2 ⟨c, rfl, q⟩ (fun e h => nomatch h) (fun _ => rfl) L
    · rw [if_neg h0] at h
      split at h
      · cases h
      · rename_i _ u hu
        split at h
        · cases h
        · rename_i _ l hl
          cases h
          have L := ecd_found (iter := iter) (scope := scope) (pos := pos) (p1 := p1) (p2 := p2) (p3 := p3) (kk := kk) h1 c1 h2 c2 tc b kvs l (.val (encT X t)) (.val (encR r)) hl
          have q := tc t r
          rw [show (r.1 != 0) = (some (encT X u)).isSome by simpa using h0] at q
          exact ECd.cons (w := some (encT X u)) 1 2 h1 c1 h2 c2 ⟨c, rfl, q⟩ (fun e h => by cases h; exact b t r u hu) (fun h => nomatch h) L
section
variable {G : GC} (T : Tops G) (X : Str)
include T
omit T in
theorem gsum_loop {n : Nat} {A : Slot} {ad : Addr} {st : St} {body : List Stmt} {p1 : Pos}
    (hb : ∀ (t : Tm) (kvs : List (Tm × R)) (q : R × Tm) (s : R) (s3 s4 : Slot), numRest t = some q → dpT q.2 ≤ 6 → kvs.length ≤ 900 → raddM ((getA q.2 kvs).getD (0, 1)) q.1 = some s → KeysOk (encKV X encR kvs) →
      ES G n (scAt 93) (A :: .dict (hashD G.w) ad (encKV X encR kvs) :: .val (encT X t) :: s3 :: s4 :: st) body .next (A :: .dict (hashD G.w) ad (encKV X encR (putA q.2 s kvs)) :: .val (encT X t) :: .val (encR q.1) :: .val (encT X q.2) :: st)) :
    ∀ (ts : List Tm) (kvs r : List (Tm × R)) (s2 s3 s4 : Slot), gsumL ts kvs = some r → KeysOk (encKV X encR kvs) → KeysOk (encKV X encR r) ∧ ∃ s2' s3' s4', EFo G n (scAt 93) (A :: .dict (hashD G.w) ad (encKV X encR kvs) :: s2 :: s3 :: s4 :: st) (.Name (Str.ofString "part") p1) body (ts.map (encT X)) .next (A :: .dict (hashD G.w) ad (encKV X encR r) :: s2' :: s3' :: s4' :: st)
  | [], kvs, r, s2, s3, s4, h, ok => by cases h; exact ⟨ok, _, _, _, EFo.nil⟩
  | t :: ts, kvs, r, s2, s3, s4, h, ok => by
    unfold gsumL at h
    split at h
    · cases h
    · rename_i _ q hq
      split at h
      · rename_i hz
        split at h
        · cases h
        · rename_i _ s hs
          obtain ⟨ok', s2', s3', s4', L⟩ := gsum_loop hb ts (putA q.2 s kvs) r (.val (encT X t)) (.val (encR q.1)) (.val (encT X q.2)) h (ok.putT hz.1)
          exact ⟨ok', s2', s3', s4', EFo.cons 2 rfl (by decide) (hb t kvs q s s3 s4 hq hz.1 hz.2 hs ok) L⟩
      · cases h
theorem gsum_body {A : Slot} {ad : Addr} {st : St} (t : Tm) (kvs : List (Tm × R)) (q : R × Tm) (s : R) (s3 s4 : Slot) (h1 : numRest t = some q) (h2 : dpT q.2 ≤ 6) (h3 : kvs.length ≤ 900) (h4 : raddM ((getA q.2 kvs).getD (0, 1)) q.1 = some s) (ok : KeysOk (encKV X encR kvs)) :
      ES G 11 (scAt 93) (A :: .dict (hashD G.w) ad (encKV X encR kvs) :: .val (encT X t) :: s3 :: s4 :: st) (loopBody (stAt 93 1)) .next (A :: .dict (hashD G.w) ad (encKV X encR (putA q.2 s kvs)) :: .val (encT X t) :: .val (encR q.1) :: .val (encT X q.2) :: st) :=
  (ES.cons (ES1.unpack (l := [(Str.ofString "r", _), (Str.ofString "rest", _)]) (EE.call 8 (sp_numRest T X h1) (by first | decide | lia) rfl (EEs.cons (EE.name 2 rfl rfl) EEs.nil)) (.cons 3 _ rfl (by decide) (.cons 4 _ rfl (by decide) .nil)) rfl (fun _ => (.name (.name .nil))) (fun _ => rfl)) (ES.cons (ES1.dict_storeT 1 (EE.call 9 (sp_radd T.defs h4) (by first | decide | lia) rfl (EEs.cons (EE.dict_getT (ψ := encR) (d := ((0, 1) : R)) 1 rfl rfl (EE.name 4 rfl rfl) (EE.tuple (EEs.cons EE.int (EEs.cons EE.int EEs.nil))) rfl h2 ok) (EEs.cons (EE.name 3 rfl rfl) EEs.nil))) rfl rfl (EE.name 4 rfl rfl) rfl h2 ok (Nat.le_trans h3 (by decide))) ES.nil))
theorem gsum_end {A B C E F H : Slot} {st : St} {l : List Tm} (hz : l.length ≤ 1000) :
    ∃ ρ', ES G 11 (scAt 93) (A :: B :: C :: E :: F :: H :: .val (.lst (l.map (encT X))) :: st) ((bodyOf (defAt 93)).drop 6) (.ret (encT X (tsum l))) ρ' := by
  rcases l with _ | ⟨x, _ | ⟨y, r⟩⟩
  · exact ⟨_, (ES.ret (ES1.if_t (ET.conv (ET.ieq (EE.bcall 11 (bs_len_m hz) (.b _) (by decide) boot_len rfl (EEs.cons (EE.name 6 rfl rfl) EEs.nil)) EE.int) (by rfl)) (ES.ret (ES1.ret (EE.glob 15 rfl (cZERO T X))))))⟩
  · exact ⟨_, (ES.cons (ES1.if_f (ET.conv (ET.ieq (EE.bcall 11 (bs_len_m hz) (.b _) (by decide) boot_len rfl (EEs.cons (EE.name 6 rfl rfl) EEs.nil)) EE.int) (by rfl)) ES.nil) (ES.ret (ES1.ret (EE.ite_t (ET.conv (ET.ieq (EE.bcall 11 (bs_len_m hz) (.b _) (by decide) boot_len rfl (EEs.cons (EE.name 6 rfl rfl) EEs.nil)) EE.int) (by rfl)) (EE.item_l' (EE.name 6 rfl rfl) EE.int (ItemAt.nat (j := 0) rfl (lzm hz)))))))⟩
  · exact ⟨_, FnSpec.cv (by simp only [tsum, encT, encTL_map]) (ES.cons (ES1.if_f (ET.conv (ET.ieq (EE.bcall 11 (bs_len_m hz) (.b _) (by decide) boot_len rfl (EEs.cons (EE.name 6 rfl rfl) EEs.nil)) EE.int) (by simp; lia)) ES.nil) (ES.ret (ES1.ret (EE.ite_f (ET.conv (ET.ieq (EE.bcall 11 (bs_len_m hz) (.b _) (by decide) boot_len rfl (EEs.cons (EE.name 6 rfl rfl) EEs.nil)) EE.int) (by simp; lia)) (EE.tuple (EEs.cons EE.str (EEs.cons (EE.bcall 16 (bs_tuple (lzm hz)) (.t _) (by decide) boot_tuple rfl (EEs.cons (EE.name 6 rfl rfl) EEs.nil)) EEs.nil)))))))⟩
theorem sp_gsum {parts : List Tm} {r : Tm} (h : gsumM parts = some r) : FnSpec G 11 (Str.ofString "gathered_sum") [.lst (parts.map (encT X))] (encT X r) := by
  unfold gsumM at h
  split at h
  · rename_i hz0
    split at h
    · cases h
    · rename_i _ ps h1
      split at h
      · rename_i hz1
        split at h
        · cases h
        · rename_i _ kvs h2
          split at h
          · rename_i hz2
            split at h
            · cases h
            · rename_i _ fd h3
              split at h
              · rename_i hf
                split at h
                · cases h
                · rename_i _ fs h4
                  cases h
                  have hzs : fs.length ≤ 900 := by
                    have : ∀ {a b : List Tm}, sortM a = some b → b.length = a.length := fun {a b} e => by
                      unfold sortM at e
                      split at e
                      · cases e; rfl
                      · cases e; rfl
                      · split at e
                        · cases e
                        · cases e; split <;> rfl
                      · cases e
                    rw [this h4]; exact hf.2
                  refine FnSpec.at 93 T.defs (by decide +kernel) (by decide +kernel) ⟨[], ES.assign_dict 1 (fun ad => ?_)⟩
                  obtain ⟨ok, s2, s3, s4, L⟩ := gsum_loop (G := G) X (n := 11) (A := .val (.lst (parts.map (encT X)))) (ad := ad) (st := List.replicate 6 .unset) (body := loopBody (stAt 93 1)) (fun t kvs q s s3 s4 a b c d e => gsum_body T X t kvs q s s3 s4 a b c d e) ps [] kvs .unset .unset .unset h2 KeysOk.nil
                  have ok' := ok.delT (k := .num 1 1)
                  have hz3 : (delA (.num 1 1) kvs).length ≤ 1000000 := Nat.le_trans (delA_length _ _) (Nat.le_trans hz2 (by decide))
                  by_cases hn : ((getA (.num 1 1) kvs).getD (0, 1)).1 ≠ 0
                  · rw [if_pos hn]
                    obtain ⟨ρ', E⟩ := gsum_end T X (A := .val (.lst (parts.map (encT X)))) (B := .unset) (C := s2) (E := s3) (F := s4) (H := .val (encR ((getA (.num 1 1) kvs).getD (0, 1)))) (st := List.replicate 4 .unset) (l := fs ++ [.num ((getA (.num 1 1) kvs).getD (0, 1)).1 ((getA (.num 1 1) kvs).getD (0, 1)).2]) (by rw [List.length_append]; simp; lia)
                    exact ES.forget (ES.cons (ES1.for (EI.list (EE.call 7 (sp_flat T X (k:=true) h1 (Nat.le_trans hz0 (by decide))) (by first | decide | lia) rfl (EEs.cons (EE.name 0 rfl rfl) (EEs.cons EE.str EEs.nil)))) L) (ES.cons (ES1.assign 5 (EE.conv (EE.dict_popT (ψ := encR) (d := ((0, 1) : R)) 1 rfl rfl (EE.glob 10 rfl (cONE T X)) (EE.tuple (EEs.cons EE.int (EEs.cons EE.int EEs.nil))) rfl (by decide) ok (Nat.le_trans hz2 (by decide))) (show _ = encR ((getA (.num 1 1) kvs).getD (0,1)) from rfl))) (ES.cons (ES1.assign_comp_items 6 1 rfl rfl (.skip rfl (.skip rfl (.skip rfl (.skip rfl (.nil rfl))))) (ecd_found rfl (by decide) rfl (by decide) (fun t r => (ET.ine (EE.item_t (EE.name 2 rfl rfl) EE.int rfl rfl (Nat.le_of_ble_eq_true rfl)) EE.int)) (fun t r u hu => (EE.call 3 (sp_withNum T X hu) (by first | decide | lia) rfl (EEs.cons (EE.name 2 rfl rfl) (EEs.cons (EE.name 1 rfl rfl) EEs.nil)))) _ _ _ _ h3) (by rw [encKV, List.length_map]; exact hz3) (CompOk.of (by decide +kernel))) (ES.cons (ES1.if_f (ET.conv (ET.igt (EE.bcall 11 (bs_len_l (by rw [hf.1]; simp)) (.b _) (by decide) boot_len rfl (EEs.cons (EF.val (EF.comp (EI.list (EE.name 6 rfl rfl)) (.skip rfl (.skip rfl (.nil rfl))) (eco_filter 1 isSum fd (fun t => ET.conv (ET.eq (EE.kind (EE.name 1 rfl rfl) EE.int) EE.str (Nat.le_of_ble_eq_true rfl)) (kSum t)) (fun t => (EE.name 1 rfl rfl))) (lzm (Nat.le_trans hf.2 (by decide))) (CompOk.of (by decide +kernel)))) EEs.nil)) EE.int) (by rw [hf.1]; rfl)) ES.nil) (ES.cons (ES1.assign 6 (EE.conv (EF.val (EF.list_add (EE.call 14 (sp_sort T X h4) (by first | decide | lia) rfl (EEs.cons (EE.name 6 rfl rfl) EEs.nil)) (EE.ite_t (ET.conv (ET.ine (EE.item_t (EE.name 5 rfl rfl) EE.int rfl rfl (Nat.le_of_ble_eq_true rfl)) EE.int) (by simpa using hn)) (EF.val (EF.list (EEs.cons (EE.call 13 (sp_number_term T X _ ) (by first | decide | lia) rfl (EEs.cons (EE.name 5 rfl rfl) EEs.nil)) EEs.nil)))) (by simp; lia))) (show _ = D.lst ((fs ++ [Tm.num ((getA (.num 1 1) kvs).getD (0,1)).1 ((getA (.num 1 1) kvs).getD (0,1)).2]).map (encT X)) by simp))) E)))))
                  · rw [if_neg hn]
                    obtain ⟨ρ', E⟩ := gsum_end T X (A := .val (.lst (parts.map (encT X)))) (B := .unset) (C := s2) (E := s3) (F := s4) (H := .val (encR ((getA (.num 1 1) kvs).getD (0, 1)))) (st := List.replicate 4 .unset) (l := fs ++ []) (by rw [List.length_append]; simp; lia)
                    exact ES.forget (ES.cons (ES1.for (EI.list (EE.call 7 (sp_flat T X (k:=true) h1 (Nat.le_trans hz0 (by decide))) (by first | decide | lia) rfl (EEs.cons (EE.name 0 rfl rfl) (EEs.cons EE.str EEs.nil)))) L) (ES.cons (ES1.assign 5 (EE.conv (EE.dict_popT (ψ := encR) (d := ((0, 1) : R)) 1 rfl rfl (EE.glob 10 rfl (cONE T X)) (EE.tuple (EEs.cons EE.int (EEs.cons EE.int EEs.nil))) rfl (by decide) ok (Nat.le_trans hz2 (by decide))) (show _ = encR ((getA (.num 1 1) kvs).getD (0,1)) from rfl))) (ES.cons (ES1.assign_comp_items 6 1 rfl rfl (.skip rfl (.skip rfl (.skip rfl (.skip rfl (.nil rfl))))) (ecd_found rfl (by decide) rfl (by decide) (fun t r => (ET.ine (EE.item_t (EE.name 2 rfl rfl) EE.int rfl rfl (Nat.le_of_ble_eq_true rfl)) EE.int)) (fun t r u hu => (EE.call 3 (sp_withNum T X hu) (by first | decide | lia) rfl (EEs.cons (EE.name 2 rfl rfl) (EEs.cons (EE.name 1 rfl rfl) EEs.nil)))) _ _ _ _ h3) (by rw [encKV, List.length_map]; exact hz3) (CompOk.of (by decide +kernel))) (ES.cons (ES1.if_f (ET.conv (ET.igt (EE.bcall 11 (bs_len_l (by rw [hf.1]; simp)) (.b _) (by decide) boot_len rfl (EEs.cons (EF.val (EF.comp (EI.list (EE.name 6 rfl rfl)) (.skip rfl (.skip rfl (.nil rfl))) (eco_filter 1 isSum fd (fun t => ET.conv (ET.eq (EE.kind (EE.name 1 rfl rfl) EE.int) EE.str (Nat.le_of_ble_eq_true rfl)) (kSum t)) (fun t => (EE.name 1 rfl rfl))) (lzm (Nat.le_trans hf.2 (by decide))) (CompOk.of (by decide +kernel)))) EEs.nil)) EE.int) (by rw [hf.1]; rfl)) ES.nil) (ES.cons (ES1.assign 6 (EE.conv (EF.val (EF.list_add (EE.call 14 (sp_sort T X h4) (by first | decide | lia) rfl (EEs.cons (EE.name 6 rfl rfl) EEs.nil)) (EE.ite_f (ET.conv (ET.ine (EE.item_t (EE.name 5 rfl rfl) EE.int rfl rfl (Nat.le_of_ble_eq_true rfl)) EE.int) (by simpa using hn)) (EF.val (EF.list EEs.nil))) (by simp; lia))) (show _ = D.lst ((fs ++ ([] : List Tm)).map (encT X)) by simp))) E)))))
              · cases h
          · cases h
      · cases h
  · cases h
end
end Mine

end -- WM
section -- WN
open PySem PySem.W PyProof.Rows PySem.Calls
set_option maxRecDepth 100000
set_option linter.unusedVariables false
set_option linter.unusedSimpArgs false
set_option linter.unusedSectionVars false
namespace Mine

noncomputable def powM (b e : Tm) : Option Tm :=
  if teq e (.num 0 1) = true then (if teq b (.num 0 1) = true then none else some (.num 1 1))
  else if teq e (.num 1 1) = true then some b
  else if isNum e = true ∧ (isSym b = true ∨ isSum b = true) then some (.pow b e) else none
noncomputable def gprodL : List Tm → R → List (Tm × Tm) → Option (R × List (Tm × Tm))
  | [], r, kvs => some (r, kvs)
  | t :: ts, r, kvs => match t with
    | .num a b => match rmulM r (a, b) with
      | none => none
      | some q => gprodL ts q kvs
    | t => if dpT (baseE t).1 ≤ 6 ∧ kvs.length ≤ 900 ∧ (getA (baseE t).1 kvs).isSome = false then gprodL ts r (putA (baseE t).1 (baseE t).2 kvs) else none
noncomputable def madeL : List (Tm × Tm) → Option (List Tm)
  | [] => some []
  | q :: kvs => match powM q.1 q.2 with
    | none => none
    | some m => if isNum m = false ∧ isProd m = false ∧ teq (baseE m).1 q.1 = true ∧ dpT q.1 ≤ 6 then match madeL kvs with
      | none => none
      | some l => some (m :: l)
      else none
noncomputable def gprodM (parts : List Tm) : Option Tm :=
  if parts.length ≤ 900 then match flatL false parts [] with
    | none => none
    | some ps => if ps.length ≤ 900 then match gprodL ps (1, 1) [] with
      | none => none
      | some q => if q.1.1 ≠ 0 ∧ q.2.length ≤ 900 then match madeL q.2 with
        | none => none
        | some fd => match sortM fd with
          | none => none
          | some fs => if fs.length = 0 then some (.num q.1.1 q.1.2) else withNum q.1 (tprod fs)
        else none
      else none
  else none

theorem exp_ne (X : Str) (t : Tm) (l : List D) : deq (encT X t) (.tup (.str (Str.ofString "call") :: l)) = false := by
  cases t <;> simp only [encT] <;> exact tag_ne (by decide +kernel) _ _
theorem sort_length {a b : List Tm} (e : sortM a = some b) : b.length = a.length := by
  unfold sortM at e
  split at e
  · cases e; rfl
  · cases e; rfl
  · split at e
    · cases e
    · cases e; split <;> rfl
  · cases e
section
variable {G : GC} (T : Tops G) (X : Str)
include T
theorem sp_one_call (t : Tm) (s : Str) : FnSpec G 0 (Str.ofString "is_one_call") [encT X t, .str s] (.bool false) :=
  FnSpec.at 94 T.defs (by decide +kernel) (by decide +kernel) ⟨_, (ES.ret (ES1.ret (EE.and_f (EE.conv (EE.eq (EE.kind (EE.name 0 rfl rfl) EE.int) EE.str (Nat.le_of_ble_eq_true rfl)) (congrArg D.bool (kCall t))))))⟩
theorem sp_whole (a b : Int) : FnSpec G 0 (Str.ofString "is_whole_num") [encT X (.num a b)] (.bool (b == 1)) :=
  FnSpec.at 65 T.defs (by decide +kernel) (by decide +kernel) ⟨_, (ES.ret (ES1.ret (EE.and_t (EE.conv (EE.eq (EE.kind (EE.name 0 rfl rfl) EE.int) EE.str (Nat.le_of_ble_eq_true rfl)) (congrArg D.bool (by simp only [kindS, rankT]; decide +kernel))) (EE.and_nil1 (EE.ieq (EE.item_t (EE.name 0 rfl rfl) EE.int rfl rfl (Nat.le_of_ble_eq_true rfl)) EE.int)))))⟩
theorem sp_as_power (t : Tm) : FnSpec G 1 (Str.ofString "as_power") [encT X t] (.tup [encT X (baseE t).1, encT X (baseE t).2]) := by
  by_cases hp : isPow t = true
  · cases t with
    | pow b e => exact FnSpec.at 95 T.defs (by decide +kernel) (by decide +kernel) ⟨_, (ES.ret (ES1.if_t (ET.conv (ET.eq (EE.kind (EE.name 0 rfl rfl) EE.int) EE.str (Nat.le_of_ble_eq_true rfl)) (by simp only [kindS, rankT]; decide +kernel)) (ES.ret (ES1.ret (EE.tuple (EEs.cons (EE.item_t (EE.name 0 rfl rfl) EE.int rfl rfl (Nat.le_of_ble_eq_true rfl)) (EEs.cons (EE.item_t (EE.name 0 rfl rfl) EE.int rfl rfl (Nat.le_of_ble_eq_true rfl)) EEs.nil)))))))⟩
    | _ => exact absurd hp (by simp [isPow])
  · rw [show baseE t = (t, .num 1 1) by cases t <;> first | rfl | exact absurd rfl hp]
    exact FnSpec.at 95 T.defs (by decide +kernel) (by decide +kernel) ⟨_, (ES.cons (ES1.if_f (ET.conv (ET.eq (EE.kind (EE.name 0 rfl rfl) EE.int) EE.str (Nat.le_of_ble_eq_true rfl)) ((kPow t).trans (by simpa using hp))) ES.nil) (ES.cons (ES1.if_f (ET.conv (ET.of_bool (EE.call 1 (sp_one_call T X _ _ ) (by first | decide | omega) rfl (EEs.cons (EE.name 0 rfl rfl) (EEs.cons EE.str EEs.nil)))) (by rfl)) ES.nil) (ES.ret (ES1.ret (EE.tuple (EEs.cons (EE.name 0 rfl rfl) (EEs.cons (EE.glob 3 rfl (cONE T X)) EEs.nil)))))))⟩
theorem sp_pow {b e r : Tm} (h : powM b e = some r) : FnSpec G 2 (Str.ofString "power_of") [encT X b, encT X e] (encT X r) := by
  unfold powM at h
  split at h
  · rename_i h0
    split at h
    · cases h
    · rename_i h1
      cases h
      exact FnSpec.at 97 T.defs (by decide +kernel) (by decide +kernel) ⟨_, (ES.ret (ES1.if_t (ET.conv (ET.eq (EE.name 1 rfl rfl) (EE.glob 2 rfl (cZERO T X)) (Nat.le_of_ble_eq_true rfl)) ((deq_encT X e (.num 0 1)).trans h0)) (ES.cons (ES1.if_f (ET.conv (ET.eq (EE.name 0 rfl rfl) (EE.glob 2 rfl (cZERO T X)) (Nat.le_of_ble_eq_true rfl)) ((deq_encT X b (.num 0 1)).trans (by simpa using h1))) ES.nil) (ES.ret (ES1.ret (EE.glob 4 rfl (cONE T X)))))))⟩
  · rename_i h0
    have e0 := (deq_encT X e (.num 0 1)).trans (by simpa using h0)
    split at h
    · rename_i h1
      cases h
      exact FnSpec.at 97 T.defs (by decide +kernel) (by decide +kernel) ⟨_, (ES.cons (ES1.if_f (ET.conv (ET.eq (EE.name 1 rfl rfl) (EE.glob 2 rfl (cZERO T X)) (Nat.le_of_ble_eq_true rfl)) e0) ES.nil) (ES.ret (ES1.if_t (ET.conv (ET.eq (EE.name 1 rfl rfl) (EE.glob 4 rfl (cONE T X)) (Nat.le_of_ble_eq_true rfl)) ((deq_encT X e (.num 1 1)).trans h1)) (ES.ret (ES1.ret (EE.name 0 rfl rfl))))))⟩
    · rename_i h1
      have e1 := (deq_encT X e (.num 1 1)).trans (by simpa using h1)
      split at h
      · rename_i hn
        cases h
        obtain ⟨hn, hb⟩ := hn
        have b1 : isNum b = false := by cases b <;> simp_all [isNum, isSym, isSum]
        have b2 : isProd b = false := by cases b <;> simp_all [isProd, isSym, isSum]
        have b3 : isPow b = false := by cases b <;> simp_all [isPow, isSym, isSum]
        cases e with
        | num p q =>
          have b4 : dAny (.str (kindS b)) [.str (Str.ofString "prod"), .str (Str.ofString "pow")] = false := by cases b <;> simp only [kindS] <;> first | decide +kernel | simp_all [isProd, isPow]
          by_cases hq : (q == 1) = true
          · exact FnSpec.at 97 T.defs (by decide +kernel) (by decide +kernel) ⟨_, (ES.cons (ES1.if_f (ET.conv (ET.eq (EE.name 1 rfl rfl) (EE.glob 2 rfl (cZERO T X)) (Nat.le_of_ble_eq_true rfl)) e0) ES.nil) (ES.cons (ES1.if_f (ET.conv (ET.eq (EE.name 1 rfl rfl) (EE.glob 4 rfl (cONE T X)) (Nat.le_of_ble_eq_true rfl)) e1) ES.nil) (ES.cons (ES1.if_f (ET.conv (ET.eq (EE.name 0 rfl rfl) (EE.glob 5 rfl T.EXPONE) (Nat.le_of_ble_eq_true rfl)) (exp_ne X _ _)) ES.nil) (ES.cons (ES1.if_f (ET.conv (ET.eq (EE.kind (EE.name 0 rfl rfl) EE.int) EE.str (Nat.le_of_ble_eq_true rfl)) ((kNum b).trans b1)) ES.nil) (ES.cons (ES1.if_f (ET.and_t (ET.conv (ET.of_bool (EE.call 8 (sp_whole T X _ _ ) (by first | decide | omega) rfl (EEs.cons (EE.name 1 rfl rfl) EEs.nil))) hq) (ET.and_f (ET.conv (ET.eq (EE.kind (EE.name 0 rfl rfl) EE.int) EE.str (Nat.le_of_ble_eq_true rfl)) ((kProd b).trans b2)))) ES.nil) (ES.cons (ES1.if_f (ET.and_t (ET.conv (ET.of_bool (EE.call 8 (sp_whole T X _ _ ) (by first | decide | omega) rfl (EEs.cons (EE.name 1 rfl rfl) EEs.nil))) hq) (ET.and_f (ET.conv (ET.eq (EE.kind (EE.name 0 rfl rfl) EE.int) EE.str (Nat.le_of_ble_eq_true rfl)) ((kPow b).trans b3)))) ES.nil) (ES.cons (ES1.if_f (ET.and_t (ET.conv (ET.of_bool (EE.call 8 (sp_whole T X _ _ ) (by first | decide | omega) rfl (EEs.cons (EE.name 1 rfl rfl) EEs.nil))) hq) (ET.and_f (ET.conv (ET.of_bool (EE.call 11 (sp_one_call T X _ _ ) (by first | decide | omega) rfl (EEs.cons (EE.name 0 rfl rfl) (EEs.cons EE.str EEs.nil)))) (by rfl)))) ES.nil) (ES.cons (ES1.if_f (ET.and_t (ET.conv (ET.eq (EE.kind (EE.name 1 rfl rfl) EE.int) EE.str (Nat.le_of_ble_eq_true rfl)) (kNum (.num p q))) (ET.and_f (ET.or_f (ET.conv (ET.in_tup (EE.kind (EE.name 0 rfl rfl) EE.int) (EE.tuple (EEs.cons EE.str (EEs.cons EE.str EEs.nil))) (Nat.zero_le 80)) b4) (ET.or_f (ET.conv (ET.of_bool (EE.call 11 (sp_one_call T X _ _ ) (by first | decide | omega) rfl (EEs.cons (EE.name 0 rfl rfl) (EEs.cons EE.str EEs.nil)))) (by rfl)) ET.or_nil)))) ES.nil) (ES.ret (ES1.ret (EE.tuple (EEs.cons EE.str (EEs.cons (EE.name 0 rfl rfl) (EEs.cons (EE.name 1 rfl rfl) EEs.nil))))))))))))))⟩
          · have hq : (q == 1) = false := by simpa using hq
            exact FnSpec.at 97 T.defs (by decide +kernel) (by decide +kernel) ⟨_, (ES.cons (ES1.if_f (ET.conv (ET.eq (EE.name 1 rfl rfl) (EE.glob 2 rfl (cZERO T X)) (Nat.le_of_ble_eq_true rfl)) e0) ES.nil) (ES.cons (ES1.if_f (ET.conv (ET.eq (EE.name 1 rfl rfl) (EE.glob 4 rfl (cONE T X)) (Nat.le_of_ble_eq_true rfl)) e1) ES.nil) (ES.cons (ES1.if_f (ET.conv (ET.eq (EE.name 0 rfl rfl) (EE.glob 5 rfl T.EXPONE) (Nat.le_of_ble_eq_true rfl)) (exp_ne X _ _)) ES.nil) (ES.cons (ES1.if_f (ET.conv (ET.eq (EE.kind (EE.name 0 rfl rfl) EE.int) EE.str (Nat.le_of_ble_eq_true rfl)) ((kNum b).trans b1)) ES.nil) (ES.cons (ES1.if_f (ET.and_f (ET.conv (ET.of_bool (EE.call 8 (sp_whole T X _ _ ) (by first | decide | omega) rfl (EEs.cons (EE.name 1 rfl rfl) EEs.nil))) hq)) ES.nil) (ES.cons (ES1.if_f (ET.and_f (ET.conv (ET.of_bool (EE.call 8 (sp_whole T X _ _ ) (by first | decide | omega) rfl (EEs.cons (EE.name 1 rfl rfl) EEs.nil))) hq)) ES.nil) (ES.cons (ES1.if_f (ET.and_f (ET.conv (ET.of_bool (EE.call 8 (sp_whole T X _ _ ) (by first | decide | omega) rfl (EEs.cons (EE.name 1 rfl rfl) EEs.nil))) hq)) ES.nil) (ES.cons (ES1.if_f (ET.and_t (ET.conv (ET.eq (EE.kind (EE.name 1 rfl rfl) EE.int) EE.str (Nat.le_of_ble_eq_true rfl)) (kNum (.num p q))) (ET.and_f (ET.or_f (ET.conv (ET.in_tup (EE.kind (EE.name 0 rfl rfl) EE.int) (EE.tuple (EEs.cons EE.str (EEs.cons EE.str EEs.nil))) (Nat.zero_le 80)) b4) (ET.or_f (ET.conv (ET.of_bool (EE.call 11 (sp_one_call T X _ _ ) (by first | decide | omega) rfl (EEs.cons (EE.name 0 rfl rfl) (EEs.cons EE.str EEs.nil)))) (by rfl)) ET.or_nil)))) ES.nil) (ES.ret (ES1.ret (EE.tuple (EEs.cons EE.str (EEs.cons (EE.name 0 rfl rfl) (EEs.cons (EE.name 1 rfl rfl) EEs.nil))))))))))))))⟩
        | _ => exact absurd hn (by simp [isNum])
      · cases h
end
end Mine

end -- WN
section -- WO
open PySem PySem.W PyProof.Rows PySem.Calls
set_option maxRecDepth 100000
set_option linter.unusedVariables false
set_option linter.unusedSimpArgs false
set_option linter.unusedSectionVars false
namespace Mine

section
variable {G : GC} (T : Tops G) (X : Str)
include T
omit T in
theorem prod_loop {n : Nat} {A : Slot} {ad : Addr} {st : St} {body : List Stmt} {p1 : Pos}
    (hb1 : ∀ (a b : Int) (r q : R) (kvs : List (Tm × Tm)) (s4 s5 : Slot), rmulM r (a, b) = some q → ES G n (scAt 96) (A :: .val (encR r) :: .dict (hashD G.w) ad (encKV X (encT X) kvs) :: .val (encT X (.num a b)) :: s4 :: s5 :: st) body .next (A :: .val (encR q) :: .dict (hashD G.w) ad (encKV X (encT X) kvs) :: .val (encT X (.num a b)) :: s4 :: s5 :: st))
    (hb2 : ∀ (t : Tm) (r : R) (kvs : List (Tm × Tm)) (s4 s5 : Slot), isNum t = false → dpT (baseE t).1 ≤ 6 → kvs.length ≤ 900 → (getA (baseE t).1 kvs).isSome = false → KeysOk (encKV X (encT X) kvs) → ES G n (scAt 96) (A :: .val (encR r) :: .dict (hashD G.w) ad (encKV X (encT X) kvs) :: .val (encT X t) :: s4 :: s5 :: st) body .next (A :: .val (encR r) :: .dict (hashD G.w) ad (encKV X (encT X) (putA (baseE t).1 (baseE t).2 kvs)) :: .val (encT X t) :: .val (encT X (baseE t).1) :: .val (encT X (baseE t).2) :: st)) :
    ∀ (ts : List Tm) (r : R) (kvs : List (Tm × Tm)) (q : R × List (Tm × Tm)) (s3 s4 s5 : Slot), gprodL ts r kvs = some q → KeysOk (encKV X (encT X) kvs) → KeysOk (encKV X (encT X) q.2) ∧ ∃ s3' s4' s5', EFo G n (scAt 96) (A :: .val (encR r) :: .dict (hashD G.w) ad (encKV X (encT X) kvs) :: s3 :: s4 :: s5 :: st) (.Name (Str.ofString "part") p1) body (ts.map (encT X)) .next (A :: .val (encR q.1) :: .dict (hashD G.w) ad (encKV X (encT X) q.2) :: s3' :: s4' :: s5' :: st)
  | [], r, kvs, q, s3, s4, s5, h, ok => by cases h; exact ⟨ok, _, _, _, EFo.nil⟩
  | t :: ts, r, kvs, q, s3, s4, s5, h, ok => by
    unfold gprodL at h
    split at h
    · rename_i a b
      split at h
      · cases h
      · rename_i _ q1 h1
        obtain ⟨ok', s3', s4', s5', L⟩ := prod_loop hb1 hb2 ts q1 kvs q (.val (encT X (.num a b))) s4 s5 h ok
        exact ⟨ok', s3', s4', s5', EFo.cons 3 rfl (by decide) (hb1 a b r q1 kvs s4 s5 h1) L⟩
    · rename_i hn
      split at h
      · rename_i hz
        obtain ⟨ok', s3', s4', s5', L⟩ := prod_loop hb1 hb2 ts r _ q (.val (encT X t)) (.val (encT X (baseE t).1)) (.val (encT X (baseE t).2)) h (ok.putT hz.1)
        exact ⟨ok', s3', s4', s5', EFo.cons 3 rfl (by decide) (hb2 t r kvs s4 s5 (by cases t <;> first | rfl | exact absurd rfl (hn _ _)) hz.1 hz.2.1 hz.2.2 ok) L⟩
      · cases h
theorem prod_b1 {A : Slot} {ad : Addr} {st : St} (a b : Int) (r q : R) (kvs : List (Tm × Tm)) (s4 s5 : Slot) (h : rmulM r (a, b) = some q) : ES G 11 (scAt 96) (A :: .val (encR r) :: .dict (hashD G.w) ad (encKV X (encT X) kvs) :: .val (encT X (.num a b)) :: s4 :: s5 :: st) (loopBody (stAt 96 1)) .next (A :: .val (encR q) :: .dict (hashD G.w) ad (encKV X (encT X) kvs) :: .val (encT X (.num a b)) :: s4 :: s5 :: st) :=
  (ES.cons (ES1.if_t (ET.conv (b' := true) (ET.eq (EE.kind (EE.name 3 rfl rfl) EE.int) EE.str (Nat.le_of_ble_eq_true rfl)) (kNum (.num a b))) (ES.cons (ES1.assign 1 (EE.call 10 (sp_rmul T.defs h) (by first | decide | lia) rfl (EEs.cons (EE.name 1 rfl rfl) (EEs.cons (EE.tuple (EEs.cons (EE.item_t (EE.name 3 rfl rfl) EE.int rfl rfl (Nat.le_of_ble_eq_true rfl)) (EEs.cons (EE.item_t (EE.name 3 rfl rfl) EE.int rfl rfl (Nat.le_of_ble_eq_true rfl)) EEs.nil))) EEs.nil)))) ES.nil)) ES.nil)
theorem prod_b2 {A : Slot} {ad : Addr} {st : St} (t : Tm) (r : R) (kvs : List (Tm × Tm)) (s4 s5 : Slot) (h1 : isNum t = false) (h2 : dpT (baseE t).1 ≤ 6) (h3 : kvs.length ≤ 900) (h4 : (getA (baseE t).1 kvs).isSome = false) (ok : KeysOk (encKV X (encT X) kvs)) : ES G 11 (scAt 96) (A :: .val (encR r) :: .dict (hashD G.w) ad (encKV X (encT X) kvs) :: .val (encT X t) :: s4 :: s5 :: st) (loopBody (stAt 96 1)) .next (A :: .val (encR r) :: .dict (hashD G.w) ad (encKV X (encT X) (putA (baseE t).1 (baseE t).2 kvs)) :: .val (encT X t) :: .val (encT X (baseE t).1) :: .val (encT X (baseE t).2) :: st) :=
  (ES.cons (ES1.if_f (ET.conv (b' := false) (ET.eq (EE.kind (EE.name 3 rfl rfl) EE.int) EE.str (Nat.le_of_ble_eq_true rfl)) ((kNum t).trans h1)) (ES.cons (ES1.unpack (l := [(Str.ofString "base", _), (Str.ofString "exponent", _)]) (EE.call 11 (sp_as_power T X _ ) (by first | decide | lia) rfl (EEs.cons (EE.name 3 rfl rfl) EEs.nil)) (.cons 4 _ rfl (by decide) (.cons 5 _ rfl (by decide) .nil)) rfl (fun _ => (.name (.name .nil))) (fun _ => rfl)) (ES.cons (ES1.dict_storeT 2 (EE.ite_f (ET.conv (b' := false) (ET.in_dictT 2 (EE.name 4 rfl rfl) rfl rfl h2 ok) h4) (EE.name 5 rfl rfl)) rfl rfl (EE.name 4 rfl rfl) rfl h2 ok (Nat.le_trans h3 (by decide))) ES.nil))) ES.nil)
omit T in
theorem made_loop {n : Nat} {A B C E : Slot} {ad : Addr} {st : St} {body : List Stmt} {p1 p2 p3 : Pos} {kk : Nat}
    (hb : ∀ (b e m : Tm) (acc : List Tm) (s8 : Slot), powM b e = some m → isNum m = false → isProd m = false → teq (baseE m).1 b = true → dpT b ≤ 6 → acc.length + 1 ≤ 1000 → ES G n (scAt 96) (A :: B :: C :: E :: .val (encT X b) :: .val (encT X e) :: .own ad (acc.map (encT X)) :: .val (.bool true) :: s8 :: st) body .next (A :: B :: C :: E :: .val (encT X b) :: .val (encT X e) :: .own ad ((acc ++ [m]).map (encT X)) :: .val (.bool true) :: .val (encT X m) :: st)) :
    ∀ (kvs : List (Tm × Tm)) (l acc : List Tm) (s4 s5 s8 : Slot), madeL kvs = some l → acc.length + kvs.length ≤ 1000 → ∃ s4' s5' s8', EFd G n (scAt 96) (A :: B :: C :: E :: s4 :: s5 :: .own ad (acc.map (encT X)) :: .val (.bool true) :: s8 :: st) (.Tuple [.Name (Str.ofString "base") p1, .Name (Str.ofString "exponent") p2] kk p3) body (encKV X (encT X) kvs) .next (A :: B :: C :: E :: s4' :: s5' :: .own ad ((acc ++ l).map (encT X)) :: .val (.bool true) :: s8' :: st)
  | [], l, acc, s4, s5, s8, h, hz => by
    cases h
    rw [List.append_nil]
    exact ⟨_, _, _, EFd.nil⟩
  | (b, e) :: kvs, l, acc, s4, s5, s8, h, hz => by
    unfold madeL at h
    split at h
    · cases h
    · rename_i _ m hm
      split at h
      · rename_i hn
        split at h
        · cases h
        · rename_i _ l' hl
          cases h
          have hz' : acc.length + 1 + kvs.length ≤ 1000 := by simp at hz; lia
          obtain ⟨s4', s5', s8', L⟩ := made_loop hb kvs l' (acc ++ [m]) (.val (encT X b)) (.val (encT X e)) (.val (encT X m)) hl (by simp; lia)
          rw [List.append_assoc, List.singleton_append] at L
          exact ⟨s4', s5', s8', EFd.cons 4 5 rfl (by decide) rfl (by decide) (hb b e m acc s8 hm hn.1 hn.2.1 hn.2.2.1 hn.2.2.2 (by lia)) L⟩
      · cases h
theorem made_b {A B C E : Slot} {ad : Addr} {st : St} (b e m : Tm) (acc : List Tm) (s8 : Slot) (h1 : powM b e = some m) (h2 : isNum m = false) (h3 : isProd m = false) (h4 : teq (baseE m).1 b = true) (h5 : dpT b ≤ 6) (h6 : acc.length + 1 ≤ 1000) : ES G 11 (scAt 96) (A :: B :: C :: E :: .val (encT X b) :: .val (encT X e) :: .own ad (acc.map (encT X)) :: .val (.bool true) :: s8 :: st) (loopBody (stAt 96 4)) .next (A :: B :: C :: E :: .val (encT X b) :: .val (encT X e) :: .own ad ((acc ++ [m]).map (encT X)) :: .val (.bool true) :: .val (encT X m) :: st) :=
  (ES.cons (ES1.assign 8 (EE.call 14 (sp_pow T X h1) (by first | decide | lia) rfl (EEs.cons (EE.name 4 rfl rfl) (EEs.cons (EE.name 5 rfl rfl) EEs.nil)))) (ES.cons (ES1.if_f (ET.conv (b' := false) (ET.eq (EE.kind (EE.name 8 rfl rfl) EE.int) EE.str (Nat.le_of_ble_eq_true rfl)) ((kNum m).trans h2)) (ES.cons (ES1.assign 7 (EE.conv (EE.and_t (EE.conv (EE.name 7 rfl rfl) (congrArg D.bool (by rfl))) (EE.and_t (EE.conv (EE.ne (EE.kind (EE.name 8 rfl rfl) EE.int) EE.str (Nat.le_of_ble_eq_true rfl)) (congrArg D.bool (by rw [kProd,h3]; rfl))) (EE.and_nil1 (EE.eq (EE.item_t (EE.call 11 (sp_as_power T X _ ) (by first | decide | lia) rfl (EEs.cons (EE.name 8 rfl rfl) EEs.nil)) EE.int rfl rfl (Nat.le_of_ble_eq_true rfl)) (EE.name 4 rfl rfl) (by rw [dep_encT]; lia))))) (congrArg D.bool ((deq_encT X _ _).trans h4)))) (ES.cons (ES1.append_m 6 rfl rfl (EE.name 8 rfl rfl) rfl h6) ES.nil))) ES.nil))
theorem prod_end {A C E F H I J : Slot} {st : St} {fs : List Tm} {r : R} {q : Tm} (hz : fs.length ≤ 1000) (h0 : r.1 ≠ 0) (h : (if fs.length = 0 then some (.num r.1 r.2) else withNum r (tprod fs)) = some q) :
    ∃ ρ', ES G 11 (scAt 96) (A :: .val (encR r) :: C :: E :: F :: H :: .val (.lst (fs.map (encT X))) :: I :: J :: st) ((bodyOf (defAt 96)).drop 7) (.ret (encT X q)) ρ' := by
  rcases fs with _ | ⟨x, _ | ⟨y, l⟩⟩
  · cases h
    exact ⟨_, (ES.ret (ES1.if_t (ET.or_t (ET.conv (b' := true) (ET.ieq (EE.bcall 18 (bs_len_m hz) (.b _) (by decide) boot_len rfl (EEs.cons (EE.name 6 rfl rfl) EEs.nil)) EE.int) (by rfl))) (ES.ret (ES1.ret (EE.call 16 (sp_number_term T X _ ) (by first | decide | lia) rfl (EEs.cons (EE.name 1 rfl rfl) EEs.nil))))))⟩
  · exact ⟨_, (ES.cons (ES1.if_f (ET.or_f (ET.conv (b' := false) (ET.ieq (EE.bcall 18 (bs_len_m hz) (.b _) (by decide) boot_len rfl (EEs.cons (EE.name 6 rfl rfl) EEs.nil)) EE.int) (by rfl)) (ET.or_f (ET.conv (b' := false) (ET.ieq (EE.item_t (EE.name 1 rfl rfl) EE.int rfl rfl (Nat.le_of_ble_eq_true rfl)) EE.int) (by simpa using h0)) ET.or_nil)) ES.nil) (ES.ret (ES1.ret (EE.call 19 (sp_withNum T X h) (by first | decide | lia) rfl (EEs.cons (EE.name 1 rfl rfl) (EEs.cons (EE.ite_t (ET.conv (b' := true) (ET.ieq (EE.bcall 18 (bs_len_m hz) (.b _) (by decide) boot_len rfl (EEs.cons (EE.name 6 rfl rfl) EEs.nil)) EE.int) (by rfl)) (EE.item_l' (EE.name 6 rfl rfl) EE.int (ItemAt.nat (j := 0) rfl (lzm hz)))) EEs.nil))))))⟩
  · rw [if_neg (by simp)] at h
    have h' : withNum r (.prod (x :: y :: l)) = some q := h
    have sp := sp_withNum T X h'
    rw [encT_prod] at sp
    exact ⟨_, (ES.cons (ES1.if_f (ET.or_f (ET.conv (b' := false) (ET.ieq (EE.bcall 18 (bs_len_m hz) (.b _) (by decide) boot_len rfl (EEs.cons (EE.name 6 rfl rfl) EEs.nil)) EE.int) (by simp; lia)) (ET.or_f (ET.conv (b' := false) (ET.ieq (EE.item_t (EE.name 1 rfl rfl) EE.int rfl rfl (Nat.le_of_ble_eq_true rfl)) EE.int) (by simpa using h0)) ET.or_nil)) ES.nil) (ES.ret (ES1.ret (EE.call 19 (sp ) (by first | decide | lia) rfl (EEs.cons (EE.name 1 rfl rfl) (EEs.cons (EE.ite_f (ET.conv (b' := false) (ET.ieq (EE.bcall 18 (bs_len_m hz) (.b _) (by decide) boot_len rfl (EEs.cons (EE.name 6 rfl rfl) EEs.nil)) EE.int) (by simp; lia)) (EE.tuple (EEs.cons EE.str (EEs.cons (EE.bcall 20 (bs_tuple (lzm hz)) (.t _) (by decide) boot_tuple rfl (EEs.cons (EE.name 6 rfl rfl) EEs.nil)) EEs.nil)))) EEs.nil))))))⟩
theorem sp_gprod {parts : List Tm} {r : Tm} (h : gprodM parts = some r) : FnSpec G 11 (Str.ofString "gathered_product") [.lst (parts.map (encT X))] (encT X r) := by
  unfold gprodM at h
  split at h
  · rename_i hz0
    split at h
    · cases h
    · rename_i _ ps h1
      split at h
      · rename_i hz1
        split at h
        · cases h
        · rename_i _ q h2
          split at h
          · rename_i hz2
            split at h
            · cases h
            · rename_i _ fd h3
              split at h
              · cases h
              · rename_i _ fs h4
                have hfd : ∀ {kvs : List (Tm × Tm)} {l : List Tm}, madeL kvs = some l → l.length = kvs.length := fun {kvs} => by
                  induction kvs with
                  | nil => intro l e; cases e; rfl
                  | cons p kvs ih =>
                    intro l e
                    unfold madeL at e
                    split at e
                    · cases e
                    · split at e
                      · split at e
                        · cases e
                        · rename_i _ l' hl
                          cases e
                          simp [ih hl]
                      · cases e
                have hzs : fs.length ≤ 900 := by rw [sort_length h4, hfd h3]; exact hz2.2
                refine FnSpec.at 96 T.defs (by decide +kernel) (by decide +kernel) ⟨[], ES.assign_swap_dict 1 2 (EE.tuple (EEs.cons EE.int (EEs.cons EE.int EEs.nil))) (fun ad0 => ?_)⟩
                obtain ⟨ok, s3, s4, s5, L⟩ := prod_loop (G := G) X (n := 11) (A := .val (.lst (parts.map (encT X)))) (ad := ad0) (st := List.replicate 5 .unset) (body := loopBody (stAt 96 1)) (fun a b r q kvs s4 s5 h => prod_b1 T X a b r q kvs s4 s5 h) (fun t r kvs s4 s5 a b c d e => prod_b2 T X t r kvs s4 s5 a b c d e) ps (1, 1) [] q .unset .unset .unset h2 KeysOk.nil
                exact ES.forget (ES.cons (ES1.for (EI.list (EE.call 9 (sp_flat T X (k:=false) h1 (Nat.le_trans hz0 (by decide))) (by first | decide | lia) rfl (EEs.cons (EE.name 0 rfl rfl) (EEs.cons EE.str EEs.nil)))) L) (ES.cons (ES1.if_f (ET.conv (b' := false) (ET.ieq (EE.item_t (EE.name 1 rfl rfl) EE.int rfl rfl (Nat.le_of_ble_eq_true rfl)) EE.int) (by simpa using hz2.1)) ES.nil) ((ES.assign_swap_own (ys1 := []) (ys2 := [Str.ofString "is_done"]) 6 (EEsO.own (EF.list EEs.nil) (EEs.cons EE.bool EEs.nil)) (.cons 7 _ rfl (by decide) .nil) (fun _ => .nil) (fun ad => ES.forget (by
                  obtain ⟨s4', s5', s8', L2⟩ := made_loop (G := G) X (n := 11) (A := .val (.lst (parts.map (encT X)))) (B := .val (encR q.1)) (C := .unset) (E := s3) (ad := ad) (st := List.replicate 2 .unset) (body := loopBody (stAt 96 4)) (fun b e m acc s8 a1 a2 a3 a4 a5 a6 => made_b T X b e m acc s8 a1 a2 a3 a4 a5 a6) q.2 fd [] s4 s5 .unset h3 (by simp; lia)
                  obtain ⟨ρ', E⟩ := prod_end T X (A := .val (.lst (parts.map (encT X)))) (C := .unset) (E := s3) (F := s4') (H := s5') (I := .val (.bool true)) (J := s8') (st := List.replicate 2 .unset) (fs := fs) (r := q.1) (by lia) hz2.1 h
                  exact ES.forget (ES.cons (ES1.for_items 2 rfl rfl L2) (ES.cons (ES1.if_f (ET.not (ET.conv (b' := true) (ET.of_bool (EE.name 7 rfl rfl)) (by rfl))) ES.nil) (ES.cons (ES1.assign 6 (EE.call 17 (sp_sort T X h4) (by first | decide | lia) rfl (EEs.cons (EE.name_own 6 rfl rfl) EEs.nil))) E)))))))))
          · cases h
      · cases h
  · cases h
end
end Mine

end -- WO
section -- WP
open PySem PySem.W PyProof.Rows PySem.Calls
set_option maxRecDepth 100000
set_option linter.unusedVariables false
set_option linter.unusedSimpArgs false
set_option linter.unusedSectionVars false
namespace Mine

noncomputable def simpM : Nat → Tm → Option Tm
  | 0, _ => none
  | n + 1, t => match t with
    | .num a b => match ratM a b with
      | none => none
      | some r => some (.num r.1 r.2)
    | .sym => some .sym
    | .pow b e => match simpM n b with
      | none => none
      | some b' => match simpM n e with
        | none => none
        | some e' => powM b' e'
    | .sum l => if l.length ≤ 900 then match mapO (simpM n) l with
      | none => none
      | some l' => gsumM l'
      else none
    | .prod l => if l.length ≤ 900 then match mapO (simpM n) l with
      | none => none
      | some l' => gprodM l'
      else none

section
variable {G : GC} (T : Tops G) (X : Str)
include T
theorem sp_simp : ∀ {n : Nat} {t r : Tm}, simpM n t = some r → FnSpec G (12 + n) (Str.ofString "simplify") [encT X t] (encT X r)
  | 0, t, r, h => by cases h
  | n + 1, t, r, h => by
    have ih : ∀ {t r : Tm}, simpM n t = some r → FnSpec G (12 + n) (Str.ofString "simplify") [encT X t] (encT X r) := fun h => sp_simp h
    unfold simpM at h
    split at h
    · split at h
      · cases h
      · rename_i a b _ q h1
        cases h
        exact FnSpec.at 107 T.defs (by decide +kernel) (by decide +kernel) ⟨_, (ES.cons (ES1.assign 1 (EE.kind (EE.name 0 rfl rfl) EE.int)) (ES.ret (ES1.if_t (ET.conv (b' := true) (ET.eq (EE.name 1 rfl rfl) EE.str (Nat.le_of_ble_eq_true rfl)) (by simp only [kindS, rankT]; decide +kernel)) (ES.ret (ES1.ret (EE.call 3 (sp_number_term T X _ ) (by first | decide | lia) rfl (EEs.cons (EE.call 4 (sp_rat T.defs h1) (by first | decide | lia) rfl (EEs.cons (EE.item_t (EE.name 0 rfl rfl) EE.int rfl rfl (Nat.le_of_ble_eq_true rfl)) (EEs.cons (EE.item_t (EE.name 0 rfl rfl) EE.int rfl rfl (Nat.le_of_ble_eq_true rfl)) EEs.nil))) EEs.nil)))))))⟩
    · cases h
      exact FnSpec.at 107 T.defs (by decide +kernel) (by decide +kernel) ⟨_, (ES.cons (ES1.assign 1 (EE.kind (EE.name 0 rfl rfl) EE.int)) (ES.cons (ES1.if_f (ET.conv (b' := false) (ET.eq (EE.name 1 rfl rfl) EE.str (Nat.le_of_ble_eq_true rfl)) (by simp only [kindS, rankT]; decide +kernel)) ES.nil) (ES.ret (ES1.if_t (ET.conv (b' := true) (ET.eq (EE.name 1 rfl rfl) EE.str (Nat.le_of_ble_eq_true rfl)) (by simp only [kindS, rankT]; decide +kernel)) (ES.ret (ES1.ret (EE.name 0 rfl rfl)))))))⟩
    · split at h
      · cases h
      · rename_i b e _ b' h1
        split at h
        · cases h
        · rename_i _ e' h2
          exact FnSpec.at 107 T.defs (by decide +kernel) (by decide +kernel) ⟨_, (ES.cons (ES1.assign 1 (EE.kind (EE.name 0 rfl rfl) EE.int)) (ES.cons (ES1.if_f (ET.conv (b' := false) (ET.eq (EE.name 1 rfl rfl) EE.str (Nat.le_of_ble_eq_true rfl)) (by simp only [kindS, rankT]; decide +kernel)) ES.nil) (ES.cons (ES1.if_f (ET.conv (b' := false) (ET.eq (EE.name 1 rfl rfl) EE.str (Nat.le_of_ble_eq_true rfl)) (by simp only [kindS, rankT]; decide +kernel)) ES.nil) (ES.ret (ES1.if_t (ET.conv (b' := true) (ET.eq (EE.name 1 rfl rfl) EE.str (Nat.le_of_ble_eq_true rfl)) (by simp only [kindS, rankT]; decide +kernel)) (ES.ret (ES1.ret (EE.call 5 (sp_pow T X h) (by first | decide | lia) rfl (EEs.cons (EE.call 6 (ih h1) (by first | decide | lia) rfl (EEs.cons (EE.item_t (EE.name 0 rfl rfl) EE.int rfl rfl (Nat.le_of_ble_eq_true rfl)) EEs.nil)) (EEs.cons (EE.call 6 (ih h2) (by first | decide | lia) rfl (EEs.cons (EE.item_t (EE.name 0 rfl rfl) EE.int rfl rfl (Nat.le_of_ble_eq_true rfl)) EEs.nil)) EEs.nil))))))))))⟩
    · split at h
      · rename_i l hz
        split at h
        · cases h
        · rename_i _ l' h1
          rw [encT_sum]
          exact FnSpec.at 107 T.defs (by decide +kernel) (by decide +kernel) ⟨_, (ES.cons (ES1.assign 1 (EE.item_t (EE.name 0 rfl rfl) EE.int rfl rfl (Nat.le_of_ble_eq_true rfl))) (ES.cons (ES1.if_f (ET.conv (b' := false) (ET.eq (EE.name 1 rfl rfl) EE.str (Nat.le_of_ble_eq_true rfl)) (by decide +kernel)) ES.nil) (ES.cons (ES1.if_f (ET.conv (b' := false) (ET.eq (EE.name 1 rfl rfl) EE.str (Nat.le_of_ble_eq_true rfl)) (by decide +kernel)) ES.nil) (ES.cons (ES1.if_f (ET.conv (b' := false) (ET.eq (EE.name 1 rfl rfl) EE.str (Nat.le_of_ble_eq_true rfl)) (by decide +kernel)) ES.nil) (ES.cons (ES1.if_f (ET.conv (b' := false) (ET.eq (EE.name 1 rfl rfl) EE.str (Nat.le_of_ble_eq_true rfl)) (by decide +kernel)) ES.nil) (ES.cons (ES1.if_f (ET.conv (b' := false) (ET.eq (EE.name 1 rfl rfl) EE.str (Nat.le_of_ble_eq_true rfl)) (by decide +kernel)) ES.nil) (ES.cons (ES1.assign_comp 2 (EI.tuple (EE.item_t (EE.name 0 rfl rfl) EE.int rfl rfl (Nat.le_of_ble_eq_true rfl))) (.skip rfl (.skip rfl (.skip rfl (.nil rfl)))) (eco_map 1 (simpM n) h1 (fun a b _ h2 => (EE.call 2 (ih h2) (by first | decide | lia) rfl (EEs.cons (EE.name 1 rfl rfl) EEs.nil)))) (lzm (Nat.le_trans hz (by decide))) (CompOk.of (by decide +kernel))) (ES.ret (ES1.if_t (ET.conv (b' := true) (ET.eq (EE.name 1 rfl rfl) EE.str (Nat.le_of_ble_eq_true rfl)) (by decide +kernel)) (ES.ret (ES1.ret (EE.call 8 (sp_gsum T X h) (by first | decide | lia) rfl (EEs.cons (EE.name 2 rfl rfl) EEs.nil)))))))))))))⟩
      · cases h
    · split at h
      · rename_i l hz
        split at h
        · cases h
        · rename_i _ l' h1
          rw [encT_prod]
          exact FnSpec.at 107 T.defs (by decide +kernel) (by decide +kernel) ⟨_, (ES.cons (ES1.assign 1 (EE.item_t (EE.name 0 rfl rfl) EE.int rfl rfl (Nat.le_of_ble_eq_true rfl))) (ES.cons (ES1.if_f (ET.conv (b' := false) (ET.eq (EE.name 1 rfl rfl) EE.str (Nat.le_of_ble_eq_true rfl)) (by decide +kernel)) ES.nil) (ES.cons (ES1.if_f (ET.conv (b' := false) (ET.eq (EE.name 1 rfl rfl) EE.str (Nat.le_of_ble_eq_true rfl)) (by decide +kernel)) ES.nil) (ES.cons (ES1.if_f (ET.conv (b' := false) (ET.eq (EE.name 1 rfl rfl) EE.str (Nat.le_of_ble_eq_true rfl)) (by decide +kernel)) ES.nil) (ES.cons (ES1.if_f (ET.conv (b' := false) (ET.eq (EE.name 1 rfl rfl) EE.str (Nat.le_of_ble_eq_true rfl)) (by decide +kernel)) ES.nil) (ES.cons (ES1.if_f (ET.conv (b' := false) (ET.eq (EE.name 1 rfl rfl) EE.str (Nat.le_of_ble_eq_true rfl)) (by decide +kernel)) ES.nil) (ES.cons (ES1.assign_comp 2 (EI.tuple (EE.item_t (EE.name 0 rfl rfl) EE.int rfl rfl (Nat.le_of_ble_eq_true rfl))) (.skip rfl (.skip rfl (.skip rfl (.nil rfl)))) (eco_map 1 (simpM n) h1 (fun a b _ h2 => (EE.call 2 (ih h2) (by first | decide | lia) rfl (EEs.cons (EE.name 1 rfl rfl) EEs.nil)))) (lzm (Nat.le_trans hz (by decide))) (CompOk.of (by decide +kernel))) (ES.cons (ES1.if_f (ET.conv (b' := false) (ET.eq (EE.name 1 rfl rfl) EE.str (Nat.le_of_ble_eq_true rfl)) (by decide +kernel)) ES.nil) (ES.ret (ES1.ret (EE.ite_t (ET.conv (b' := true) (ET.eq (EE.name 1 rfl rfl) EE.str (Nat.le_of_ble_eq_true rfl)) (by decide +kernel)) (EE.call 9 (sp_gprod T X h) (by first | decide | lia) rfl (EEs.cons (EE.name 2 rfl rfl) EEs.nil)))))))))))))⟩
      · cases h
end
end Mine

end -- WP
section -- WQ
open PySem PySem.W PyProof.Rows PySem.Calls
set_option maxRecDepth 100000
set_option linter.unusedVariables false
set_option linter.unusedSimpArgs false
set_option linter.unusedSectionVars false
namespace Mine

mutual
noncomputable def fromM : Nat → Tm → Option F
  | 0, _ => none
  | n + 1, t => match t with
    | .num a b => match ratM a b with
      | none => none
      | some r => some (fnumber r)
    | .sym => some ([r0, r1], [r1])
    | .pow b e => match fromM n b with
      | none => none
      | some f => match e with
        | .num p q => if p = -1 ∧ q = 1 ∧ f.1.length ≠ 0 then fpowM1 f else none
        | _ => none
    | .sum l => fromL n true l ([], [r1])
    | .prod l => fromL n false l ([r1], [r1])
noncomputable def fromL : Nat → Bool → List Tm → F → Option F
  | 0, _, _, _ => none
  | n + 1, k, [], f => some f
  | n + 1, k, t :: ts, f => match fromM n t with
    | none => none
    | some g => match (if k then faddM f g else fmulM f g) with
      | none => none
      | some h => fromL (n + 1) k ts h
end
noncomputable def polyL : Nat → P → List Tm → Option (List Tm)
  | _, [], acc => some acc
  | i, r :: rs, acc => if r = r0 then polyL (i + 1) rs acc else match ratM r.1 r.2 with
    | none => none
    | some q => match ratM (i : Int) 1 with
      | none => none
      | some e => if acc.length ≤ 900 then polyL (i + 1) rs (acc ++ [.prod [.num q.1 q.2, .pow .sym (.num e.1 e.2)]]) else none
noncomputable def polyM (p : P) : Option Tm := match polyL 0 p [] with
  | none => none
  | some l => if l.length ≤ 900 then simpM 8 (tsum l) else none
noncomputable def toM (f : F) : Option Tm := if f.2 = [r1] then polyM f.1 else match polyM f.1 with
  | none => none
  | some a => match polyM f.2 with
    | none => none
    | some b => simpM 8 (.prod [a, .pow b (.num (-1) 1)])

theorem deq_P (a b : P) : deq (encP a) (encP b) = decide (a = b) := by
  induction a generalizing b with
  | nil => cases b <;> rfl
  | cons x xs ih =>
    cases b with
    | nil => rfl
    | cons y ys =>
      show (deq (encR x) (encR y) && deq (encP xs) (encP ys)) = _
      rw [deq_R, ih]
      simp only [List.cons.injEq, Bool.decide_and]
theorem deq_F (a b : F) : deq (encF a) (encF b) = decide (a = b) := by
  show (deq (encP a.1) (encP b.1) && (deq (encP a.2) (encP b.2) && true)) = _
  rw [deq_P, deq_P, Bool.and_true]
  cases a; cases b
  simp only [Prod.mk.injEq, Bool.decide_and]
theorem cMINUS {G : GC} (T : Tops G) (X : Str) : ConstIs G "T_MINUS" (encT X (.num (-1) 1)) := T.TMINUS
section
variable {G : GC} (T : Tops G) (X : Str)
include T
theorem sp_wexp (a : Int) : FnSpec G 0 (Str.ofString "whole_exponent") [encT X (.num a 1)] (.int a) :=
  FnSpec.at 109 T.defs (by decide +kernel) (by decide +kernel) ⟨_, (ES.ret (ES1.ret (EE.ite_t (ET.and_t (ET.conv (b' := true) (ET.eq (EE.kind (EE.name 0 rfl rfl) EE.int) EE.str (Nat.le_of_ble_eq_true rfl)) (by simp only [kindS, rankT]; decide +kernel)) (ET.and_t (ET.conv (b' := true) (ET.ieq (EE.item_t (EE.name 0 rfl rfl) EE.int rfl rfl (Nat.le_of_ble_eq_true rfl)) EE.int) (by rfl)) ET.and_nil)) (EE.item_t (EE.name 0 rfl rfl) EE.int rfl rfl (Nat.le_of_ble_eq_true rfl)))))⟩
omit T in
theorem poly_loop {n : Nat} {A B : Slot} {ad : Addr} {st : St} {body : List Stmt} {p1 p2 p3 : Pos} {kk : Nat}
    (hb1 : ∀ (i : Nat) (acc : List Tm), ES G n (scAt 112) (A :: B :: .own ad (acc.map (encT X)) :: .val (.int (i : Int)) :: .val (encR r0) :: st) body .next (A :: B :: .own ad (acc.map (encT X)) :: .val (.int (i : Int)) :: .val (encR r0) :: st))
    (hb2 : ∀ (i : Nat) (r q e : R) (acc : List Tm), r ≠ r0 → ratM r.1 r.2 = some q → ratM (i : Int) 1 = some e → acc.length + 1 ≤ 1000 → ES G n (scAt 112) (A :: B :: .own ad (acc.map (encT X)) :: .val (.int (i : Int)) :: .val (encR r) :: st) body .next (A :: B :: .own ad ((acc ++ [Tm.prod [.num q.1 q.2, .pow .sym (.num e.1 e.2)]]).map (encT X)) :: .val (.int (i : Int)) :: .val (encR r) :: st)) :
    ∀ (p : P) (i : Nat) (acc l : List Tm) (s3 s4 : Slot), polyL i p acc = some l → ∃ s3' s4', EFe G n (scAt 112) (A :: B :: .own ad (acc.map (encT X)) :: s3 :: s4 :: st) (.Tuple [.Name (Str.ofString "n") p1, .Name (Str.ofString "r") p2] kk p3) body i (p.map encR) .next (A :: B :: .own ad (l.map (encT X)) :: s3' :: s4' :: st)
  | [], i, acc, l, s3, s4, h => by cases h; exact ⟨_, _, EFe.nil⟩
  | r :: rs, i, acc, l, s3, s4, h => by
    unfold polyL at h
    split at h
    · rename_i h0
      subst h0
      obtain ⟨s3', s4', L⟩ := poly_loop hb1 hb2 rs (i + 1) acc l (.val (.int (i : Int))) (.val (encR r0)) h
      exact ⟨s3', s4', EFe.cons 3 4 rfl (by decide) rfl (by decide) (hb1 i acc) L⟩
    · rename_i h0
      split at h
      · cases h
      · rename_i _ q h1
        split at h
        · cases h
        · rename_i _ e h2
          split at h
          · rename_i hz
            obtain ⟨s3', s4', L⟩ := poly_loop hb1 hb2 rs (i + 1) _ l (.val (.int (i : Int))) (.val (encR r)) h
            exact ⟨s3', s4', EFe.cons 3 4 rfl (by decide) rfl (by decide) (hb2 i r q e acc h0 h1 h2 (by lia)) L⟩
          · cases h
theorem poly_b1 {A : Slot} {ad : Addr} {st : St} (i : Nat) (acc : List Tm) : ES G 21 (scAt 112) (A :: .val (encT X .sym) :: .own ad (acc.map (encT X)) :: .val (.int (i : Int)) :: .val (encR r0) :: st) (loopBody (stAt 112 1)) .next (A :: .val (encT X .sym) :: .own ad (acc.map (encT X)) :: .val (.int (i : Int)) :: .val (encR r0) :: st) :=
  (ES.cons (ES1.if_f (ET.conv (b' := false) (ET.ne (EE.name 4 rfl rfl) (EE.glob 6 rfl T.R0) (by decide +kernel)) (by decide)) ES.nil) ES.nil)
theorem poly_b2 {A : Slot} {ad : Addr} {st : St} (i : Nat) (r q e : R) (acc : List Tm) (h0 : r ≠ r0) (h1 : ratM r.1 r.2 = some q) (h2 : ratM (i : Int) 1 = some e) (h3 : acc.length + 1 ≤ 1000) : ES G 21 (scAt 112) (A :: .val (encT X .sym) :: .own ad (acc.map (encT X)) :: .val (.int (i : Int)) :: .val (encR r) :: st) (loopBody (stAt 112 1)) .next (A :: .val (encT X .sym) :: .own ad ((acc ++ [Tm.prod [.num q.1 q.2, .pow .sym (.num e.1 e.2)]]).map (encT X)) :: .val (.int (i : Int)) :: .val (encR r) :: st) :=
  (ES.cons (ES1.if_t (ET.conv (b' := true) (ET.ne (EE.name 4 rfl rfl) (EE.glob 6 rfl T.R0) (by decide +kernel)) (by rw [deq_R]; simpa using h0)) (ES.cons (ES1.append_m 2 rfl rfl (EE.call 7 (sp_t_prod T X (l:=[_,_]) (Nat.le_of_ble_eq_true rfl)) (by first | decide | lia) rfl (EEs.cons (EF.val (EF.list (EEs.cons (EE.call 8 (sp_rat_term T X h1) (by first | decide | lia) rfl (EEs.cons (EE.name 4 rfl rfl) EEs.nil)) (EEs.cons (EE.call 9 (sp_t_pow T X _ _ ) (by first | decide | lia) rfl (EEs.cons (EE.name 1 rfl rfl) (EEs.cons (EE.call 10 (sp_t_num T X h2) (by first | decide | lia) rfl (EEs.cons (EE.name 3 rfl rfl) (EEs.cons EE.int EEs.nil))) EEs.nil))) EEs.nil)))) EEs.nil)) rfl h3) ES.nil)) ES.nil)
theorem sp_poly {p : P} {t : Tm} (h : polyM p = some t) : FnSpec G 21 (Str.ofString "poly_term") [encP p, encT X .sym] (encT X t) := by
  unfold polyM at h
  split at h
  · cases h
  · rename_i _ l h1
    split at h
    · rename_i hz
      refine FnSpec.at 112 T.defs (by decide +kernel) (by decide +kernel) ⟨[], ES1.assign_own 2 (EF.list EEs.nil) (z := fun ad => ?_)⟩
      obtain ⟨s3, s4, L⟩ := poly_loop (G := G) X (n := 21) (A := .val (encP p)) (B := .val (encT X .sym)) (ad := ad) (st := List.replicate 7 .unset) (body := loopBody (stAt 112 1)) (poly_b1 T X) (poly_b2 T X) p 0 [] l .unset .unset h1
      exact ES.forget (ES.cons (ES1.for_enum 5 (EE.name 0 rfl rfl) rfl L) (ES.ret (ES1.ret (EE.call 11 (sp_simp T X (n:=8) h) (by first | decide | lia) rfl (EEs.cons (EE.call 12 (sp_t_sum T X (Nat.le_trans hz (by decide))) (by first | decide | lia) rfl (EEs.cons (EE.name_own 2 rfl rfl) EEs.nil)) EEs.nil)))))
    · cases h
theorem sp_to {f : F} {t : Tm} (h : toM f = some t) : FnSpec G 22 (Str.ofString "to_term") [encF f, encT X .sym] (encT X t) := by
  unfold toM at h
  split at h
  · rename_i h0
    exact FnSpec.at 113 T.defs (by decide +kernel) (by decide +kernel) ⟨_, (ES.ret (ES1.if_t (ET.conv (b' := true) (ET.eq (EE.item_t (EE.name 0 rfl rfl) EE.int rfl rfl (Nat.le_of_ble_eq_true rfl)) (EF.val (EF.list (EEs.cons (EE.glob 2 rfl T.R1) EEs.nil))) (by decide +kernel)) ((deq_P _ [r1]).trans (by simpa using h0))) (ES.ret (ES1.ret (EE.call 3 (sp_poly T X h) (by first | decide | lia) rfl (EEs.cons (EE.item_t (EE.name 0 rfl rfl) EE.int rfl rfl (Nat.le_of_ble_eq_true rfl)) (EEs.cons (EE.name 1 rfl rfl) EEs.nil)))))))⟩
  · rename_i h0
    split at h
    · cases h
    · rename_i _ a h1
      split at h
      · cases h
      · rename_i _ b h2
        exact FnSpec.at 113 T.defs (by decide +kernel) (by decide +kernel) ⟨_, (ES.cons (ES1.if_f (ET.conv (b' := false) (ET.eq (EE.item_t (EE.name 0 rfl rfl) EE.int rfl rfl (Nat.le_of_ble_eq_true rfl)) (EF.val (EF.list (EEs.cons (EE.glob 2 rfl T.R1) EEs.nil))) (by decide +kernel)) ((deq_P _ [r1]).trans (by simpa using h0))) ES.nil) (ES.ret (ES1.ret (EE.call 4 (sp_simp T X (n:=8) h) (by first | decide | lia) rfl (EEs.cons (EE.call 5 (sp_t_prod T X (l:=[_,_]) (Nat.le_of_ble_eq_true rfl)) (by first | decide | lia) rfl (EEs.cons (EF.val (EF.list (EEs.cons (EE.call 3 (sp_poly T X h1) (by first | decide | lia) rfl (EEs.cons (EE.item_t (EE.name 0 rfl rfl) EE.int rfl rfl (Nat.le_of_ble_eq_true rfl)) (EEs.cons (EE.name 1 rfl rfl) EEs.nil))) (EEs.cons (EE.call 6 (sp_t_pow T X _ _ ) (by first | decide | lia) rfl (EEs.cons (EE.call 3 (sp_poly T X h2) (by first | decide | lia) rfl (EEs.cons (EE.item_t (EE.name 0 rfl rfl) EE.int rfl rfl (Nat.le_of_ble_eq_true rfl)) (EEs.cons (EE.name 1 rfl rfl) EEs.nil))) (EEs.cons (EE.glob 7 rfl (cMINUS T X)) EEs.nil))) EEs.nil)))) EEs.nil)) EEs.nil)))))⟩
theorem sp_in {f : F} {t : Tm} (h : toM f = some t) : FnSpec G 23 (Str.ofString "in_letter") [encF f, .str X] (encT X t) :=
  FnSpec.at 114 T.defs (by decide +kernel) (by decide +kernel) ⟨_, (ES.ret (ES1.ret (EE.call 2 (sp_to T X h) (by first | decide | lia) rfl (EEs.cons (EE.name 0 rfl rfl) (EEs.cons (EE.call 3 (sp_t_sym T X ) (by first | decide | lia) rfl (EEs.cons (EE.name 1 rfl rfl) EEs.nil)) EEs.nil)))))⟩
theorem from_loop {m n : Nat} {A : Slot} {st : St} {k : Bool} {body : List Stmt} {p1 : Pos}
    (hb : ∀ (t : Tm) (f g h : F) (s6 : Slot), fromM n t = some g → (if k then faddM f g else fmulM f g) = some h → ES G m (scAt 110) (A :: .val (.str X) :: .unset :: .unset :: .val (encF f) :: .val (encT X t) :: s6 :: st) body .next (A :: .val (.str X) :: .unset :: .unset :: .val (encF h) :: .val (encT X t) :: .val (encF g) :: st)) :
    ∀ (ts : List Tm) (f r : F) (s5 s6 : Slot), fromL (n + 1) k ts f = some r → ∃ s5' s6', EFo G m (scAt 110) (A :: .val (.str X) :: .unset :: .unset :: .val (encF f) :: s5 :: s6 :: st) (.Name (Str.ofString "part") p1) body (ts.map (encT X)) .next (A :: .val (.str X) :: .unset :: .unset :: .val (encF r) :: s5' :: s6' :: st)
  | [], f, r, s5, s6, h => by unfold fromL at h; cases h; exact ⟨_, _, EFo.nil⟩
  | t :: ts, f, r, s5, s6, h => by
    unfold fromL at h
    split at h
    · cases h
    · rename_i _ g h1
      split at h
      · cases h
      · rename_i _ q h2
        obtain ⟨s5', s6', L⟩ := from_loop hb ts q r (.val (encT X t)) (.val (encF g)) h
        exact ⟨s5', s6', EFo.cons 5 rfl (by decide) (hb t f g q s6 h1 h2) L⟩
theorem from_b {m n : Nat} {st : St} {k : Bool} {l : List Tm} (hm : 10 + n < m)
    (ih : ∀ {t : Tm} {f : F}, fromM n t = some f → FnSpec G (10 + n) (Str.ofString "from_term") [encT X t, .str X] (encF f))
    (t : Tm) (f g h : F) (s6 : Slot) (h1 : fromM n t = some g) (h2 : (if k then faddM f g else fmulM f g) = some h) : ES G m (scAt 110) (.val (.tup [.str (kS k), .tup (l.map (encT X))]) :: .val (.str X) :: .unset :: .unset :: .val (encF f) :: .val (encT X t) :: s6 :: st) (loopBody (stAt 110 5)) .next (.val (.tup [.str (kS k), .tup (l.map (encT X))]) :: .val (.str X) :: .unset :: .unset :: .val (encF h) :: .val (encT X t) :: .val (encF g) :: st) := by
  cases k with
  | true => exact (ES.cons (ES1.assign 6 (EE.call 11 (ih h1) (by first | decide | lia) rfl (EEs.cons (EE.name 5 rfl rfl) (EEs.cons (EE.name 1 rfl rfl) EEs.nil)))) (ES.cons (ES1.if_f (ET.conv (b' := false) (ET.is_none (EE.name 6 rfl rfl)) (by rfl)) ES.nil) (ES.cons (ES1.assign 4 (EE.ite_t (ET.conv (b' := true) (ET.eq (EE.item_t (EE.name 0 rfl rfl) EE.int rfl rfl (Nat.le_of_ble_eq_true rfl)) EE.str (Nat.le_of_ble_eq_true rfl)) (by decide +kernel)) (EE.call 16 (sp_fadd T h2) (by first | decide | lia) rfl (EEs.cons (EE.name 4 rfl rfl) (EEs.cons (EE.name 6 rfl rfl) EEs.nil))))) ES.nil)))
  | false => exact (ES.cons (ES1.assign 6 (EE.call 11 (ih h1) (by first | decide | lia) rfl (EEs.cons (EE.name 5 rfl rfl) (EEs.cons (EE.name 1 rfl rfl) EEs.nil)))) (ES.cons (ES1.if_f (ET.conv (b' := false) (ET.is_none (EE.name 6 rfl rfl)) (by rfl)) ES.nil) (ES.cons (ES1.assign 4 (EE.ite_f (ET.conv (b' := false) (ET.eq (EE.item_t (EE.name 0 rfl rfl) EE.int rfl rfl (Nat.le_of_ble_eq_true rfl)) EE.str (Nat.le_of_ble_eq_true rfl)) (by decide +kernel)) (EE.call 17 (sp_fmul T h2) (by first | decide | lia) rfl (EEs.cons (EE.name 4 rfl rfl) (EEs.cons (EE.name 6 rfl rfl) EEs.nil))))) ES.nil)))
theorem sp_from : ∀ {n : Nat} {t : Tm} {f : F}, fromM n t = some f → FnSpec G (10 + n) (Str.ofString "from_term") [encT X t, .str X] (encF f) := by
  intro n
  induction n using Nat.strongRecOn with
  | _ n IH =>
  intro t f h
  cases n with
  | zero => unfold fromM at h; cases h
  | succ n =>
    have ih : ∀ {t : Tm} {f : F}, fromM n t = some f → FnSpec G (10 + n) (Str.ofString "from_term") [encT X t, .str X] (encF f) := fun h => IH n (Nat.lt_succ_self n) h
    unfold fromM at h
    split at h
    · split at h
      · cases h
      · rename_i _ _ _ r h1
        cases h
        exact FnSpec.at 110 T.defs (by decide +kernel) (by decide +kernel) ⟨_, (ES.ret (ES1.if_t (ET.conv (b' := true) (ET.eq (EE.kind (EE.name 0 rfl rfl) EE.int) EE.str (Nat.le_of_ble_eq_true rfl)) (by simp only [kindS, rankT]; decide +kernel)) (ES.ret (ES1.ret (EE.call 7 (sp_fnumber T _ ) (by first | decide | lia) rfl (EEs.cons (EE.call 8 (sp_rat T.defs h1) (by first | decide | lia) rfl (EEs.cons (EE.item_t (EE.name 0 rfl rfl) EE.int rfl rfl (Nat.le_of_ble_eq_true rfl)) (EEs.cons (EE.item_t (EE.name 0 rfl rfl) EE.int rfl rfl (Nat.le_of_ble_eq_true rfl)) EEs.nil))) EEs.nil))))))⟩
    · cases h
      exact FnSpec.at 110 T.defs (by decide +kernel) (by decide +kernel) ⟨_, (ES.cons (ES1.if_f (ET.conv (b' := false) (ET.eq (EE.kind (EE.name 0 rfl rfl) EE.int) EE.str (Nat.le_of_ble_eq_true rfl)) (by simp only [kindS, rankT]; decide +kernel)) ES.nil) (ES.ret (ES1.if_t (ET.conv (b' := true) (ET.eq (EE.kind (EE.name 0 rfl rfl) EE.int) EE.str (Nat.le_of_ble_eq_true rfl)) (by simp only [kindS, rankT]; decide +kernel)) (ES.ret (ES1.ret (EE.ite_t (ET.conv (b' := true) (ET.eq (EE.item_t (EE.name 0 rfl rfl) EE.int rfl rfl (Nat.le_of_ble_eq_true rfl)) (EE.name 1 rfl rfl) (Nat.le_of_ble_eq_true rfl)) (by first | rfl | exact beq_self_eq_true _ | simp [deq, deqStr])) (EE.tuple (EEs.cons (EF.val (EF.list (EEs.cons (EE.glob 9 rfl T.R0) (EEs.cons (EE.glob 10 rfl T.R1) EEs.nil)))) (EEs.cons (EF.val (EF.list (EEs.cons (EE.glob 10 rfl T.R1) EEs.nil))) EEs.nil)))))))))⟩
    · split at h
      · cases h
      · rename_i b e _ f0 h1
        split at h
        · rename_i p q
          split at h
          · rename_i hc
            obtain ⟨rfl, rfl, h0⟩ := hc
            unfold fpowM1 at h
            split at h
            · cases h
            · rename_i _ b1 h2
              exact FnSpec.at 110 T.defs (by decide +kernel) (by decide +kernel) ⟨_, (ES.cons (ES1.if_f (ET.conv (b' := false) (ET.eq (EE.kind (EE.name 0 rfl rfl) EE.int) EE.str (Nat.le_of_ble_eq_true rfl)) (by simp only [kindS, rankT]; decide +kernel)) ES.nil) (ES.cons (ES1.if_f (ET.conv (b' := false) (ET.eq (EE.kind (EE.name 0 rfl rfl) EE.int) EE.str (Nat.le_of_ble_eq_true rfl)) (by simp only [kindS, rankT]; decide +kernel)) ES.nil) (ES.ret (ES1.if_t (ET.conv (b' := true) (ET.eq (EE.kind (EE.name 0 rfl rfl) EE.int) EE.str (Nat.le_of_ble_eq_true rfl)) (by simp only [kindS, rankT]; decide +kernel)) (ES.cons (ES1.assign_swap (ys := [Str.ofString "base", Str.ofString "n"]) (EEs.cons (EE.call 11 (ih h1) (by first | decide | lia) rfl (EEs.cons (EE.item_t (EE.name 0 rfl rfl) EE.int rfl rfl (Nat.le_of_ble_eq_true rfl)) (EEs.cons (EE.name 1 rfl rfl) EEs.nil))) (EEs.cons (EE.call 12 (sp_wexp T X _ ) (by first | decide | lia) rfl (EEs.cons (EE.item_t (EE.name 0 rfl rfl) EE.int rfl rfl (Nat.le_of_ble_eq_true rfl)) EEs.nil)) EEs.nil)) (.cons 3 _ rfl (by decide) (.cons 2 _ rfl (by decide) .nil)) rfl) (ES.ret (ES1.ret (EE.ite_f (ET.or_f (ET.conv (b' := false) (ET.is_none (EE.name 2 rfl rfl)) (by rfl)) (ET.or_f (ET.conv (b' := false) (ET.is_none (EE.name 3 rfl rfl)) (by rfl)) (ET.or_f (ET.and_t (ET.conv (b' := true) (ET.ilt (EE.name 3 rfl rfl) EE.int) (by decide)) (ET.and_f (ET.conv (b' := false) (ET.eq (EE.item_t (EE.name 2 rfl rfl) EE.int rfl rfl (Nat.le_of_ble_eq_true rfl)) (EF.val (EF.list EEs.nil)) (by decide +kernel)) (by rw [deq_nil]; simpa using h0)))) ET.or_nil))) (EE.call 13 (sp_fpower T h2 h) (by first | decide | lia) rfl (EEs.cons (EE.name 2 rfl rfl) (EEs.cons (EE.name 3 rfl rfl) EEs.nil)))))))))))⟩
          · cases h
        · cases h
    · rename_i l
      cases n with
      | zero => unfold fromL at h; cases h
      | succ n =>
        rw [encT_sum]
        obtain ⟨s5, s6, L⟩ := from_loop (G := G) T X (m := 10 + (n + 1) + 1) (n := n) (A := .val (.tup [.str (kS true), .tup (l.map (encT X))])) (st := List.replicate 5 .unset) (k := true) (body := loopBody (stAt 110 5)) (from_b T X (by lia) (fun h => IH _ (by lia) h)) l ([], [r1]) f .unset .unset h
        exact FnSpec.at 110 T.defs (by decide +kernel) (by decide +kernel) ⟨_, (ES.cons (ES1.if_f (ET.conv (b' := false) (ET.eq (EE.item_t (EE.name 0 rfl rfl) EE.int rfl rfl (Nat.le_of_ble_eq_true rfl)) EE.str (Nat.le_of_ble_eq_true rfl)) (by decide +kernel)) ES.nil) (ES.cons (ES1.if_f (ET.conv (b' := false) (ET.eq (EE.item_t (EE.name 0 rfl rfl) EE.int rfl rfl (Nat.le_of_ble_eq_true rfl)) EE.str (Nat.le_of_ble_eq_true rfl)) (by decide +kernel)) ES.nil) (ES.cons (ES1.if_f (ET.conv (b' := false) (ET.eq (EE.item_t (EE.name 0 rfl rfl) EE.int rfl rfl (Nat.le_of_ble_eq_true rfl)) EE.str (Nat.le_of_ble_eq_true rfl)) (by decide +kernel)) ES.nil) (ES.cons (ES1.if_f (ET.and_f (ET.conv (b' := false) (ET.ne (EE.item_t (EE.name 0 rfl rfl) EE.int rfl rfl (Nat.le_of_ble_eq_true rfl)) EE.str (Nat.le_of_ble_eq_true rfl)) (by decide +kernel))) ES.nil) (ES.cons (ES1.assign 4 (EE.ite_t (ET.conv (b' := true) (ET.eq (EE.item_t (EE.name 0 rfl rfl) EE.int rfl rfl (Nat.le_of_ble_eq_true rfl)) EE.str (Nat.le_of_ble_eq_true rfl)) (by decide +kernel)) (EE.glob 14 rfl T.F0))) (ES.cons (ES1.for (EI.tuple (EE.item_t (EE.name 0 rfl rfl) EE.int rfl rfl (Nat.le_of_ble_eq_true rfl))) L) (ES.ret (ES1.ret (EE.name 4 rfl rfl)))))))))⟩
    · rename_i l
      cases n with
      | zero => unfold fromL at h; cases h
      | succ n =>
        rw [encT_prod]
        obtain ⟨s5, s6, L⟩ := from_loop (G := G) T X (m := 10 + (n + 1) + 1) (n := n) (A := .val (.tup [.str (kS false), .tup (l.map (encT X))])) (st := List.replicate 5 .unset) (k := false) (body := loopBody (stAt 110 5)) (from_b T X (by lia) (fun h => IH _ (by lia) h)) l ([r1], [r1]) f .unset .unset h
        exact FnSpec.at 110 T.defs (by decide +kernel) (by decide +kernel) ⟨_, (ES.cons (ES1.if_f (ET.conv (b' := false) (ET.eq (EE.item_t (EE.name 0 rfl rfl) EE.int rfl rfl (Nat.le_of_ble_eq_true rfl)) EE.str (Nat.le_of_ble_eq_true rfl)) (by decide +kernel)) ES.nil) (ES.cons (ES1.if_f (ET.conv (b' := false) (ET.eq (EE.item_t (EE.name 0 rfl rfl) EE.int rfl rfl (Nat.le_of_ble_eq_true rfl)) EE.str (Nat.le_of_ble_eq_true rfl)) (by decide +kernel)) ES.nil) (ES.cons (ES1.if_f (ET.conv (b' := false) (ET.eq (EE.item_t (EE.name 0 rfl rfl) EE.int rfl rfl (Nat.le_of_ble_eq_true rfl)) EE.str (Nat.le_of_ble_eq_true rfl)) (by decide +kernel)) ES.nil) (ES.cons (ES1.if_f (ET.and_t (ET.conv (b' := true) (ET.ne (EE.item_t (EE.name 0 rfl rfl) EE.int rfl rfl (Nat.le_of_ble_eq_true rfl)) EE.str (Nat.le_of_ble_eq_true rfl)) (by decide +kernel)) (ET.and_f (ET.conv (b' := false) (ET.ne (EE.item_t (EE.name 0 rfl rfl) EE.int rfl rfl (Nat.le_of_ble_eq_true rfl)) EE.str (Nat.le_of_ble_eq_true rfl)) (by decide +kernel)))) ES.nil) (ES.cons (ES1.assign 4 (EE.ite_f (ET.conv (b' := false) (ET.eq (EE.item_t (EE.name 0 rfl rfl) EE.int rfl rfl (Nat.le_of_ble_eq_true rfl)) EE.str (Nat.le_of_ble_eq_true rfl)) (by decide +kernel)) (EE.glob 15 rfl T.F1))) (ES.cons (ES1.for (EI.tuple (EE.item_t (EE.name 0 rfl rfl) EE.int rfl rfl (Nat.le_of_ble_eq_true rfl))) L) (ES.ret (ES1.ret (EE.name 4 rfl rfl)))))))))⟩
end
end Mine

end -- WQ
section -- WR
open PySem PySem.W PyProof.Rows PySem.Calls
set_option maxRecDepth 100000
set_option linter.unusedVariables false
set_option linter.unusedSimpArgs false
set_option linter.unusedSectionVars false
namespace Mine

theorem FnSpecB.at {G : GC} {m : Nat} {f : Str} {b0 ds b1 : List D} {d : D} (i : Nat) (HD : HasDefs G) (ok : scOk (scAt i) = true) (po : paramsOk (paramsOf (defAt i)) (scAt i) = true)
    (x : ∀ a, ∃ ρ', ES G m (scAt i) (.own a b0 :: ini ds 10) (bodyOf (defAt i)) (.ret d) (.own a b1 :: ρ')) (hf : autoParam (nameOf (defAt i) = f) byRfl) (hne : autoParam (f ≠ Str.empty) byDec)
    (hb : autoParam (∀ pm cd doc, vsAll (ds.length + 1) fun vs => bindArgs (docDef (nameOf (defAt i)) (paramsOf (defAt i)) (bodyOf (defAt i)) (scAt i) pm cd doc) ⟨vs, []⟩ = pure (((paramsOf (defAt i)).args.map (·.arg)).zip vs)) byVs)
    (hl : autoParam ((paramsOf (defAt i)).args.length = ds.length + 1) byRfl) : FnSpecB G m f b0 ds b1 d := by
  subst hf
  exact FnSpecB.intro (fun _ => HD i hne) (ScOk.of ok) (ParamsOk.of po) (fun pm cd doc vs h => vsAll_at _ (hb pm cd doc) vs h) hl 10 x

noncomputable def takeV (xs : List Int) (k : Nat) (w : Int) : Int :=
  (if k < xs.length then (if xs.getD k 0 < 0 then -(xs.getD k 0) else xs.getD k 0) else (5 * (k : Int) * k + 3 * k + 2).fmod 89).fmod w
noncomputable def boxD (xs : List Int) (k : Nat) : List D := [.lst (xs.map D.int), .int (k : Int)]
noncomputable def lead (v : Int) : Int := if v = 0 then 1 else if v = 1 then 2 else -1
noncomputable def rowS (xs : List Int) (k : Nat) (many : Nat) : Option (P × Nat) :=
  if many = 0 then match ratM (lead (takeV xs k 3)) 1 with
    | none => none
    | some r => some ([r], k + 1)
  else match ratM (takeV xs k 5 - 2) (1 + takeV xs (k + 1) 2) with
    | none => none
    | some q => match ratM (lead (takeV xs (k + 2) 3)) 1 with
      | none => none
      | some r => some ([q, r], k + 3)
theorem mulOk_small {a b : Int} (ha : a.natAbs < 2 ^ 30) (hb : b.natAbs < 2 ^ 30) : MulOk a b := by
  have h : ∀ n : Nat, n < 2 ^ 30 → n.log2 < 30 := fun n hn => by
    by_cases h0 : n = 0
    · subst h0; decide
    · exact (Nat.log2_lt h0).mpr hn
  have h1 := h _ ha
  have h2 := h _ hb
  unfold MulOk
  lia
section
variable {G : GC} (T : Tops G)
include T
theorem sp_take {xs : List Int} {k : Nat} {w : Int} (hw : w ≠ 0) (hx : xs.length ≤ 100) (hk : k ≤ 100) : FnSpecB G 0 (Str.ofString "_law_take") (boxD xs k) [.int w] (boxD xs (k + 1)) (.int (takeV xs k w)) := by
  have sq : ((5 * (k : Int)) * k).natAbs < 2 ^ 30 := by
    have h1 : (5 * (k : Int)) * k ≤ 5 * 100 * 100 := Int.mul_le_mul (by lia) (by lia) (by lia) (by lia)
    have h2 : 0 ≤ (5 * (k : Int)) * k := Int.mul_nonneg (by lia) (by lia)
    lia
  by_cases h : k < xs.length
  · have e : takeV xs k w = (if xs.getD k 0 < 0 then -(xs.getD k 0) else xs.getD k 0).fmod w := by unfold takeV; rw [if_pos h]
    rw [e]
    exact FnSpecB.at 116 T.defs (by decide +kernel) (by decide +kernel) fun a => ⟨_, (ES.cons (ES1.assign 2 (EE.item_own' 0 rfl rfl EE.int rfl (ItemAt.nat (j := 1) rfl (Nat.le_of_ble_eq_true rfl)))) (ES.cons (ES1.store_item (j := 1) 0 (EE.conv (EE.add (EE.name 2 rfl rfl) EE.int) (congrArg D.int (show _ = ((k+1:Nat):Int) by rfl))) rfl rfl EE.int rfl (Nat.lt_succ_self 1) (Nat.le_of_ble_eq_true rfl)) (ES.ret (ES1.ret (EE.mod (EE.ite_t (ET.conv (b' := true) (ET.ilt (EE.name 2 rfl rfl) (EE.bcall 3 (bs_len_l (by rw [List.length_map]; lia)) (.b _) (by decide) boot_len rfl (EEs.cons (EE.item_own' 0 rfl rfl EE.int rfl (ItemAt.nat (j := 0) rfl (Nat.le_of_ble_eq_true rfl))) EEs.nil))) (by rw [List.length_map]; simpa using h)) (EE.bcall 4 (bs_abs ) (.b _) (by decide) boot_abs rfl (EEs.cons (EE.item_l' (EE.item_own' 0 rfl rfl EE.int rfl (ItemAt.nat (j := 0) rfl (Nat.le_of_ble_eq_true rfl))) (EE.name 2 rfl rfl) (itm 0 k h (by lia) rfl)) EEs.nil))) (EE.name 1 rfl rfl) hw)))))⟩
  · have e : takeV xs k w = ((5 * (k : Int) * k + 3 * k + 2).fmod 89).fmod w := by unfold takeV; rw [if_neg h]
    rw [e]
    exact FnSpecB.at 116 T.defs (by decide +kernel) (by decide +kernel) fun a => ⟨_, (ES.cons (ES1.assign 2 (EE.item_own' 0 rfl rfl EE.int rfl (ItemAt.nat (j := 1) rfl (Nat.le_of_ble_eq_true rfl)))) (ES.cons (ES1.store_item (j := 1) 0 (EE.conv (EE.add (EE.name 2 rfl rfl) EE.int) (congrArg D.int (show _ = ((k+1:Nat):Int) by rfl))) rfl rfl EE.int rfl (Nat.lt_succ_self 1) (Nat.le_of_ble_eq_true rfl)) (ES.ret (ES1.ret (EE.mod (EE.ite_f (ET.conv (b' := false) (ET.ilt (EE.name 2 rfl rfl) (EE.bcall 3 (bs_len_l (by rw [List.length_map]; lia)) (.b _) (by decide) boot_len rfl (EEs.cons (EE.item_own' 0 rfl rfl EE.int rfl (ItemAt.nat (j := 0) rfl (Nat.le_of_ble_eq_true rfl))) EEs.nil))) (by rw [List.length_map]; simpa using h)) (EE.mod (EE.add (EE.add (EE.mul (EE.mul EE.int (EE.name 2 rfl rfl) (mulOk_small (by decide) (by lia))) (EE.name 2 rfl rfl) (mulOk_small (by lia) (by lia))) (EE.mul EE.int (EE.name 2 rfl rfl) (mulOk_small (by decide) (by lia)))) EE.int) EE.int (by decide))) (EE.name 1 rfl rfl) hw)))))⟩
omit T in
theorem takeV_mod {xs : List Int} {k : Nat} {w : Int} (hw : 0 < w) : 0 ≤ takeV xs k w ∧ takeV xs k w < w := ⟨Int.fmod_nonneg_of_pos _ hw, Int.fmod_lt_of_pos _ hw⟩
omit T in
theorem lead_at (xs : List Int) (k : Nat) : ItemAt [.int 1, .int 2, .int (-1)] (takeV xs k 3) (.int (lead (takeV xs k 3))) := by
  obtain ⟨h1, h2⟩ := takeV_mod (xs := xs) (k := k) (w := 3) (by decide)
  generalize takeV xs k 3 = v at h1 h2 ⊢
  have : v = 0 ∨ v = 1 ∨ v = 2 := by lia
  rcases this with rfl | rfl | rfl <;> exact ⟨by decide, _, rfl, rfl⟩
theorem sp_row {xs : List Int} {k k' many : Nat} {p : P} (hx : xs.length ≤ 100) (hk : k ≤ 90) (hm : many ≤ 1) (h : rowS xs k many = some (p, k')) : FnSpecB G 3 (Str.ofString "_law_row") (boxD xs k) [.int (many : Int)] (boxD xs k') (encP p) := by
  have T' := T
  unfold rowS at h
  split at h
  · rename_i h0
    subst h0
    split at h
    · cases h
    · rename_i _ r h1
      cases h
      exact FnSpecB.at 117 T.defs (by decide +kernel) (by decide +kernel) fun a => ⟨_, ES.cons (ES1.assign_compO 2 0 4 (y0 := Str.ofString "box") (a0 := a) (os := boxD xs k) (os' := boxD xs k) (ρc := [.unset, .unset, .unset, .unset, .own a (boxD xs k)]) (ρc' := [.unset, .unset, .unset, .unset, .own a (boxD xs k)]) (EI.range 3 (EE.name 1 rfl rfl) rfl (by decide)) rfl rfl rfl rfl rfl rfl (by
        intro j sl h hj
        match j, h, hj with
        | 0, h, _ => exact (Option.some.inj h).symm
        | 1, h, _ => exact (Option.some.inj h).symm
        | 2, h, _ => exact (Option.some.inj h).symm
        | 3, h, _ => exact (Option.some.inj h).symm
        | 4, _, hj => exact absurd rfl hj
        | j + 5, h, _ => cases h) (by
        intro j y h
        match j, h with
        | 0, h => cases h
        | 1, h => cases h
        | 2, h => cases h
        | 3, h => cases h
        | 4, _ => rfl
        | j + 5, h => cases h) ECo.nil (by simp [natsD]) (CompOk.of (by decide +kernel))) (ES.ret (ES1.ret (EE.conv (EF.val (EF.list_add (EE.name 2 rfl rfl) (EF.val (EF.list (EEs.cons (EE.call 4 (sp_rat T.defs h1) (by first | decide | lia) rfl (EEs.cons (EE.item_l' (EF.val (EF.list (EEs.cons EE.int (EEs.cons EE.int (EEs.cons (EE.neg EE.int) EEs.nil))))) (EE.callB 5 0 (sp_take T (by decide) hx (show k ≤ 100 by lia)) (by first | decide | lia) rfl rfl rfl (EEs.cons EE.int EEs.nil) rfl) (lead_at xs k)) (EEs.cons EE.int EEs.nil))) EEs.nil))) (Nat.le_of_ble_eq_true rfl))) rfl)))⟩
  · rename_i hn
    have hm1 : many = 1 := by lia
    subst hm1
    split at h
    · cases h
    · rename_i _ q h1
      split at h
      · cases h
      · rename_i _ r h2
        cases h
        exact FnSpecB.at 117 T.defs (by decide +kernel) (by decide +kernel) fun a => ⟨_, ES.cons (ES1.assign_compO 2 0 4 (y0 := Str.ofString "box") (a0 := a) (os := boxD xs k) (os' := boxD xs (k + 2)) (ρc := [.unset, .unset, .unset, .unset, .own a (boxD xs k)]) (ρc' := [.unset, .val (.int ((0 : Nat) : Int)), .unset, .unset, .own a (boxD xs (k + 2))]) (EI.range 3 (EE.name 1 rfl rfl) rfl (by decide)) rfl rfl rfl rfl rfl rfl (by
          intro j sl h hj
          match j, h, hj with
          | 0, h, _ => exact (Option.some.inj h).symm
          | 1, h, _ => exact (Option.some.inj h).symm
          | 2, h, _ => exact (Option.some.inj h).symm
          | 3, h, _ => exact (Option.some.inj h).symm
          | 4, _, hj => exact absurd rfl hj
          | j + 5, h, _ => cases h) (by
          intro j y h
          match j, h with
          | 0, h => cases h
          | 1, h => cases h
          | 2, h => cases h
          | 3, h => cases h
          | 4, _ => rfl
          | j + 5, h => cases h) (ECo.cons 1 rfl (by decide) (.inl ⟨rfl, rfl⟩) (EE.call 2 (sp_rat T.defs h1) (by first | decide | lia) rfl (EEs.cons (EE.sub (EE.callB 3 4 (sp_take T (by decide) hx (show k ≤ 100 by lia)) (by first | decide | lia) rfl rfl rfl (EEs.cons EE.int EEs.nil) rfl) EE.int) (EEs.cons (EE.add EE.int (EE.callB 3 4 (sp_take T (by decide) hx (show k+1 ≤ 100 by lia)) (by first | decide | lia) rfl rfl rfl (EEs.cons EE.int EEs.nil) rfl)) EEs.nil))) ECo.nil) (by simp [natsD]) (CompOk.of (by decide +kernel))) (ES.ret (ES1.ret (EE.conv (EF.val (EF.list_add (EE.name 2 rfl rfl) (EF.val (EF.list (EEs.cons (EE.call 4 (sp_rat T.defs h2) (by first | decide | lia) rfl (EEs.cons (EE.item_l' (EF.val (EF.list (EEs.cons EE.int (EEs.cons EE.int (EEs.cons (EE.neg EE.int) EEs.nil))))) (EE.callB 5 0 (sp_take T (by decide) hx (show k+2 ≤ 100 by lia)) (by first | decide | lia) rfl rfl rfl (EEs.cons EE.int EEs.nil) rfl) (lead_at xs (k + 2))) (EEs.cons EE.int EEs.nil))) EEs.nil))) (Nat.le_of_ble_eq_true rfl))) rfl)))⟩
end
end Mine

end -- WR
section -- WS
open PySem PySem.W PyProof.Rows PySem.Calls
set_option maxRecDepth 100000
set_option linter.unusedVariables false
set_option linter.unusedSimpArgs false
set_option linter.unusedSectionVars false
namespace Mine

noncomputable def restOf (q f : F) : F := if q.2.length = 0 then ([], [r1]) else (q.2, f.2)
structure OneOk (f : F) (top bottom : P) (pt : R) : Prop where
  z : small f.1 ∧ small f.2 ∧ small top ∧ small bottom
  ne : 0 < f.2.length
  monic : qlast f.2 = (1, 1)
  len : top.length = 0 ∨ (f.1.length : Int) - f.2.length = (top.length : Int) - bottom.length
  low : ∃ low, plainM bottom pt = some low ∧ (low.1 ≠ 0 → ∃ v, fatM f pt = some v ∧ worthM (top, bottom) pt = some v)
  back : ∃ t, toM f = some t ∧ fromM 9 t = some f
  split : ∃ q, fsplitM f = some q ∧ small q.1 ∧ small q.2 ∧ (q.1.length : Int) = max 0 ((f.1.length : Int) - f.2.length + 1) ∧ ((restOf q f).1.length : Int) < max 1 ((restOf q f).2.length : Int) ∧
    ∃ v l, fatM f pt = some v ∧ worthM (restOf q f) pt = some l ∧ match v, l with
      | none, none => True
      | some v, some l => ∃ own, plainM q.1 pt = some own ∧ MulOk own.1 l.2 ∧ MulOk l.1 own.2 ∧ MulOk own.2 l.2 ∧ ratM (own.1 * l.2 + l.1 * own.2) (own.2 * l.2) = some v
      | _, _ => False
theorem depP (p : P) : dep (encP p) ≤ 2 := by
  have : depL (p.map encR) ≤ 1 := by
    induction p with
    | nil => simp [depL]
    | cons x xs ih => simp only [List.map_cons, depL, encR, dep]; lia
  simp only [encP, dep]; lia
theorem depF (f : F) : dep (encF f) ≤ 90 := by
  have h1 := depP f.1
  have h2 := depP f.2
  simp only [encF, dep, depL] at *; lia
theorem depO (v : Option R) : dep (encO v) ≤ 90 := by cases v <;> simp [encO, encR, dep, depL]
noncomputable def ifTest : Stmt → Expr
  | .If t _ _ _ => t
  | _ => .Name Str.empty ⟨0, 0, 0, 0⟩
noncomputable abbrev s1 (f : F) (top bottom : P) (pt : R) (r : St) : St := .val (encF f) :: .val (encP top) :: .val (encP bottom) :: .val (encR pt) :: r

section
variable {G : GC} (T : Tops G)
include T
theorem one_t0 {f : F} {top bottom : P} {pt : R} {r : St} (o : OneOk f top bottom pt) : ET G 40 (scAt 120) (s1 f top bottom pt r) (ifTest (stAt 120 0)) false (s1 f top bottom pt r) := by
  have hm : (!deq (encR (qlast f.2)) (.tup [.int 1, .int 1])) = false := by rw [show (D.tup [.int 1, .int 1]) = encR (1, 1) from rfl, deq_R, o.monic]; rfl
  rcases o.len with h | h
  · exact (ET.or_f (ET.conv (b' := false) (ET.ne (EE.item_l' (EE.item_t (EE.name 0 rfl rfl) EE.int rfl rfl (Nat.le_of_ble_eq_true rfl)) (EE.neg EE.int) (itlast r0 o.ne (Nat.le_trans o.z.2.1 (by decide)))) (EE.tuple (EEs.cons EE.int (EEs.cons EE.int EEs.nil))) (Nat.le_of_ble_eq_true rfl)) hm) (ET.or_f (ET.and_f (ET.conv (b' := false) (ET.ne (EE.name 1 rfl rfl) (EF.val (EF.list EEs.nil)) (Nat.le_of_ble_eq_true rfl)) (by rw [deq_nil]; simpa using h))) ET.or_nil))
  · by_cases ht : top.length = 0
    · exact (ET.or_f (ET.conv (b' := false) (ET.ne (EE.item_l' (EE.item_t (EE.name 0 rfl rfl) EE.int rfl rfl (Nat.le_of_ble_eq_true rfl)) (EE.neg EE.int) (itlast r0 o.ne (Nat.le_trans o.z.2.1 (by decide)))) (EE.tuple (EEs.cons EE.int (EEs.cons EE.int EEs.nil))) (Nat.le_of_ble_eq_true rfl)) hm) (ET.or_f (ET.and_f (ET.conv (b' := false) (ET.ne (EE.name 1 rfl rfl) (EF.val (EF.list EEs.nil)) (Nat.le_of_ble_eq_true rfl)) (by rw [deq_nil]; simpa using ht))) ET.or_nil))
    · exact (ET.or_f (ET.conv (b' := false) (ET.ne (EE.item_l' (EE.item_t (EE.name 0 rfl rfl) EE.int rfl rfl (Nat.le_of_ble_eq_true rfl)) (EE.neg EE.int) (itlast r0 o.ne (Nat.le_trans o.z.2.1 (by decide)))) (EE.tuple (EEs.cons EE.int (EEs.cons EE.int EEs.nil))) (Nat.le_of_ble_eq_true rfl)) hm) (ET.or_f (ET.and_t (ET.conv (b' := true) (ET.ne (EE.name 1 rfl rfl) (EF.val (EF.list EEs.nil)) (Nat.le_of_ble_eq_true rfl)) (by rw [deq_nil]; simpa using ht)) (ET.and_f (ET.conv (b' := false) (ET.ine (EE.sub (EE.bcall 10 (bs_len_m (Nat.le_trans o.z.1 (by decide))) (.b _) (by decide) boot_len rfl (EEs.cons (EE.item_t (EE.name 0 rfl rfl) EE.int rfl rfl (Nat.le_of_ble_eq_true rfl)) EEs.nil)) (EE.bcall 10 (bs_len_m (Nat.le_trans o.z.2.1 (by decide))) (.b _) (by decide) boot_len rfl (EEs.cons (EE.item_t (EE.name 0 rfl rfl) EE.int rfl rfl (Nat.le_of_ble_eq_true rfl)) EEs.nil))) (EE.sub (EE.bcall 10 (bs_len_m (Nat.le_trans o.z.2.2.1 (by decide))) (.b _) (by decide) boot_len rfl (EEs.cons (EE.name 1 rfl rfl) EEs.nil)) (EE.bcall 10 (bs_len_m (Nat.le_trans o.z.2.2.2 (by decide))) (.b _) (by decide) boot_len rfl (EEs.cons (EE.name 2 rfl rfl) EEs.nil)))) (by simpa using h)))) ET.or_nil))
theorem one_t2 {f : F} {top bottom : P} {pt low : R} {r : St} (o : OneOk f top bottom pt) (hl : low.1 ≠ 0 → ∃ v, fatM f pt = some v ∧ worthM (top, bottom) pt = some v) : ET G 40 (scAt 120) (s1 f top bottom pt (.val (encR low) :: r)) (ifTest (stAt 120 2)) false (s1 f top bottom pt (.val (encR low) :: r)) := by
  by_cases h0 : low.1 = 0
  · exact (ET.and_f (ET.conv (b' := false) (ET.ine (EE.item_t (EE.name 4 rfl rfl) EE.int rfl rfl (Nat.le_of_ble_eq_true rfl)) EE.int) (by simpa using h0)))
  · obtain ⟨v, h1, h2⟩ := hl h0
    exact (ET.and_t (ET.conv (b' := true) (ET.ine (EE.item_t (EE.name 4 rfl rfl) EE.int rfl rfl (Nat.le_of_ble_eq_true rfl)) EE.int) (by simpa using h0)) (ET.and_f (ET.conv (b' := false) (ET.ne (EE.call 12 (sp_fat T h1) (by first | decide | lia) rfl (EEs.cons (EE.name 0 rfl rfl) (EEs.cons (EE.name 3 rfl rfl) EEs.nil))) (EE.call 13 (sp_worth T h2) (by first | decide | lia) rfl (EEs.cons (EE.tuple (EEs.cons (EE.name 1 rfl rfl) (EEs.cons (EE.name 2 rfl rfl) EEs.nil))) (EEs.cons (EE.name 3 rfl rfl) EEs.nil))) (depO v)) (by rw [deq_refl]; rfl))))
theorem one_t3 {f : F} {top bottom : P} {pt : R} {r : St} (o : OneOk f top bottom pt) {t : Tm} (h1 : toM f = some t) (h2 : fromM 9 t = some f) : ET G 40 (scAt 120) (s1 f top bottom pt r) (ifTest (stAt 120 3)) false (s1 f top bottom pt r) := by
  have e : (((f.2.length : Int) - 1) == 0) = ((f.2.length : Int) == 1) := by rw [Bool.eq_iff_iff]; simp; lia
  exact (ET.or_f (ET.conv (b' := false) (ET.ne (EE.call 14 (sp_from T _ h2) (by first | decide | lia) rfl (EEs.cons (EE.call 15 (sp_in T _ h1) (by first | decide | lia) rfl (EEs.cons (EE.name 0 rfl rfl) (EEs.cons EE.str EEs.nil))) (EEs.cons EE.str EEs.nil))) (EE.name 0 rfl rfl) (depF f)) (by rw [deq_refl]; rfl)) (ET.or_f (ET.conv (b' := false) (ET.ne (EE.call 14 (sp_from T _ h2) (by first | decide | lia) rfl (EEs.cons (EE.call 16 (sp_to T _ h1) (by first | decide | lia) rfl (EEs.cons (EE.name 0 rfl rfl) (EEs.cons (EE.call 17 (sp_t_sym T _ ) (by first | decide | lia) rfl (EEs.cons EE.str EEs.nil)) EEs.nil))) (EEs.cons EE.str EEs.nil))) (EE.name 0 rfl rfl) (depF f)) (by rw [deq_refl]; rfl)) (ET.or_f (ET.conv (b' := false) (ET.ne (EE.call 18 (sp_is_poly T o.z.2.1) (by first | decide | lia) rfl (EEs.cons (EE.name 0 rfl rfl) EEs.nil)) (EE.ieq (EE.bcall 10 (bs_len_m (Nat.le_trans o.z.2.1 (by decide))) (.b _) (by decide) boot_len rfl (EEs.cons (EE.item_t (EE.name 0 rfl rfl) EE.int rfl rfl (Nat.le_of_ble_eq_true rfl)) EEs.nil)) EE.int) (Nat.zero_le 90)) (by rw [e,deq_refl]; rfl)) ET.or_nil)))
theorem one_t4 {f : F} {top bottom : P} {pt : R} {r : St} (o : OneOk f top bottom pt) : ET G 40 (scAt 120) (s1 f top bottom pt r) (ifTest (stAt 120 4)) false (s1 f top bottom pt r) := by
  have sp := sp_fdegree T (f := f) ⟨o.z.1, o.z.2.1⟩
  by_cases h : f.1.length = 0
  · rw [if_pos h] at sp
    exact (ET.conv (b' := false) (ET.ne (EE.call 19 (sp ) (by first | decide | lia) rfl (EEs.cons (EE.name 0 rfl rfl) EEs.nil)) (EE.ite_f (ET.conv (b' := false) (ET.ne (EE.item_t (EE.name 0 rfl rfl) EE.int rfl rfl (Nat.le_of_ble_eq_true rfl)) (EF.val (EF.list EEs.nil)) (Nat.le_of_ble_eq_true rfl)) (by rw [deq_nil]; simpa using h)) EE.none) (Nat.le_of_ble_eq_true rfl)) (by rfl))
  · rw [if_neg h] at sp
    exact (ET.conv (b' := false) (ET.ne (EE.call 19 (sp ) (by first | decide | lia) rfl (EEs.cons (EE.name 0 rfl rfl) EEs.nil)) (EE.ite_t (ET.conv (b' := true) (ET.ne (EE.item_t (EE.name 0 rfl rfl) EE.int rfl rfl (Nat.le_of_ble_eq_true rfl)) (EF.val (EF.list EEs.nil)) (Nat.le_of_ble_eq_true rfl)) (by rw [deq_nil]; simpa using h)) (EE.sub (EE.bcall 10 (bs_len_m (Nat.le_trans o.z.1 (by decide))) (.b _) (by decide) boot_len rfl (EEs.cons (EE.item_t (EE.name 0 rfl rfl) EE.int rfl rfl (Nat.le_of_ble_eq_true rfl)) EEs.nil)) (EE.bcall 10 (bs_len_m (Nat.le_trans o.z.2.1 (by decide))) (.b _) (by decide) boot_len rfl (EEs.cons (EE.item_t (EE.name 0 rfl rfl) EE.int rfl rfl (Nat.le_of_ble_eq_true rfl)) EEs.nil)))) (Nat.zero_le 90)) (by simp [deq, deqInt, deqStr]; lia))
theorem one_t6 {f q : F} {top bottom : P} {pt : R} {low : Slot} {r : St} (o : OneOk f top bottom pt) (z1 : small q.1) (z2 : small q.2) (h1 : (q.1.length : Int) = max 0 ((f.1.length : Int) - f.2.length + 1)) (h2 : ((restOf q f).1.length : Int) < max 1 ((restOf q f).2.length : Int)) :
    ET G 40 (scAt 120) (s1 f top bottom pt (low :: .val (encP q.1) :: .val (encF (restOf q f)) :: r)) (ifTest (stAt 120 6)) false (s1 f top bottom pt (low :: .val (encP q.1) :: .val (encF (restOf q f)) :: r)) := by
  have y1 : (restOf q f).1.length ≤ 1000 := by unfold restOf; split; exact Nat.zero_le _; exact Nat.le_trans z2 (by decide)
  have y2 : (restOf q f).2.length ≤ 1000 := by unfold restOf; split; exact (by decide : 1 ≤ 1000); exact Nat.le_trans o.z.2.1 (by decide)
  exact (ET.or_f (ET.conv (b' := false) (ET.ine (EE.bcall 10 (bs_len_m (Nat.le_trans z1 (by decide))) (.b _) (by decide) boot_len rfl (EEs.cons (EE.name 5 rfl rfl) EEs.nil)) (EE.bcall 21 (bs_max ) (.b _) (by decide) boot_max rfl (EEs.cons EE.int (EEs.cons (EE.add (EE.sub (EE.bcall 10 (bs_len_m (Nat.le_trans o.z.1 (by decide))) (.b _) (by decide) boot_len rfl (EEs.cons (EE.item_t (EE.name 0 rfl rfl) EE.int rfl rfl (Nat.le_of_ble_eq_true rfl)) EEs.nil)) (EE.bcall 10 (bs_len_m (Nat.le_trans o.z.2.1 (by decide))) (.b _) (by decide) boot_len rfl (EEs.cons (EE.item_t (EE.name 0 rfl rfl) EE.int rfl rfl (Nat.le_of_ble_eq_true rfl)) EEs.nil))) EE.int) EEs.nil)))) (by rw [h1]; simp; lia)) (ET.or_f (ET.conv (b' := false) (ET.ige (EE.bcall 10 (bs_len_m y1) (.b _) (by decide) boot_len rfl (EEs.cons (EE.item_t (EE.name 6 rfl rfl) EE.int rfl rfl (Nat.le_of_ble_eq_true rfl)) EEs.nil)) (EE.bcall 21 (bs_max ) (.b _) (by decide) boot_max rfl (EEs.cons EE.int (EEs.cons (EE.bcall 10 (bs_len_m y2) (.b _) (by decide) boot_len rfl (EEs.cons (EE.item_t (EE.name 6 rfl rfl) EE.int rfl rfl (Nat.le_of_ble_eq_true rfl)) EEs.nil)) EEs.nil)))) (by simp; lia)) ET.or_nil))
theorem sp_one {f : F} {top bottom : P} {pt : R} (o : OneOk f top bottom pt) : FnSpec G 40 (Str.ofString "_law_one_right") [encF f, encP top, encP bottom, encR pt] (.bool true) := by
  obtain ⟨low, hl, hl2⟩ := o.low
  obtain ⟨t, ht, ht2⟩ := o.back
  obtain ⟨q, hq, z1, z2, h1, h2, v, l, hv, hw, hvl⟩ := o.split
  have e : encF (restOf q f) = encF (if q.2.length = 0 then ([], [r1]) else (q.2, f.2)) := rfl
  cases v with
  | none =>
    cases l with
    | none => exact FnSpec.at 120 T.defs (by decide +kernel) (by decide +kernel) ⟨_, (ES.cons (ES1.if_f (one_t0 T o) ES.nil) (ES.cons (ES1.assign 4 (EE.call 11 (sp_plain T hl) (by first | decide | lia) rfl (EEs.cons (EE.name 2 rfl rfl) (EEs.cons (EE.name 3 rfl rfl) EEs.nil)))) (ES.cons (ES1.if_f (one_t2 T o hl2) ES.nil) (ES.cons (ES1.if_f (one_t3 T o ht ht2) ES.nil) (ES.cons (ES1.if_f (one_t4 T o) ES.nil) (ES.cons (ES1.unpack (l := [(Str.ofString "whole", _), (Str.ofString "rest", _)]) (EE.call 20 (sp_fsplit T hq o.z.2.1) (by first | decide | lia) rfl (EEs.cons (EE.name 0 rfl rfl) EEs.nil)) (.cons 5 _ rfl (by decide) (.cons 6 _ rfl (by decide) .nil)) rfl (fun _ => (.name (.name .nil))) (fun _ => rfl)) (ES.cons (ES1.if_f (one_t6 (low := .val (encR low)) T o z1 z2 h1 h2) ES.nil) (ES.cons (ES1.assign_swap (ys := [Str.ofString "value", Str.ofString "left"]) (EEs.cons (EE.call 12 (sp_fat T hv) (by first | decide | lia) rfl (EEs.cons (EE.name 0 rfl rfl) (EEs.cons (EE.name 3 rfl rfl) EEs.nil))) (EEs.cons (EE.call 13 (sp_worth T hw) (by first | decide | lia) rfl (EEs.cons (EE.name 6 rfl rfl) (EEs.cons (EE.name 3 rfl rfl) EEs.nil))) EEs.nil)) (.cons 8 _ rfl (by decide) (.cons 7 _ rfl (by decide) .nil)) rfl) (ES.ret (ES1.if_t (ET.conv (b' := true) (ET.is_none (EE.name 7 rfl rfl)) (by rfl)) (ES.ret (ES1.ret (EE.conv (EE.is_none (EE.name 8 rfl rfl)) rfl)))))))))))))⟩
    | some l => exact hvl.elim
  | some v =>
    cases l with
    | none => exact hvl.elim
    | some l =>
      obtain ⟨own, ho, m1, m2, m3, hr⟩ := hvl
      exact FnSpec.at 120 T.defs (by decide +kernel) (by decide +kernel) ⟨_, (ES.cons (ES1.if_f (one_t0 T o) ES.nil) (ES.cons (ES1.assign 4 (EE.call 11 (sp_plain T hl) (by first | decide | lia) rfl (EEs.cons (EE.name 2 rfl rfl) (EEs.cons (EE.name 3 rfl rfl) EEs.nil)))) (ES.cons (ES1.if_f (one_t2 T o hl2) ES.nil) (ES.cons (ES1.if_f (one_t3 T o ht ht2) ES.nil) (ES.cons (ES1.if_f (one_t4 T o) ES.nil) (ES.cons (ES1.unpack (l := [(Str.ofString "whole", _), (Str.ofString "rest", _)]) (EE.call 20 (sp_fsplit T hq o.z.2.1) (by first | decide | lia) rfl (EEs.cons (EE.name 0 rfl rfl) EEs.nil)) (.cons 5 _ rfl (by decide) (.cons 6 _ rfl (by decide) .nil)) rfl (fun _ => (.name (.name .nil))) (fun _ => rfl)) (ES.cons (ES1.if_f (one_t6 (low := .val (encR low)) T o z1 z2 h1 h2) ES.nil) (ES.cons (ES1.assign_swap (ys := [Str.ofString "value", Str.ofString "left"]) (EEs.cons (EE.call 12 (sp_fat T hv) (by first | decide | lia) rfl (EEs.cons (EE.name 0 rfl rfl) (EEs.cons (EE.name 3 rfl rfl) EEs.nil))) (EEs.cons (EE.call 13 (sp_worth T hw) (by first | decide | lia) rfl (EEs.cons (EE.name 6 rfl rfl) (EEs.cons (EE.name 3 rfl rfl) EEs.nil))) EEs.nil)) (.cons 8 _ rfl (by decide) (.cons 7 _ rfl (by decide) .nil)) rfl) (ES.cons (ES1.if_f (ET.conv (b' := false) (ET.is_none (EE.name 7 rfl rfl)) (by rfl)) ES.nil) (ES.cons (ES1.assign 9 (EE.call 11 (sp_plain T ho) (by first | decide | lia) rfl (EEs.cons (EE.name 5 rfl rfl) (EEs.cons (EE.name 3 rfl rfl) EEs.nil)))) (ES.ret (ES1.ret (EE.conv (EE.and_t (EE.conv (EE.is_not_none (EE.name 8 rfl rfl)) (congrArg D.bool (by rfl))) (EE.and_nil1 (EE.eq (EE.call 22 (sp_rat T.defs hr) (by first | decide | lia) rfl (EEs.cons (EE.add (EE.mul (EE.item_t (EE.name 9 rfl rfl) EE.int rfl rfl (Nat.le_of_ble_eq_true rfl)) (EE.item_t (EE.name 8 rfl rfl) EE.int rfl rfl (Nat.le_of_ble_eq_true rfl)) m1) (EE.mul (EE.item_t (EE.name 8 rfl rfl) EE.int rfl rfl (Nat.le_of_ble_eq_true rfl)) (EE.item_t (EE.name 9 rfl rfl) EE.int rfl rfl (Nat.le_of_ble_eq_true rfl)) m2)) (EEs.cons (EE.mul (EE.item_t (EE.name 9 rfl rfl) EE.int rfl rfl (Nat.le_of_ble_eq_true rfl)) (EE.item_t (EE.name 8 rfl rfl) EE.int rfl rfl (Nat.le_of_ble_eq_true rfl)) m3) EEs.nil))) (EE.name 7 rfl rfl) (depO (some v))))) (congrArg D.bool (deq_refl (encR v))))))))))))))))⟩
end
end Mine

end -- WS
section -- WT
open PySem PySem.W PyProof.Rows PySem.Calls
set_option maxRecDepth 100000
set_option linter.unusedVariables false
set_option linter.unusedSimpArgs false
set_option linter.unusedSectionVars false
namespace Mine

noncomputable def absI (n : Int) : Int := if n < 0 then -n else n
noncomputable def sgT (n : Int) : Str := if n < 0 then "-" else ""
noncomputable def absT (n : Int) : Str := toString (absI n)
noncomputable def wT (n : Int) : Str := sgT n ++ absT n ++ Txt.join "" []
noncomputable def wOk (n : Int) : Bool := decide (n.natAbs < 1000) && decide ((sgT n).length + (absT n).length ≤ 1000) && decide ((sgT n ++ absT n).length + (Txt.join "" []).length ≤ 1000)
noncomputable def rT (a : R) : Str := if a.2 = 1 then wT a.1 else wT a.1 ++ "/" ++ wT a.2
noncomputable def rOk (a : R) : Bool := wOk a.1 && wOk a.2 && decide ((wT a.1).length + (Str.length "/") ≤ 1000) && decide ((wT a.1 ++ "/").length + (wT a.2).length ≤ 1000)
theorem big_gt {n : Int} (h : n.natAbs < 1000) : absI n < (10 : Int) ^ (4000 : Int).toNat := by
  have h1 : (1000 : Int) ≤ (10 : Int) ^ (4000 : Int).toNat := by decide +kernel
  unfold absI; split <;> omega
section
variable {G : GC} (T : Tops G) (hp : ConstIs G "PIECE" (.int 4000))
include T hp
theorem sp_whole_text {n : Int} (h : wOk n = true) : FnSpec G 1 (Str.ofString "whole_text") [.int n] (.str (wT n)) := by
  unfold wOk at h
  simp only [Bool.and_eq_true, decide_eq_true_eq] at h
  obtain ⟨⟨h0, h1⟩, h2⟩ := h
  have hb := big_gt h0
  have hl : (absI n).natAbs.log2 < 1920 := by
    have : (absI n).natAbs < 2 ^ 1920 := Nat.lt_trans (by unfold absI; split <;> omega : (absI n).natAbs < 1000) (by decide +kernel)
    by_cases h0 : (absI n).natAbs = 0
    · rw [h0]; decide
    · exact (Nat.log2_lt h0).mpr this
  unfold wT
  by_cases hn : n < 0
  · have e : sgT n = "-" := if_pos hn
    rw [e] at h1 h2 ⊢
    exact FnSpec.at 9 T.defs (by decide +kernel) (by decide +kernel) ⟨_, (ES.assign_swap_own (ys1 := [Str.ofString "left"]) (ys2 := [Str.ofString "wide"]) 2 (EEsO.cons (EE.bcall 5 (bs_abs ) (.b _) (by decide) boot_abs rfl (EEs.cons (EE.name 0 rfl rfl) EEs.nil)) (EEsO.own (EF.list EEs.nil) (EEs.cons (EE.pow EE.int (EE.glob 6 rfl hp) (by decide +kernel)) EEs.nil))) (.cons 3 _ rfl (by decide) .nil) (fun _ => (.cons 1 _ rfl (by decide) .nil)) (fun ad => ES.forget (ES.cons (ES1.while (EW.done (ET.conv (b' := false) (ET.ige (EE.name 1 rfl rfl) (EE.name 3 rfl rfl)) (decide_eq_false (Int.not_le.mpr hb))))) (ES.ret (ES1.ret (EE.str_add (EE.str_add (EE.ite_t (ET.conv (b' := true) (ET.ilt (EE.name 0 rfl rfl) EE.int) (by simpa using hn)) EE.str) (EE.bcall 7 (bs_str hl) (.t _) (by decide) boot_str rfl (EEs.cons (EE.name 1 rfl rfl) EEs.nil)) (Nat.le_trans h1 (by decide))) (EE.join (ts := []) EE.str (EE.conv (EE.slice_rev (EE.name_own 2 rfl rfl) (EE.neg EE.int) (Nat.le_of_ble_eq_true rfl)) rfl) (by decide +kernel)) (Nat.le_trans h2 (by decide))))))))⟩
  · have e : sgT n = "" := if_neg hn
    rw [e] at h1 h2 ⊢
    exact FnSpec.at 9 T.defs (by decide +kernel) (by decide +kernel) ⟨_, (ES.assign_swap_own (ys1 := [Str.ofString "left"]) (ys2 := [Str.ofString "wide"]) 2 (EEsO.cons (EE.bcall 5 (bs_abs ) (.b _) (by decide) boot_abs rfl (EEs.cons (EE.name 0 rfl rfl) EEs.nil)) (EEsO.own (EF.list EEs.nil) (EEs.cons (EE.pow EE.int (EE.glob 6 rfl hp) (by decide +kernel)) EEs.nil))) (.cons 3 _ rfl (by decide) .nil) (fun _ => (.cons 1 _ rfl (by decide) .nil)) (fun ad => ES.forget (ES.cons (ES1.while (EW.done (ET.conv (b' := false) (ET.ige (EE.name 1 rfl rfl) (EE.name 3 rfl rfl)) (decide_eq_false (Int.not_le.mpr hb))))) (ES.ret (ES1.ret (EE.str_add (EE.str_add (EE.ite_f (ET.conv (b' := false) (ET.ilt (EE.name 0 rfl rfl) EE.int) (by simpa using hn)) EE.str) (EE.bcall 7 (bs_str hl) (.t _) (by decide) boot_str rfl (EEs.cons (EE.name 1 rfl rfl) EEs.nil)) (Nat.le_trans h1 (by decide))) (EE.join (ts := []) EE.str (EE.conv (EE.slice_rev (EE.name_own 2 rfl rfl) (EE.neg EE.int) (Nat.le_of_ble_eq_true rfl)) rfl) (by decide +kernel)) (Nat.le_trans h2 (by decide))))))))⟩
theorem sp_rtext {a : R} (h : rOk a = true) : FnSpec G 2 (Str.ofString "rtext") [encR a] (.str (rT a)) := by
  unfold rOk at h
  simp only [Bool.and_eq_true, decide_eq_true_eq] at h
  obtain ⟨⟨⟨h0, h1⟩, h2⟩, h3⟩ := h
  unfold rT
  by_cases ha : a.2 = 1
  · rw [if_pos ha]
    exact FnSpec.at 22 T.defs (by decide +kernel) (by decide +kernel) ⟨_, (ES.ret (ES1.ret (EE.ite_t (ET.conv (b' := true) (ET.ieq (EE.item_t (EE.name 0 rfl rfl) EE.int rfl rfl (Nat.le_of_ble_eq_true rfl)) EE.int) (by simpa using ha)) (EE.call 1 (sp_whole_text T hp h0) (by first | decide | omega) rfl (EEs.cons (EE.item_t (EE.name 0 rfl rfl) EE.int rfl rfl (Nat.le_of_ble_eq_true rfl)) EEs.nil)))))⟩
  · rw [if_neg ha]
    exact FnSpec.at 22 T.defs (by decide +kernel) (by decide +kernel) ⟨_, (ES.ret (ES1.ret (EE.ite_f (ET.conv (b' := false) (ET.ieq (EE.item_t (EE.name 0 rfl rfl) EE.int rfl rfl (Nat.le_of_ble_eq_true rfl)) EE.int) (by simpa using ha)) (EE.str_add (EE.str_add (EE.call 1 (sp_whole_text T hp h0) (by first | decide | omega) rfl (EEs.cons (EE.item_t (EE.name 0 rfl rfl) EE.int rfl rfl (Nat.le_of_ble_eq_true rfl)) EEs.nil)) EE.str (Nat.le_trans h2 (by decide))) (EE.call 1 (sp_whole_text T hp h1) (by first | decide | omega) rfl (EEs.cons (EE.item_t (EE.name 0 rfl rfl) EE.int rfl rfl (Nat.le_of_ble_eq_true rfl)) EEs.nil)) (Nat.le_trans h3 (by decide))))))⟩
end
end Mine

end -- WT
section -- WU
open PySem PySem.W PyProof.Rows PySem.Calls
set_option maxRecDepth 100000
set_option linter.unusedVariables false
set_option linter.unusedSimpArgs false
set_option linter.unusedSectionVars false
namespace Mine

noncomputable abbrev xS : Str := "x"
noncomputable abbrev noneD : List D := [encT "y" .sym, .tup [.str "call", .str "sin", .tup [encT "x" .sym]], encT "x" (.pow .sym (.num 1 2)), encT "x" (.pow (.num 0 1) (.num (-1) 1)), .tup [.str "prod", .tup [encT "x" .sym, encT "z" .sym]], encT "x" (.pow .sym .sym)]
section
variable {G : GC} (T : Tops G)
include T
theorem sp_t_call {s : Str} {l : List D} (hz : l.length ≤ 1000) : FnSpec G 0 (Str.ofString "t_call") [.str s, .lst l] (.tup [.str "call", .str s, .tup l]) :=
  FnSpec.at 62 T.defs (by decide +kernel) (by decide +kernel) ⟨_, (ES.ret (ES1.ret (EE.tuple (EEs.cons EE.str (EEs.cons (EE.name 0 rfl rfl) (EEs.cons (EE.bcall 2 (bs_tuple (Nat.le_trans hz (by decide))) (.t _) (by decide) boot_tuple rfl (EEs.cons (EE.name 1 rfl rfl) EEs.nil)) EEs.nil))))))⟩
theorem sp_t_prod2 (a b : D) : FnSpec G 0 (Str.ofString "t_prod") [.lst [a, b]] (.tup [.str "prod", .tup [a, b]]) :=
  FnSpec.at 60 T.defs (by decide +kernel) (by decide +kernel) ⟨_, (ES.cons (ES1.if_f (ET.conv (b' := false) (ET.ieq (EE.bcall 1 (bs_len_l (Nat.le_of_ble_eq_true rfl)) (.b _) (by decide) boot_len rfl (EEs.cons (EE.name 0 rfl rfl) EEs.nil)) EE.int) (by rfl)) ES.nil) (ES.ret (ES1.ret (EE.ite_f (ET.conv (b' := false) (ET.ieq (EE.bcall 1 (bs_len_l (Nat.le_of_ble_eq_true rfl)) (.b _) (by decide) boot_len rfl (EEs.cons (EE.name 0 rfl rfl) EEs.nil)) EE.int) (by rfl)) (EE.tuple (EEs.cons EE.str (EEs.cons (EE.bcall 3 (bs_tuple (Nat.le_of_ble_eq_true rfl)) (.t _) (by decide) boot_tuple rfl (EEs.cons (EE.name 0 rfl rfl) EEs.nil)) EEs.nil)))))))⟩
theorem sp_wexp2 : FnSpec G 0 (Str.ofString "whole_exponent") [encT "x" (.num 1 2)] .none :=
  FnSpec.at 109 T.defs (by decide +kernel) (by decide +kernel) ⟨_, (ES.ret (ES1.ret (EE.ite_f (ET.and_t (ET.conv (b' := true) (ET.eq (EE.kind (EE.name 0 rfl rfl) EE.int) EE.str (Nat.le_of_ble_eq_true rfl)) (by simp only [kindS, rankT]; decide +kernel)) (ET.and_f (ET.conv (b' := false) (ET.ieq (EE.item_t (EE.name 0 rfl rfl) EE.int rfl rfl (Nat.le_of_ble_eq_true rfl)) EE.int) (by rfl)))) EE.none)))⟩
theorem sp_wexp3 : FnSpec G 0 (Str.ofString "whole_exponent") [encT "x" .sym] .none :=
  FnSpec.at 109 T.defs (by decide +kernel) (by decide +kernel) ⟨_, (ES.ret (ES1.ret (EE.ite_f (ET.and_f (ET.conv (b' := false) (ET.eq (EE.kind (EE.name 0 rfl rfl) EE.int) EE.str (Nat.le_of_ble_eq_true rfl)) (kNum .sym))) EE.none)))⟩
theorem sp_none0 (y : Str) (h : (y == ("x" : Str)) = false) : FnSpec G 2 (Str.ofString "from_term") [encT y .sym, .str "x"] .none :=
  FnSpec.at 110 T.defs (by decide +kernel) (by decide +kernel) ⟨_, (ES.cons (ES1.if_f (ET.conv (b' := false) (ET.eq (EE.kind (EE.name 0 rfl rfl) EE.int) EE.str (Nat.le_of_ble_eq_true rfl)) (by simp only [kindS, rankT]; decide +kernel)) ES.nil) (ES.ret (ES1.if_t (ET.conv (b' := true) (ET.eq (EE.kind (EE.name 0 rfl rfl) EE.int) EE.str (Nat.le_of_ble_eq_true rfl)) (by simp only [kindS, rankT]; decide +kernel)) (ES.ret (ES1.ret (EE.ite_f (ET.conv (b' := false) (ET.eq (EE.item_t (EE.name 0 rfl rfl) EE.int rfl rfl (Nat.le_of_ble_eq_true rfl)) (EE.name 1 rfl rfl) (Nat.le_of_ble_eq_true rfl)) (by simpa [deq, deqInt, deqStr] using h)) EE.none))))))⟩
theorem sp_none1 : FnSpec G 20 (Str.ofString "from_term") [.tup [.str "call", .str "sin", .tup [encT "x" .sym]], .str "x"] .none :=
  FnSpec.at 110 T.defs (by decide +kernel) (by decide +kernel) ⟨_, (ES.cons (ES1.if_f (ET.conv (b' := false) (ET.eq (EE.item_t (EE.name 0 rfl rfl) EE.int rfl rfl (Nat.le_of_ble_eq_true rfl)) EE.str (Nat.le_of_ble_eq_true rfl)) (by decide +kernel)) ES.nil) (ES.cons (ES1.if_f (ET.conv (b' := false) (ET.eq (EE.item_t (EE.name 0 rfl rfl) EE.int rfl rfl (Nat.le_of_ble_eq_true rfl)) EE.str (Nat.le_of_ble_eq_true rfl)) (by decide +kernel)) ES.nil) (ES.cons (ES1.if_f (ET.conv (b' := false) (ET.eq (EE.item_t (EE.name 0 rfl rfl) EE.int rfl rfl (Nat.le_of_ble_eq_true rfl)) EE.str (Nat.le_of_ble_eq_true rfl)) (by decide +kernel)) ES.nil) (ES.ret (ES1.if_t (ET.and_t (ET.conv (b' := true) (ET.ne (EE.item_t (EE.name 0 rfl rfl) EE.int rfl rfl (Nat.le_of_ble_eq_true rfl)) EE.str (Nat.le_of_ble_eq_true rfl)) (by decide +kernel)) (ET.and_t (ET.conv (b' := true) (ET.ne (EE.item_t (EE.name 0 rfl rfl) EE.int rfl rfl (Nat.le_of_ble_eq_true rfl)) EE.str (Nat.le_of_ble_eq_true rfl)) (by decide +kernel)) ET.and_nil)) (ES.ret (ES1.ret EE.none)))))))⟩
theorem sp_none2 : FnSpec G 20 (Str.ofString "from_term") [encT "x" (.pow .sym (.num 1 2)), .str "x"] .none :=
  FnSpec.at 110 T.defs (by decide +kernel) (by decide +kernel) ⟨_, (ES.cons (ES1.if_f (ET.conv (b' := false) (ET.eq (EE.kind (EE.name 0 rfl rfl) EE.int) EE.str (Nat.le_of_ble_eq_true rfl)) (by simp only [kindS, rankT]; decide +kernel)) ES.nil) (ES.cons (ES1.if_f (ET.conv (b' := false) (ET.eq (EE.kind (EE.name 0 rfl rfl) EE.int) EE.str (Nat.le_of_ble_eq_true rfl)) (by simp only [kindS, rankT]; decide +kernel)) ES.nil) (ES.ret (ES1.if_t (ET.conv (b' := true) (ET.eq (EE.kind (EE.name 0 rfl rfl) EE.int) EE.str (Nat.le_of_ble_eq_true rfl)) (by simp only [kindS, rankT]; decide +kernel)) (ES.cons (ES1.assign_swap (ys := [Str.ofString "base", Str.ofString "n"]) (EEs.cons (EE.call 11 ((sp_from T xS (n:=1)) (show fromM 1 .sym = some ([r0, r1], [r1]) from rfl)) (by first | decide | omega) rfl (EEs.cons (EE.item_t (EE.name 0 rfl rfl) EE.int rfl rfl (Nat.le_of_ble_eq_true rfl)) (EEs.cons (EE.name 1 rfl rfl) EEs.nil))) (EEs.cons (EE.call 12 (sp_wexp2 T ) (by first | decide | omega) rfl (EEs.cons (EE.item_t (EE.name 0 rfl rfl) EE.int rfl rfl (Nat.le_of_ble_eq_true rfl)) EEs.nil)) EEs.nil)) (.cons 3 _ rfl (by decide) (.cons 2 _ rfl (by decide) .nil)) rfl) (ES.ret (ES1.ret (EE.ite_t (ET.or_f (ET.conv (b' := false) (ET.is_none (EE.name 2 rfl rfl)) (by rfl)) (ET.or_t (ET.conv (b' := true) (ET.is_none (EE.name 3 rfl rfl)) (by rfl)))) EE.none))))))))⟩
theorem sp_none3 : FnSpec G 20 (Str.ofString "from_term") [encT "x" (.pow (.num 0 1) (.num (-1) 1)), .str "x"] .none :=
  FnSpec.at 110 T.defs (by decide +kernel) (by decide +kernel) ⟨_, (ES.cons (ES1.if_f (ET.conv (b' := false) (ET.eq (EE.kind (EE.name 0 rfl rfl) EE.int) EE.str (Nat.le_of_ble_eq_true rfl)) (by simp only [kindS, rankT]; decide +kernel)) ES.nil) (ES.cons (ES1.if_f (ET.conv (b' := false) (ET.eq (EE.kind (EE.name 0 rfl rfl) EE.int) EE.str (Nat.le_of_ble_eq_true rfl)) (by simp only [kindS, rankT]; decide +kernel)) ES.nil) (ES.ret (ES1.if_t (ET.conv (b' := true) (ET.eq (EE.kind (EE.name 0 rfl rfl) EE.int) EE.str (Nat.le_of_ble_eq_true rfl)) (by simp only [kindS, rankT]; decide +kernel)) (ES.cons (ES1.assign_swap (ys := [Str.ofString "base", Str.ofString "n"]) (EEs.cons (EE.call 11 ((sp_from T xS (n:=1)) (show fromM 1 (.num 0 1) = some ([], [r1]) by decide +kernel)) (by first | decide | omega) rfl (EEs.cons (EE.item_t (EE.name 0 rfl rfl) EE.int rfl rfl (Nat.le_of_ble_eq_true rfl)) (EEs.cons (EE.name 1 rfl rfl) EEs.nil))) (EEs.cons (EE.call 12 (sp_wexp T xS _ ) (by first | decide | omega) rfl (EEs.cons (EE.item_t (EE.name 0 rfl rfl) EE.int rfl rfl (Nat.le_of_ble_eq_true rfl)) EEs.nil)) EEs.nil)) (.cons 3 _ rfl (by decide) (.cons 2 _ rfl (by decide) .nil)) rfl) (ES.ret (ES1.ret (EE.ite_t (ET.or_f (ET.conv (b' := false) (ET.is_none (EE.name 2 rfl rfl)) (by rfl)) (ET.or_f (ET.conv (b' := false) (ET.is_none (EE.name 3 rfl rfl)) (by rfl)) (ET.or_t (ET.and_t (ET.conv (b' := true) (ET.ilt (EE.name 3 rfl rfl) EE.int) (by decide)) (ET.and_t (ET.conv (b' := true) (ET.eq (EE.item_t (EE.name 2 rfl rfl) EE.int rfl rfl (Nat.le_of_ble_eq_true rfl)) (EF.val (EF.list EEs.nil)) (by decide +kernel)) (by rfl)) ET.and_nil))))) EE.none))))))))⟩
theorem sp_none4 : FnSpec G 20 (Str.ofString "from_term") [.tup [.str "prod", .tup [encT "x" .sym, encT "z" .sym]], .str "x"] .none :=
  FnSpec.at 110 T.defs (by decide +kernel) (by decide +kernel) ⟨_, (ES.cons (ES1.if_f (ET.conv (b' := false) (ET.eq (EE.item_t (EE.name 0 rfl rfl) EE.int rfl rfl (Nat.le_of_ble_eq_true rfl)) EE.str (Nat.le_of_ble_eq_true rfl)) (by decide +kernel)) ES.nil) (ES.cons (ES1.if_f (ET.conv (b' := false) (ET.eq (EE.item_t (EE.name 0 rfl rfl) EE.int rfl rfl (Nat.le_of_ble_eq_true rfl)) EE.str (Nat.le_of_ble_eq_true rfl)) (by decide +kernel)) ES.nil) (ES.cons (ES1.if_f (ET.conv (b' := false) (ET.eq (EE.item_t (EE.name 0 rfl rfl) EE.int rfl rfl (Nat.le_of_ble_eq_true rfl)) EE.str (Nat.le_of_ble_eq_true rfl)) (by decide +kernel)) ES.nil) (ES.cons (ES1.if_f (ET.and_t (ET.conv (b' := true) (ET.ne (EE.item_t (EE.name 0 rfl rfl) EE.int rfl rfl (Nat.le_of_ble_eq_true rfl)) EE.str (Nat.le_of_ble_eq_true rfl)) (by decide +kernel)) (ET.and_f (ET.conv (b' := false) (ET.ne (EE.item_t (EE.name 0 rfl rfl) EE.int rfl rfl (Nat.le_of_ble_eq_true rfl)) EE.str (Nat.le_of_ble_eq_true rfl)) (by decide +kernel)))) ES.nil) (ES.cons (ES1.assign 4 (EE.ite_f (ET.conv (b' := false) (ET.eq (EE.item_t (EE.name 0 rfl rfl) EE.int rfl rfl (Nat.le_of_ble_eq_true rfl)) EE.str (Nat.le_of_ble_eq_true rfl)) (by decide +kernel)) (EE.glob 15 rfl T.F1))) (ES.ret (ES1.for (EI.tuple (EE.item_t (EE.name 0 rfl rfl) EE.int rfl rfl (Nat.le_of_ble_eq_true rfl))) (EFo.cons 5 rfl (by decide) (ES.cons (ES1.assign 6 (EE.call 11 ((sp_from T xS (n:=1)) (show fromM 1 .sym = some ([r0, r1], [r1]) from rfl)) (by first | decide | omega) rfl (EEs.cons (EE.name 5 rfl rfl) (EEs.cons (EE.name 1 rfl rfl) EEs.nil)))) (ES.cons (ES1.if_f (ET.conv (b' := false) (ET.is_none (EE.name 6 rfl rfl)) (by rfl)) ES.nil) (ES.cons (ES1.assign 4 (EE.ite_f (ET.conv (b' := false) (ET.eq (EE.item_t (EE.name 0 rfl rfl) EE.int rfl rfl (Nat.le_of_ble_eq_true rfl)) EE.str (Nat.le_of_ble_eq_true rfl)) (by decide +kernel)) (EE.call 17 (sp_fmul T (show fmulM ([r1], [r1]) ([r0, r1], [r1]) = some ([r0, r1], [r1]) by decide +kernel)) (by first | decide | omega) rfl (EEs.cons (EE.name 4 rfl rfl) (EEs.cons (EE.name 6 rfl rfl) EEs.nil))))) ES.nil))) (EFo.ret 5 rfl (by decide) (ES.cons (ES1.assign 6 (EE.call 11 (sp_none0 T _ (by decide +kernel) ) (by first | decide | omega) rfl (EEs.cons (EE.name 5 rfl rfl) (EEs.cons (EE.name 1 rfl rfl) EEs.nil)))) (ES.ret (ES1.if_t (ET.conv (b' := true) (ET.is_none (EE.name 6 rfl rfl)) (by rfl)) (ES.ret (ES1.ret EE.none))))))))))))))⟩
theorem sp_none5 : FnSpec G 20 (Str.ofString "from_term") [encT "x" (.pow .sym .sym), .str "x"] .none :=
  FnSpec.at 110 T.defs (by decide +kernel) (by decide +kernel) ⟨_, (ES.cons (ES1.if_f (ET.conv (b' := false) (ET.eq (EE.kind (EE.name 0 rfl rfl) EE.int) EE.str (Nat.le_of_ble_eq_true rfl)) (by simp only [kindS, rankT]; decide +kernel)) ES.nil) (ES.cons (ES1.if_f (ET.conv (b' := false) (ET.eq (EE.kind (EE.name 0 rfl rfl) EE.int) EE.str (Nat.le_of_ble_eq_true rfl)) (by simp only [kindS, rankT]; decide +kernel)) ES.nil) (ES.ret (ES1.if_t (ET.conv (b' := true) (ET.eq (EE.kind (EE.name 0 rfl rfl) EE.int) EE.str (Nat.le_of_ble_eq_true rfl)) (by simp only [kindS, rankT]; decide +kernel)) (ES.cons (ES1.assign_swap (ys := [Str.ofString "base", Str.ofString "n"]) (EEs.cons (EE.call 11 ((sp_from T xS (n:=1)) (show fromM 1 .sym = some ([r0, r1], [r1]) from rfl)) (by first | decide | omega) rfl (EEs.cons (EE.item_t (EE.name 0 rfl rfl) EE.int rfl rfl (Nat.le_of_ble_eq_true rfl)) (EEs.cons (EE.name 1 rfl rfl) EEs.nil))) (EEs.cons (EE.call 12 (sp_wexp3 T ) (by first | decide | omega) rfl (EEs.cons (EE.item_t (EE.name 0 rfl rfl) EE.int rfl rfl (Nat.le_of_ble_eq_true rfl)) EEs.nil)) EEs.nil)) (.cons 3 _ rfl (by decide) (.cons 2 _ rfl (by decide) .nil)) rfl) (ES.ret (ES1.ret (EE.ite_t (ET.or_f (ET.conv (b' := false) (ET.is_none (EE.name 2 rfl rfl)) (by rfl)) (ET.or_t (ET.conv (b' := true) (ET.is_none (EE.name 3 rfl rfl)) (by rfl)))) EE.none))))))))⟩
end
end Mine

end -- WU
section -- WV
open PySem PySem.W PyProof.Rows PySem.Calls
set_option maxRecDepth 100000
set_option linter.unusedVariables false
set_option linter.unusedSimpArgs false
set_option linter.unusedSectionVars false
namespace Mine

noncomputable def topS (xs : List Int) (k : Nat) : Option (P × Nat) := if takeV xs k 5 < 4 then rowS xs (k + 2) (takeV xs (k + 1) 2).toNat else some ([], k + 1)
noncomputable def botS (xs : List Int) (k : Nat) : Option (P × Nat) := rowS xs (k + 1) (takeV xs k 2).toNat
structure TurnOk (xs : List Int) (pt : R) (k k' : Nat) (f : F) : Prop where
  hk : k ≤ 70
  ex : ∃ top k1 bottom, topS xs k = some (top, k1) ∧ botS xs k1 = some (bottom, k') ∧ fmakeM top bottom = some f ∧ OneOk f top bottom pt
theorem rowS_le {xs : List Int} {k m : Nat} {p : P} {k' : Nat} (h : rowS xs k m = some (p, k')) : k' ≤ k + 3 := by
  unfold rowS at h
  split at h
  · split at h
    · cases h
    · cases h; lia
  · split at h
    · cases h
    · split at h
      · cases h
      · cases h; lia
theorem topS_le {xs : List Int} {k : Nat} {p : P} {k' : Nat} (h : topS xs k = some (p, k')) : k' ≤ k + 5 := by
  unfold topS at h
  split at h
  · have := rowS_le h; lia
  · cases h; lia
noncomputable def wordsI (x : Str) : Option Int := if x.length ≤ 640 then PySem.intText? x else none
structure SumOk (f1 f2 f3 : F) (pt : R) (v1 v2 v3 : Option R) : Prop where
  h1 : fatM f1 pt = some v1
  h2 : fatM f2 pt = some v2
  h3 : fatM f3 pt = some v3
  sum : ∀ a b c, v1 = some a → v2 = some b → v3 = some c → ∃ S w s, fsumM [f1, f2, f3] = some S ∧ fatM S pt = some (some w) ∧ raddM a b = some s ∧ raddM s c = some w
  comp : ∀ b, v2 = some b → ∃ due, fatM f1 b = some due ∧ ∀ d, due = some d → ∃ C, fcomposeM f1 f2 = some C ∧ fatM C pt = some (some d)
structure TextOk (pt : R) : Prop where
  ok : rOk pt = true
  len : (rT pt).length ≤ 10000
  wrd : mapO wordsI (Txt.split (rT pt) "/") = some (if pt.2 = 1 then [pt.1] else [pt.1, pt.2])
  few : (Txt.split (rT pt) "/").length ≤ 1000
structure LawOk (xs : List Int) : Prop where
  hx : xs.length ≤ 100
  ex : ∃ pt k1 k2 k3 f1 f2 f3 v1 v2 v3, ratM (takeV xs 0 7 - 3) (1 + takeV xs 1 2) = some pt ∧ TextOk pt ∧ TurnOk xs pt 2 k1 f1 ∧ TurnOk xs pt k1 k2 f2 ∧ TurnOk xs pt k2 k3 f3 ∧ k3 ≤ 90 ∧ SumOk f1 f2 f3 pt v1 v2 v3
section
variable {G : GC} (T : Tops G) (hp : ConstIs G "PIECE" (.int 4000))
include T
theorem sp_rowV {xs : List Int} {k k' : Nat} {v : Int} {p : P} (hx : xs.length ≤ 100) (hk : k ≤ 90) (hv : 0 ≤ v ∧ v < 2) (h : rowS xs k v.toNat = some (p, k')) : FnSpecB G 3 (Str.ofString "_law_row") (boxD xs k) [.int v] (boxD xs k') (encP p) := by
  have e : v = ((v.toNat : Nat) : Int) := by lia
  have := sp_row T (xs := xs) (k := k) (k' := k') (many := v.toNat) (p := p) hx hk (by lia) h
  rwa [← e] at this
theorem law_turn {xs : List Int} {pt : R} {k k' : Nat} {f : F} {l : List F} {A s4 s5 s6 s7 : Slot} {st : St} {ab as : Addr} (hx : xs.length ≤ 100) (o : TurnOk xs pt k k' f) (hl : l.length ≤ 100) :
    ∃ s5' s6' s7', ES G 50 (scAt 121) (A :: .own ab (boxD xs k) :: .own as (l.map encF) :: .val (encR pt) :: s4 :: s5 :: s6 :: s7 :: st) (loopBody (stAt 121 2)) .next (A :: .own ab (boxD xs k') :: .own as ((l ++ [f]).map encF) :: .val (encR pt) :: s4 :: s5' :: s6' :: s7' :: st) := by
  obtain ⟨top, k1, bottom, h1, h2, h3, h4⟩ := o.ex
  have hk := o.hk
  have m1 := takeV_mod (xs := xs) (k := k + 1) (w := 2) (by decide)
  have m2 := takeV_mod (xs := xs) (k := k1) (w := 2) (by decide)
  have hk1 := topS_le h1
  unfold topS at h1
  unfold botS at h2
  refine ⟨.val (encP top), .val (encP bottom), .val (encF f), ?_⟩
  by_cases hc : takeV xs k 5 < 4
  · rw [if_pos hc] at h1
    exact (ES.cons (ES1.assign 5 (EE.ite_t (ET.conv (b' := true) (ET.ilt (EE.callB 16 1 (sp_take T (by decide) hx (show k ≤ 100 by lia)) (by first | decide | lia) rfl rfl rfl (EEs.cons EE.int EEs.nil) rfl) EE.int) (by simpa using hc)) (EE.callB 18 1 (sp_rowV T hx (show k + 2 ≤ 90 by lia) m1 h1) (by first | decide | lia) rfl rfl rfl (EEs.cons (EE.callB 16 1 (sp_take T (by decide) hx (show k + 1 ≤ 100 by lia)) (by first | decide | lia) rfl rfl rfl (EEs.cons EE.int EEs.nil) rfl) EEs.nil) rfl))) (ES.cons (ES1.assign 6 (EE.callB 18 1 (sp_rowV T hx (show k1 + 1 ≤ 90 by lia) m2 h2) (by first | decide | lia) rfl rfl rfl (EEs.cons (EE.callB 16 1 (sp_take T (by decide) hx (show k1 ≤ 100 by lia)) (by first | decide | lia) rfl rfl rfl (EEs.cons EE.int EEs.nil) rfl) EEs.nil) rfl)) (ES.cons (ES1.assign 7 (EE.call 19 (sp_fmake T h3) (by first | decide | lia) rfl (EEs.cons (EE.name 5 rfl rfl) (EEs.cons (EE.name 6 rfl rfl) EEs.nil)))) (ES.cons (ES1.if_f (ET.not (ET.conv (b' := true) (ET.of_bool (EE.call 20 (sp_one T h4) (by first | decide | lia) rfl (EEs.cons (EE.name 7 rfl rfl) (EEs.cons (EE.name 5 rfl rfl) (EEs.cons (EE.name 6 rfl rfl) (EEs.cons (EE.name 3 rfl rfl) EEs.nil)))))) (by rfl))) ES.nil) (ES.cons (ES1.append_m 2 rfl rfl (EE.name 7 rfl rfl) rfl (by lia)) ES.nil)))))
  · rw [if_neg hc] at h1
    cases h1
    exact (ES.cons (ES1.assign 5 (EE.ite_f (ET.conv (b' := false) (ET.ilt (EE.callB 16 1 (sp_take T (by decide) hx (show k ≤ 100 by lia)) (by first | decide | lia) rfl rfl rfl (EEs.cons EE.int EEs.nil) rfl) EE.int) (by simpa using hc)) (EF.val (EF.list EEs.nil)))) (ES.cons (ES1.assign 6 (EE.callB 18 1 (sp_rowV T hx (show k + 1 + 1 ≤ 90 by lia) m2 h2) (by first | decide | lia) rfl rfl rfl (EEs.cons (EE.callB 16 1 (sp_take T (by decide) hx (show k + 1 ≤ 100 by lia)) (by first | decide | lia) rfl rfl rfl (EEs.cons EE.int EEs.nil) rfl) EEs.nil) rfl)) (ES.cons (ES1.assign 7 (EE.call 19 (sp_fmake T h3) (by first | decide | lia) rfl (EEs.cons (EE.name 5 rfl rfl) (EEs.cons (EE.name 6 rfl rfl) EEs.nil)))) (ES.cons (ES1.if_f (ET.not (ET.conv (b' := true) (ET.of_bool (EE.call 20 (sp_one T h4) (by first | decide | lia) rfl (EEs.cons (EE.name 7 rfl rfl) (EEs.cons (EE.name 5 rfl rfl) (EEs.cons (EE.name 6 rfl rfl) (EEs.cons (EE.name 3 rfl rfl) EEs.nil)))))) (by rfl))) ES.nil) (ES.cons (ES1.append_m 2 rfl rfl (EE.name 7 rfl rfl) rfl (by lia)) ES.nil)))))
noncomputable abbrev sL (A B : Slot) (f1 f2 f3 : F) (pt : R) (s4 s5 s6 s7 : Slot) (r : St) : St := A :: B :: .val (.lst ([f1, f2, f3].map encF)) :: .val (encR pt) :: s4 :: s5 :: s6 :: s7 :: r
theorem law_t4 {f1 f2 f3 : F} {pt : R} {v1 v2 v3 : Option R} {A B s4 s5 s6 s7 : Slot} {r : St} (o : SumOk f1 f2 f3 pt v1 v2 v3) :
    ES1 G 50 (scAt 121) (sL A B f1 f2 f3 pt s4 s5 s6 s7 (.val (.lst ([v1, v2, v3].map encO)) :: r)) (stAt 121 4) .next (sL A B f1 f2 f3 pt s4 s5 s6 s7 (.val (.lst ([v1, v2, v3].map encO)) :: r)) := by
  by_cases hn : v1 = none ∨ v2 = none ∨ v3 = none
  · have e : (!dAny .none ([v1, v2, v3].map encO)) = false := by rcases hn with rfl | rfl | rfl <;> simp [dAny, deq, deqNone]
    exact (ES1.if_f (ET.conv (b' := false) (ET.notIn_lst EE.none (EE.name 8 rfl rfl) (Nat.zero_le 80)) e) ES.nil)
  · have hn1 : ∃ a, v1 = some a := Option.ne_none_iff_exists'.mp fun q => hn (.inl q)
    have hn2 : ∃ a, v2 = some a := Option.ne_none_iff_exists'.mp fun q => hn (.inr (.inl q))
    have hn3 : ∃ a, v3 = some a := Option.ne_none_iff_exists'.mp fun q => hn (.inr (.inr q))
    obtain ⟨a, rfl⟩ := hn1
    obtain ⟨b, rfl⟩ := hn2
    obtain ⟨c, rfl⟩ := hn3
    obtain ⟨S, w, s, h1, h2, h3, h4⟩ := o.sum a b c rfl rfl rfl
    exact (ES1.if_t (ET.conv (b' := true) (ET.notIn_lst EE.none (EE.name 8 rfl rfl) (Nat.zero_le 80)) (by rfl)) (ES.cons (ES1.if_f (ET.conv (b' := false) (ET.ne (EE.call 21 (sp_fat T h2) (by first | decide | lia) rfl (EEs.cons (EE.call 22 ((sp_fsum T (l:=[f1,f2,f3])) h1) (by first | decide | lia) rfl (EEs.cons (EE.name 2 rfl rfl) EEs.nil)) (EEs.cons (EE.name 3 rfl rfl) EEs.nil))) (EE.call 23 (sp_radd T.defs h4) (by first | decide | lia) rfl (EEs.cons (EE.call 23 (sp_radd T.defs h3) (by first | decide | lia) rfl (EEs.cons (EE.item_l' (EE.name 8 rfl rfl) EE.int (ItemAt.nat (j := 0) rfl (Nat.le_of_ble_eq_true rfl))) (EEs.cons (EE.item_l' (EE.name 8 rfl rfl) EE.int (ItemAt.nat (j := 1) rfl (Nat.le_of_ble_eq_true rfl))) EEs.nil))) (EEs.cons (EE.item_l' (EE.name 8 rfl rfl) EE.int (ItemAt.nat (j := 2) rfl (Nat.le_of_ble_eq_true rfl))) EEs.nil))) (depO (some w))) (by rw [deq_refl]; rfl)) ES.nil) ES.nil))
theorem law_t5 {f1 f2 f3 : F} {pt : R} {A B s4 s5 s6 s7 s8 s9 : Slot} {r : St} (z : small f2.1 ∧ small f2.2) :
    ∃ fx : Bool, ES1 G 50 (scAt 121) (sL A B f1 f2 f3 pt s4 s5 s6 s7 (s8 :: s9 :: r)) (stAt 121 5) .next (sL A B f1 f2 f3 pt s4 s5 s6 s7 (s8 :: .val (.bool fx) :: r)) := by
  by_cases h : (f2.1.length : Int) < 2
  · exact ⟨_, (ES1.assign 9 (EE.and_t (EE.conv (EE.ilt (EE.bcall 24 (bs_len_m (Nat.le_trans z.1 (by decide))) (.b _) (by decide) boot_len rfl (EEs.cons (EE.item_t (EE.item_l' (EE.name 2 rfl rfl) EE.int (ItemAt.nat (j := 1) rfl (Nat.le_of_ble_eq_true rfl))) EE.int rfl rfl (Nat.le_of_ble_eq_true rfl)) EEs.nil)) EE.int) (congrArg D.bool (by simpa using h))) (EE.and_nil1 (EE.ieq (EE.bcall 24 (bs_len_m (Nat.le_trans z.2 (by decide))) (.b _) (by decide) boot_len rfl (EEs.cons (EE.item_t (EE.item_l' (EE.name 2 rfl rfl) EE.int (ItemAt.nat (j := 1) rfl (Nat.le_of_ble_eq_true rfl))) EE.int rfl rfl (Nat.le_of_ble_eq_true rfl)) EEs.nil)) EE.int))))⟩
  · exact ⟨_, (ES1.assign 9 (EE.and_f (EE.conv (EE.ilt (EE.bcall 24 (bs_len_m (Nat.le_trans z.1 (by decide))) (.b _) (by decide) boot_len rfl (EEs.cons (EE.item_t (EE.item_l' (EE.name 2 rfl rfl) EE.int (ItemAt.nat (j := 1) rfl (Nat.le_of_ble_eq_true rfl))) EE.int rfl rfl (Nat.le_of_ble_eq_true rfl)) EEs.nil)) EE.int) (congrArg D.bool (by simpa using h)))))⟩
theorem law_t6 {f1 f2 f3 : F} {pt : R} {v1 v2 v3 : Option R} {fx : Bool} {A B s4 s5 s6 s7 s10 : Slot} {r : St} (o : SumOk f1 f2 f3 pt v1 v2 v3) :
    ∃ s10', ES1 G 50 (scAt 121) (sL A B f1 f2 f3 pt s4 s5 s6 s7 (.val (.lst ([v1, v2, v3].map encO)) :: .val (.bool fx) :: s10 :: r)) (stAt 121 6) .next (sL A B f1 f2 f3 pt s4 s5 s6 s7 (.val (.lst ([v1, v2, v3].map encO)) :: .val (.bool fx) :: s10' :: r)) := by
  cases fx with
  | true => exact ⟨s10, (ES1.if_f (ET.and_f (ET.not (ET.conv (b' := true) (ET.of_bool (EE.name 9 rfl rfl)) (by rfl)))) ES.nil)⟩
  | false =>
    cases v2 with
    | none => exact ⟨s10, (ES1.if_f (ET.and_t (ET.not (ET.conv (b' := false) (ET.of_bool (EE.name 9 rfl rfl)) (by rfl))) (ET.and_f (ET.conv (b' := false) (ET.is_not_none (EE.item_l' (EE.name 8 rfl rfl) EE.int (ItemAt.nat (j := 1) (d := encO none) rfl (Nat.le_of_ble_eq_true rfl)))) (by rfl)))) ES.nil)⟩
    | some b =>
      obtain ⟨due, h1, h2⟩ := o.comp b rfl
      cases due with
      | none => exact ⟨.val (encO none), (ES1.if_t (ET.and_t (ET.not (ET.conv (b' := false) (ET.of_bool (EE.name 9 rfl rfl)) (by rfl))) (ET.and_t (ET.conv (b' := true) (ET.is_not_none (EE.item_l' (EE.name 8 rfl rfl) EE.int (ItemAt.nat (j := 1) (d := encR b) rfl (Nat.le_of_ble_eq_true rfl)))) (by rfl)) ET.and_nil)) (ES.cons (ES1.assign 10 (EE.call 21 (sp_fat T h1) (by first | decide | lia) rfl (EEs.cons (EE.item_l' (EE.name 2 rfl rfl) EE.int (ItemAt.nat (j := 0) rfl (Nat.le_of_ble_eq_true rfl))) (EEs.cons (EE.item_l' (EE.name 8 rfl rfl) EE.int (ItemAt.nat (j := 1) (d := encR b) rfl (Nat.le_of_ble_eq_true rfl))) EEs.nil)))) (ES.cons (ES1.if_f (ET.and_f (ET.conv (b' := false) (ET.is_not_none (EE.name 10 rfl rfl)) (by rfl))) ES.nil) ES.nil)))⟩
      | some d =>
        obtain ⟨C, h3, h4⟩ := h2 d rfl
        exact ⟨.val (encO (some d)), (ES1.if_t (ET.and_t (ET.not (ET.conv (b' := false) (ET.of_bool (EE.name 9 rfl rfl)) (by rfl))) (ET.and_t (ET.conv (b' := true) (ET.is_not_none (EE.item_l' (EE.name 8 rfl rfl) EE.int (ItemAt.nat (j := 1) (d := encR b) rfl (Nat.le_of_ble_eq_true rfl)))) (by rfl)) ET.and_nil)) (ES.cons (ES1.assign 10 (EE.call 21 (sp_fat T h1) (by first | decide | lia) rfl (EEs.cons (EE.item_l' (EE.name 2 rfl rfl) EE.int (ItemAt.nat (j := 0) rfl (Nat.le_of_ble_eq_true rfl))) (EEs.cons (EE.item_l' (EE.name 8 rfl rfl) EE.int (ItemAt.nat (j := 1) (d := encR b) rfl (Nat.le_of_ble_eq_true rfl))) EEs.nil)))) (ES.cons (ES1.if_f (ET.and_t (ET.conv (b' := true) (ET.is_not_none (EE.name 10 rfl rfl)) (by rfl)) (ET.and_f (ET.conv (b' := false) (ET.ne (EE.call 21 (sp_fat T h4) (by first | decide | lia) rfl (EEs.cons (EE.call 25 (sp_fcompose T h3) (by first | decide | lia) rfl (EEs.cons (EE.item_l' (EE.name 2 rfl rfl) EE.int (ItemAt.nat (j := 0) rfl (Nat.le_of_ble_eq_true rfl))) (EEs.cons (EE.item_l' (EE.name 2 rfl rfl) EE.int (ItemAt.nat (j := 1) rfl (Nat.le_of_ble_eq_true rfl))) EEs.nil))) (EEs.cons (EE.name 3 rfl rfl) EEs.nil))) (EE.name 10 rfl rfl) (depO (some d))) (by rw [deq_refl]; rfl)))) ES.nil) ES.nil)))⟩
theorem law_t8 {pt : R} {A B C s4 s5 s6 s7 s8 s9 s10 : Slot} {ws : List Str} {r : St} (h : mapO wordsI ws = some (if pt.2 = 1 then [pt.1] else [pt.1, pt.2])) (hz : ws.length ≤ 1000) :
    ES1 G 50 (scAt 121) (A :: B :: C :: .val (encR pt) :: s4 :: s5 :: s6 :: s7 :: s8 :: s9 :: s10 :: .val (.lst (ws.map D.str)) :: r) (stAt 121 8) .next (A :: B :: C :: .val (encR pt) :: s4 :: s5 :: s6 :: s7 :: s8 :: s9 :: s10 :: .val (.lst (ws.map D.str)) :: r) := by
  have g : ∀ a i, wordsI a = some i → PySem.intText? a = some i ∧ a.length ≤ 640 := fun a i e => by
    unfold wordsI at e
    split at e
    · rename_i q; exact ⟨e, q⟩
    · cases e
  by_cases hp : pt.2 = 1
  · rw [if_pos hp] at h
    exact (ES1.if_f (ET.conv (b' := false) (ET.ne (EF.val (EF.comp (EI.list (EE.name 11 rfl rfl)) (.skip rfl (.skip rfl (.skip rfl (.nil rfl)))) (eco_map 1 wordsI (ψ := D.int) h (fun a i _ h1 => (EE.bcall 2 (bs_int (g a i h1).1 (g a i h1).2) (.t _) (by decide) PyProof.Rows.boot_int rfl (EEs.cons (EE.name 1 rfl rfl) EEs.nil)))) (lzm hz) (CompOk.of (by decide +kernel)))) (EE.ite_t (ET.conv (b' := true) (ET.ieq (EE.item_t (EE.name 3 rfl rfl) EE.int rfl rfl (Nat.le_of_ble_eq_true rfl)) EE.int) (by simpa using hp)) (EF.val (EF.list (EEs.cons (EE.item_t (EE.name 3 rfl rfl) EE.int rfl rfl (Nat.le_of_ble_eq_true rfl)) EEs.nil)))) (Nat.le_of_ble_eq_true rfl)) (by simp [deq,deqL,dLst,deqInt])) ES.nil)
  · rw [if_neg hp] at h
    exact (ES1.if_f (ET.conv (b' := false) (ET.ne (EF.val (EF.comp (EI.list (EE.name 11 rfl rfl)) (.skip rfl (.skip rfl (.skip rfl (.nil rfl)))) (eco_map 1 wordsI (ψ := D.int) h (fun a i _ h1 => (EE.bcall 2 (bs_int (g a i h1).1 (g a i h1).2) (.t _) (by decide) PyProof.Rows.boot_int rfl (EEs.cons (EE.name 1 rfl rfl) EEs.nil)))) (lzm hz) (CompOk.of (by decide +kernel)))) (EE.ite_f (ET.conv (b' := false) (ET.ieq (EE.item_t (EE.name 3 rfl rfl) EE.int rfl rfl (Nat.le_of_ble_eq_true rfl)) EE.int) (by simpa using hp)) (EF.val (EF.list (EEs.cons (EE.item_t (EE.name 3 rfl rfl) EE.int rfl rfl (Nat.le_of_ble_eq_true rfl)) (EEs.cons (EE.item_t (EE.name 3 rfl rfl) EE.int rfl rfl (Nat.le_of_ble_eq_true rfl)) EEs.nil))))) (Nat.le_of_ble_eq_true rfl)) (by simp [deq,deqL,dLst,deqInt])) ES.nil)
omit T in
theorem none_at {v : Int} (h : 0 ≤ v ∧ v < 6) (T : Tops G) : ∃ d, ItemAt noneD v d ∧ FnSpec G 20 (Str.ofString "from_term") [d, .str "x"] .none := by
  have : v = 0 ∨ v = 1 ∨ v = 2 ∨ v = 3 ∨ v = 4 ∨ v = 5 := by lia
  rcases this with rfl | rfl | rfl | rfl | rfl | rfl
  · exact ⟨_, ⟨by decide, _, rfl, rfl⟩, (sp_none0 T "y" (by decide +kernel)).mono (by decide)⟩
  · exact ⟨_, ⟨by decide, _, rfl, rfl⟩, sp_none1 T⟩
  · exact ⟨_, ⟨by decide, _, rfl, rfl⟩, sp_none2 T⟩
  · exact ⟨_, ⟨by decide, _, rfl, rfl⟩, sp_none3 T⟩
  · exact ⟨_, ⟨by decide, _, rfl, rfl⟩, sp_none4 T⟩
  · exact ⟨_, ⟨by decide, _, rfl, rfl⟩, sp_none5 T⟩
theorem law_end {xs : List Int} {k : Nat} {A C E s4 s5 s6 s7 s8 s9 s10 s11 s12 s13 : Slot} {r : St} {ab : Addr} (hx : xs.length ≤ 100) (hk : k ≤ 90) :
    ∃ ρ', ES G 50 (scAt 121) (A :: .own ab (boxD xs k) :: C :: E :: s4 :: s5 :: s6 :: s7 :: s8 :: s9 :: s10 :: s11 :: s12 :: s13 :: r) ((bodyOf (defAt 121)).drop 9) (.ret (.bool true)) ρ' := by
  obtain ⟨d, h1, h2⟩ := none_at (takeV_mod (xs := xs) (k := k) (w := 6) (by decide)) T
  exact ⟨_, (ES.cons (ES1.assign 12 (EE.call 27 (sp_t_sym T _ ) (by first | decide | lia) rfl (EEs.cons EE.str EEs.nil))) (ES.cons (ES1.assign 13 (EF.val (EF.list (EEs.cons (EE.call 27 (sp_t_sym T _ ) (by first | decide | lia) rfl (EEs.cons EE.str EEs.nil)) (EEs.cons (EE.call 28 (sp_t_call T (Nat.le_of_ble_eq_true rfl)) (by first | decide | lia) rfl (EEs.cons EE.str (EEs.cons (EF.val (EF.list (EEs.cons (EE.name 12 rfl rfl) EEs.nil))) EEs.nil))) (EEs.cons (EE.call 29 (sp_t_pow T xS _ _ ) (by first | decide | lia) rfl (EEs.cons (EE.name 12 rfl rfl) (EEs.cons (EE.call 30 (sp_t_num T xS (show ratM 1 2 = some (1, 2) by decide +kernel)) (by first | decide | lia) rfl (EEs.cons EE.int (EEs.cons EE.int EEs.nil))) EEs.nil))) (EEs.cons (EE.call 29 (sp_t_pow T xS _ _ ) (by first | decide | lia) rfl (EEs.cons (EE.call 31 ((sp_t_sum T xS (l:=[])) (Nat.le_of_ble_eq_true rfl)) (by first | decide | lia) rfl (EEs.cons (EF.val (EF.list EEs.nil)) EEs.nil)) (EEs.cons (EE.call 30 (sp_t_num T xS (show ratM (-1) 1 = some (-1, 1) by decide +kernel)) (by first | decide | lia) rfl (EEs.cons (EE.neg EE.int) (EEs.cons EE.int EEs.nil))) EEs.nil))) (EEs.cons (EE.conv (EE.call 32 (sp_t_prod2 T _ _ ) (by first | decide | lia) rfl (EEs.cons (EF.val (EF.list (EEs.cons (EE.name 12 rfl rfl) (EEs.cons (EE.call 27 (sp_t_sym T _ ) (by first | decide | lia) rfl (EEs.cons EE.str EEs.nil)) EEs.nil)))) EEs.nil)) rfl) (EEs.cons (EE.call 29 (sp_t_pow T xS _ _ ) (by first | decide | lia) rfl (EEs.cons (EE.name 12 rfl rfl) (EEs.cons (EE.name 12 rfl rfl) EEs.nil))) EEs.nil))))))))) (ES.ret (ES1.ret (EE.is_none (EE.call 33 (h2 ) (by first | decide | lia) rfl (EEs.cons (EE.item_l' (EE.name 13 rfl rfl) (EE.callB 16 1 (sp_take T (by decide) hx (show k ≤ 100 by lia)) (by first | decide | lia) rfl rfl rfl (EEs.cons EE.int EEs.nil) rfl) h1) (EEs.cons EE.str EEs.nil))))))))⟩
include hp
theorem es_law {ys : List Int} (hy : ys.length ≤ 63) (o : LawOk (ys.take 40)) : ∃ ρ', ES G 50 (scAt 121) (ini [.lst (ys.map D.int)] 15) (bodyOf (defAt 121)) (.ret (.bool true)) ρ' := by
  have hx := o.hx
  obtain ⟨pt, k1, k2, k3, f1, f2, f3, v1, v2, v3, hpt, txt, o1, o2, o3, hk3, so⟩ := o.ex
  have hvals : mapO (fun f => fatM f pt) [f1, f2, f3] = some [v1, v2, v3] := by simp only [mapO, so.h1, so.h2, so.h3]
  have z2 : small f2.1 ∧ small f2.2 := by obtain ⟨_, _, _, _, _, _, q⟩ := o2.ex; exact ⟨q.z.1, q.z.2.1⟩
  refine ⟨[], ES1.assign_own 1 (EF.conv (d' := boxD (ys.take 40) 0) (EF.list (EEs.cons (EE.slice_upto_m (EF.val (EF.list_of_m 14 (EE.name 0 rfl rfl) rfl (Nat.le_trans hy (by decide)))) (EE.conv EE.int (congrArg D.int (show (40:Int) = ((40:Nat):Int) from rfl))) (by lia)) (EEs.cons EE.int EEs.nil))) rfl) (z := fun ab => ?_)⟩
  generalize ys.take 40 = xs at hx hpt o1 o2 o3 ⊢
  refine ES.assign_unpack_own 2 (EEsO.own (EF.list EEs.nil) (EEs.cons (EE.call 15 (sp_rat T.defs hpt) (by first | decide | lia) rfl (EEs.cons (EE.sub (EE.callB 16 1 (sp_take T (by decide) hx (show 0 ≤ 100 by lia)) (by first | decide | lia) rfl rfl rfl (EEs.cons EE.int EEs.nil) rfl) EE.int) (EEs.cons (EE.add EE.int (EE.callB 16 1 (sp_take T (by decide) hx (show 1 ≤ 100 by lia)) (by first | decide | lia) rfl rfl rfl (EEs.cons EE.int EEs.nil) rfl)) EEs.nil))) EEs.nil)) (fun _ => .cons 3 _ rfl (by decide) .nil) rfl (fun as => ?_) (fun _ => ⟨_, rfl, .name .nil⟩) (fun _ => rfl)
  obtain ⟨a5, a6, a7, t1⟩ := law_turn T (pt := pt) (l := []) (A := .val (.lst (ys.map D.int))) (s4 := .val (.int ((0 : Nat) : Int))) (s5 := .unset) (s6 := .unset) (s7 := .unset) (st := List.replicate 8 .unset) (ab := ab) (as := as) hx o1 (by decide)
  obtain ⟨b5, b6, b7, t2⟩ := law_turn T (pt := pt) (l := [f1]) (A := .val (.lst (ys.map D.int))) (s4 := .val (.int ((1 : Nat) : Int))) (s5 := a5) (s6 := a6) (s7 := a7) (st := List.replicate 8 .unset) (ab := ab) (as := as) hx o2 (by simp)
  obtain ⟨c5, c6, c7, t3⟩ := law_turn T (pt := pt) (l := [f1, f2]) (A := .val (.lst (ys.map D.int))) (s4 := .val (.int ((2 : Nat) : Int))) (s5 := b5) (s6 := b6) (s7 := b7) (st := List.replicate 8 .unset) (ab := ab) (as := as) hx o3 (by simp)
  obtain ⟨fx, t5⟩ := law_t5 T (f1 := f1) (f2 := f2) (f3 := f3) (pt := pt) (A := .val (.lst (ys.map D.int))) (B := .own ab (boxD xs k3)) (s4 := .val (.int ((2 : Nat) : Int))) (s5 := c5) (s6 := c6) (s7 := c7) (s8 := .val (.lst ([v1, v2, v3].map encO))) (s9 := .unset) (r := List.replicate 6 .unset) z2
  obtain ⟨s10, t6⟩ := law_t6 T (fx := fx) (A := .val (.lst (ys.map D.int))) (B := .own ab (boxD xs k3)) (s4 := .val (.int ((2 : Nat) : Int))) (s5 := c5) (s6 := c6) (s7 := c7) (s10 := .unset) (r := List.replicate 5 .unset) so
  obtain ⟨ρ', t9⟩ := law_end T (ab := ab) (A := .val (.lst (ys.map D.int))) (C := .val (.lst ([f1, f2, f3].map encF))) (E := .val (encR pt)) (s4 := .val (.int ((2 : Nat) : Int))) (s5 := c5) (s6 := c6) (s7 := c7) (s8 := .val (.lst ([v1, v2, v3].map encO))) (s9 := .val (.bool fx)) (s10 := s10) (s11 := .val (.lst ((Txt.split (rT pt) "/").map D.str))) (s12 := .unset) (s13 := .unset) (r := List.replicate 2 .unset) hx hk3
  exact ES.forget (ES.cons (ES1.for (EI.range 17 (EE.conv EE.int (congrArg D.int (show (3:Int) = ((3:Nat):Int) from rfl))) rfl (Nat.le_of_ble_eq_true rfl)) (EFo.cons 4 rfl (by decide) t1 (EFo.cons 4 rfl (by decide) t2 (EFo.cons 4 rfl (by decide) t3 EFo.nil))))
    (ES.cons (ES1.assign_comp 8 (EI.list (EE.name_own 2 rfl rfl)) (.skip rfl (.skip rfl (.skip rfl (.take 3 rfl rfl rfl (.nil rfl))))) (eco_map 1 (fun f => fatM f pt) hvals (fun a b _ h1 => (EE.call 2 (sp_fat T h1) (by first | decide | lia) rfl (EEs.cons (EE.name 1 rfl rfl) (EEs.cons (EE.name 3 rfl rfl) EEs.nil))))) (Nat.le_of_ble_eq_true rfl) (CompOk.of (by decide +kernel))) (ES.cons (law_t4 T so) (ES.cons t5 (ES.cons t6 (ES.cons (ES1.assign 11 (EE.split (EE.call 26 (sp_rtext T hp txt.ok) (by first | decide | lia) rfl (EEs.cons (EE.name 3 rfl rfl) EEs.nil)) EE.str (by decide +kernel) txt.len)) (ES.cons (law_t8 T txt.wrd txt.few) t9)))))))
end
end Mine

end -- WV
section -- PA
set_option maxRecDepth 100000
set_option linter.unusedVariables false
set_option linter.unusedSectionVars false
namespace Mine

noncomputable def V (r : R) : Rat := (r.1 : Rat) / (r.2 : Rat)
noncomputable def Nm (r : R) : Prop := 0 < r.2 ∧ Int.gcd r.1 r.2 = 1
noncomputable def B (k : Nat) (r : R) : Prop := r.1.natAbs < 2 ^ k ∧ r.2.natAbs < 2 ^ k
theorem cast_ne {a : Int} (h : a ≠ 0) : (a : Rat) ≠ 0 := fun q => h (by exact_mod_cast q)
theorem B.mono {k l : Nat} {r : R} (h : B k r) (q : k ≤ l) : B l r :=
  ⟨Nat.lt_of_lt_of_le h.1 (Nat.pow_le_pow_right (by decide) q), Nat.lt_of_lt_of_le h.2 (Nat.pow_le_pow_right (by decide) q)⟩
theorem log_le {n k : Nat} (h : n < 2 ^ k) : n.log2 ≤ k := by
  by_cases h0 : n = 0
  · subst h0; exact Nat.zero_le _
  · exact Nat.le_of_lt ((Nat.log2_lt h0).mpr h)
theorem mulOk_of {a b : Int} {i j : Nat} (ha : a.natAbs < 2 ^ i) (hb : b.natAbs < 2 ^ j) (h : i + j ≤ 67108000) : MulOk a b :=
  Nat.lt_of_le_of_lt (Nat.add_le_add (log_le ha) (log_le hb)) (Nat.lt_of_le_of_lt h (by decide))
theorem mul_lt {a b : Int} {i j : Nat} (ha : a.natAbs < 2 ^ i) (hb : b.natAbs < 2 ^ j) : (a * b).natAbs < 2 ^ (i + j) := by
  rw [Int.natAbs_mul, Nat.pow_add]
  exact Nat.mul_lt_mul'' ha hb
theorem add_lt {a b : Int} {i : Nat} (ha : a.natAbs < 2 ^ i) (hb : b.natAbs < 2 ^ i) : (a + b).natAbs < 2 ^ (i + 1) := by
  rw [Nat.pow_succ, Nat.mul_two]; exact Nat.lt_of_le_of_lt (Int.natAbs_add_le a b) (Nat.add_lt_add ha hb)
theorem val_mul {g x y : Rat} (hg : g ≠ 0) : x / y = (g * x) / (g * y) := by
  rw [Rat.div_def, Rat.div_def, Rat.inv_mul_rev, ← Rat.mul_assoc, Rat.mul_assoc _ _ y⁻¹]
  grind
theorem rat_core {a b d : Int} {k : Nat} (hd : d.natAbs = Int.gcd a b) (d0 : d ≠ 0) (hp : 0 < b.fdiv d) (h1 : a.natAbs < 2 ^ k) (h2 : b.natAbs < 2 ^ k) : Nm (a.fdiv d, b.fdiv d) ∧ V (a.fdiv d, b.fdiv d) = (a : Rat) / (b : Rat) ∧ B k (a.fdiv d, b.fdiv d) := by
  have da : d ∣ a := Int.natAbs_dvd.mp (hd ▸ Int.gcd_dvd_left a b)
  have db : d ∣ b := Int.natAbs_dvd.mp (hd ▸ Int.gcd_dvd_right a b)
  obtain ⟨x, rfl⟩ := da
  obtain ⟨y, rfl⟩ := db
  rw [Int.mul_fdiv_cancel_left _ d0] at hp
  rw [Int.mul_fdiv_cancel_left _ d0, Int.mul_fdiv_cancel_left _ d0]
  rw [Int.gcd_mul_left] at hd
  have dp := Int.natAbs_pos.mpr d0
  rw [Int.natAbs_mul] at h1 h2
  refine ⟨⟨hp, Nat.eq_of_mul_eq_mul_left dp (by rw [← hd, Nat.mul_one])⟩, ?_, Nat.lt_of_le_of_lt (Nat.le_mul_of_pos_left _ dp) h1, Nat.lt_of_le_of_lt (Nat.le_mul_of_pos_left _ dp) h2⟩
  rw [Rat.intCast_mul, Rat.intCast_mul]
  exact val_mul (cast_ne d0)
theorem ratM_ok {a b : Int} {k : Nat} (hb : b ≠ 0) (h1 : a.natAbs < 2 ^ k) (h2 : b.natAbs < 2 ^ k) : ∃ r, ratM a b = some r ∧ Nm r ∧ V r = (a : Rat) / (b : Rat) ∧ B k r := by
  have hg : (Int.gcd a b : Int) ≠ 0 := fun q => hb (Int.gcd_eq_zero_iff.mp (Int.ofNat_inj.mp q)).2
  have hgp : (0 : Int) < Int.gcd a b := Int.lt_iff_le_and_ne.mpr ⟨Int.natCast_nonneg _, hg.symm⟩
  have db := Int.gcd_dvd_right a b
  unfold ratM
  rw [if_neg hb]
  by_cases hp : 0 < b
  · rw [if_pos hp]
    refine ⟨_, rfl, rat_core (Int.natAbs_natCast _) hg ?_ h1 h2⟩
    obtain ⟨y, hy⟩ := db
    have e : b.fdiv (Int.gcd a b : Int) = y := by
      conv => lhs; arg 1; rw [hy]
      exact Int.mul_fdiv_cancel_left _ hg
    rw [e]
    rw [hy] at hp
    exact Int.pos_of_mul_pos_right hp hgp
  · rw [if_neg hp, Int.zero_sub]
    refine ⟨_, rfl, rat_core (by rw [Int.natAbs_neg]; exact Int.natAbs_natCast _) (Int.neg_ne_zero.mpr hg) ?_ h1 h2⟩
    obtain ⟨y, hy⟩ := db
    have e : b.fdiv (-(Int.gcd a b : Int)) = -y := by
      conv => lhs; arg 1; rw [hy, ← Int.neg_mul_neg]
      exact Int.mul_fdiv_cancel_left _ (Int.neg_ne_zero.mpr hg)
    rw [e]
    have hn : 0 < -b := Int.neg_pos_of_neg (Int.lt_iff_le_and_ne.mpr ⟨Int.not_lt.mp hp, hb⟩)
    rw [hy, ← Int.mul_neg] at hn
    exact Int.pos_of_mul_pos_right hn hgp
theorem Nm.ne0 {r : R} (h : Nm r) : r.2 ≠ 0 := Int.ne_of_gt h.1
theorem Nm.ne {r : R} (h : Nm r) : (r.2 : Rat) ≠ 0 := cast_ne h.ne0
theorem V_add {a b : R} (na : Nm a) (nb : Nm b) : ((a.1 * b.2 + b.1 * a.2 : Int) : Rat) / ((a.2 * b.2 : Int) : Rat) = V a + V b := by
  unfold V
  have h1 := na.ne
  have h2 := nb.ne
  rw [Rat.intCast_add, Rat.intCast_mul, Rat.intCast_mul, Rat.intCast_mul]
  generalize (a.2 : Rat) = x at *
  generalize (b.2 : Rat) = y at *
  grind
theorem raddM_ok {a b : R} {i j : Nat} (na : Nm a) (nb : Nm b) (ha : B i a) (hb : B j b) (h : i + j ≤ 67108000) : ∃ r, raddM a b = some r ∧ Nm r ∧ V r = V a + V b ∧ B (i + j + 1) r := by
  unfold raddM
  rw [if_pos ⟨mulOk_of ha.1 hb.2 h, mulOk_of hb.1 ha.2 (Nat.add_comm i j ▸ h), mulOk_of ha.2 hb.2 h⟩]
  have h0 : a.2 * b.2 ≠ 0 := Int.mul_ne_zero na.ne0 nb.ne0
  have k1 := add_lt (mul_lt ha.1 hb.2) (Nat.add_comm j i ▸ mul_lt hb.1 ha.2)
  have k2 : (a.2 * b.2).natAbs < 2 ^ (i + j + 1) := Nat.lt_of_lt_of_le (mul_lt ha.2 hb.2) (Nat.pow_le_pow_right (by decide) (Nat.le_succ _))
  obtain ⟨r, e, n, v, s⟩ := ratM_ok h0 k1 k2
  exact ⟨r, e, n, v.trans (V_add na nb), s⟩
theorem rmulM_ok {a b : R} {i j : Nat} (na : Nm a) (nb : Nm b) (ha : B i a) (hb : B j b) (h : i + j ≤ 67108000) : ∃ r, rmulM a b = some r ∧ Nm r ∧ V r = V a * V b ∧ B (i + j) r := by
  unfold rmulM
  rw [if_pos ⟨mulOk_of ha.1 hb.1 h, mulOk_of ha.2 hb.2 h⟩]
  have h0 : a.2 * b.2 ≠ 0 := Int.mul_ne_zero na.ne0 nb.ne0
  obtain ⟨r, e, n, v, s⟩ := ratM_ok h0 (mul_lt ha.1 hb.1) (mul_lt ha.2 hb.2)
  refine ⟨r, e, n, ?_, s⟩
  rw [v]
  unfold V
  have := na.ne
  have := nb.ne
  rw [Rat.intCast_mul, Rat.intCast_mul]
  grind
theorem V_ne {b : R} (nb : Nm b) (h : b.1 ≠ 0) : V b ≠ 0 := by
  unfold V
  have h1 := nb.ne
  have h2 := cast_ne h
  grind
theorem V_zero {b : R} (nb : Nm b) (h : V b = 0) : b = r0 := by
  by_cases q : b.1 = 0
  · obtain ⟨b1, b2⟩ := b
    have h1 := nb.1
    have h2 := nb.2
    simp only at q h1 h2
    subst q
    rw [Int.gcd_zero_left] at h2
    have : b2 = 1 := by omega
    subst this; rfl
  · exact absurd h (V_ne nb q)
theorem rdivM_ok {a b : R} {i j : Nat} (na : Nm a) (nb : Nm b) (ha : B i a) (hb : B j b) (h0 : V b ≠ 0) (h : i + j ≤ 67108000) : ∃ r, rdivM a b = some r ∧ Nm r ∧ V r = V a / V b ∧ B (i + j) r := by
  have hb0 : b.1 ≠ 0 := fun q => h0 (by unfold V; rw [q]; grind)
  unfold rdivM
  rw [if_pos ⟨mulOk_of ha.1 hb.2 h, mulOk_of ha.2 hb.1 h⟩]
  have h0 : a.2 * b.1 ≠ 0 := Int.mul_ne_zero na.ne0 hb0
  obtain ⟨r, e, n, v, s⟩ := ratM_ok h0 (mul_lt ha.1 hb.2) (mul_lt ha.2 hb.1)
  refine ⟨r, e, n, ?_, s⟩
  rw [v]
  unfold V
  have := na.ne
  have := nb.ne
  have := cast_ne hb0
  rw [Rat.intCast_mul, Rat.intCast_mul]
  grind
theorem rinvM_ok {b : R} {j : Nat} (nb : Nm b) (hb : B j b) (h0 : V b ≠ 0) : ∃ r, rinvM b = some r ∧ Nm r ∧ V r = 1 / V b ∧ B j r := by
  have hb0 : b.1 ≠ 0 := fun q => h0 (by unfold V; rw [q]; grind)
  unfold rinvM
  obtain ⟨r, e, n, v, s⟩ := ratM_ok hb0 hb.2 hb.1
  refine ⟨r, e, n, ?_, s⟩
  rw [v]
  unfold V
  have := nb.ne
  have := cast_ne hb0
  grind
theorem inv1 {a : Rat} (h : a ≠ 0) : a * (1 / a) = 1 := by grind
theorem inv1_ne {a b : Rat} (e : a * b = 1) : b ≠ 0 := fun q => by rw [q, Rat.mul_zero] at e; exact absurd e (by decide)
theorem inv1_mul {a b : Rat} (e : a * b = 1) (x : Rat) : x = a * (x * b) := by rw [Rat.mul_comm x, ← Rat.mul_assoc, e, Rat.one_mul]
theorem dvd_cop {k m n : Int} (h : Int.gcd k m = 1) (d : k ∣ m * n) : k ∣ n := by
  have h' : Nat.Coprime k.natAbs m.natAbs := h
  have d' : k.natAbs ∣ m.natAbs * n.natAbs := by rw [← Int.natAbs_mul]; exact Int.natAbs_dvd_natAbs.mpr d
  exact Int.natAbs_dvd_natAbs.mp (h'.dvd_of_dvd_mul_left d')
theorem V_inj {a b : R} (na : Nm a) (nb : Nm b) (h : V a = V b) : a = b := by
  have h1 := na.ne
  have h2 := nb.ne
  have e : (a.1 : Rat) * b.2 = b.1 * a.2 := by unfold V at h; grind
  have e' : a.1 * b.2 = b.1 * a.2 := by
    rw [← Rat.intCast_mul, ← Rat.intCast_mul] at e
    exact_mod_cast e
  have d1 : a.2 ∣ b.2 := by
    have : a.2 ∣ a.1 * b.2 := ⟨b.1, by rw [e', Int.mul_comm]⟩
    exact dvd_cop (by rw [Int.gcd_comm]; exact na.2) this
  have d2 : b.2 ∣ a.2 := by
    have : b.2 ∣ b.1 * a.2 := ⟨a.1, by rw [← e', Int.mul_comm]⟩
    exact dvd_cop (by rw [Int.gcd_comm]; exact nb.2) this
  have e2 : a.2 = b.2 := Int.dvd_antisymm (Int.le_of_lt na.1) (Int.le_of_lt nb.1) d1 d2
  have e1 : a.1 = b.1 := by
    rw [e2] at e'
    exact Int.eq_of_mul_eq_mul_right nb.ne0 e'
  exact Prod.ext e1 e2
theorem Nm.neg {a : R} (h : Nm a) : Nm (rneg a) := ⟨h.1, by show Int.gcd (0 - a.1) a.2 = 1; rw [Int.zero_sub, Int.neg_gcd]; exact h.2⟩
theorem V_neg (a : R) : V (rneg a) = - V a := by
  unfold V
  show ((0 - a.1 : Int) : Rat) / (a.2 : Rat) = _
  rw [Int.zero_sub, Rat.intCast_neg]
  grind
theorem B.neg {a : R} {k : Nat} (h : B k a) : B k (rneg a) := ⟨by show (0 - a.1).natAbs < _; rw [Int.zero_sub, Int.natAbs_neg]; exact h.1, h.2⟩
theorem Nm_r0 : Nm r0 := ⟨by decide, by decide⟩
theorem Nm_r1 : Nm r1 := ⟨by decide, by decide⟩
theorem V_r0 : V r0 = 0 := by decide +kernel
theorem V_r1 : V r1 = 1 := by decide +kernel
theorem B_r0 : B 1 r0 := ⟨by decide, by decide⟩
theorem B_r1 : B 1 r1 := ⟨by decide, by decide⟩
end Mine

end -- PA
section -- PB
set_option maxRecDepth 100000
set_option linter.unusedVariables false
set_option linter.unusedSectionVars false
namespace Mine

noncomputable def ev : List Rat → Rat → Rat
  | [], _ => 0
  | c :: cs, x => c + x * ev cs x
noncomputable def lst (p : List Rat) : Rat := p.getD (p.length - 1) 0
noncomputable def sdiv (a : Rat) : List Rat → List Rat
  | [] => []
  | [_] => []
  | _ :: d :: cs => ev (d :: cs) a :: sdiv a (d :: cs)
theorem ev_sdiv (a x : Rat) : ∀ p : List Rat, ev p x - ev p a = (x - a) * ev (sdiv a p) x
  | [] => by simp only [ev, sdiv]; grind
  | [c] => by simp only [ev, sdiv]; grind
  | c :: d :: cs => by
    have ih := ev_sdiv a x (d :: cs)
    rw [sdiv, show ev (c :: d :: cs) x = c + x * ev (d :: cs) x from rfl, show ev (c :: d :: cs) a = c + a * ev (d :: cs) a from rfl, show ev (ev (d :: cs) a :: sdiv a (d :: cs)) x = ev (d :: cs) a + x * ev (sdiv a (d :: cs)) x from rfl]
    generalize ev (d :: cs) x = u at *
    generalize ev (d :: cs) a = v at *
    generalize ev (sdiv a (d :: cs)) x = w at *
    grind
theorem sdiv_length (a : Rat) : ∀ p : List Rat, (sdiv a p).length = p.length - 1
  | [] => rfl
  | [_] => rfl
  | _ :: d :: cs => by rw [sdiv, List.length_cons, sdiv_length a (d :: cs)]; simp
theorem ev_zero : ∀ {p : List Rat} (x : Rat), (∀ c ∈ p, c = 0) → ev p x = 0
  | [], x, _ => rfl
  | c :: cs, x, h => by
    rw [ev, h c List.mem_cons_self, ev_zero x fun d hd => h d (List.mem_cons_of_mem _ hd)]; grind
theorem sdiv_zero (a : Rat) : ∀ p : List Rat, (∀ c ∈ sdiv a p, c = 0) → ∀ c ∈ p.tail, c = 0
  | [], _, c, h => by simp at h
  | [_], _, c, h => by simp at h
  | b :: d :: cs, hs, c, h => by
    have ih := sdiv_zero a (d :: cs) fun e he => hs e (List.mem_cons_of_mem _ he)
    have h0 := hs (ev (d :: cs) a) List.mem_cons_self
    rw [ev, ev_zero (p := cs) a ih] at h0
    rcases List.mem_cons.mp h with rfl | h
    · grind
    · exact ih c h
theorem ident : ∀ (n : Nat) (p : List Rat) (N : Nat), p.length ≤ n → (∀ m : Nat, N ≤ m → ev p (m : Rat) = 0) → ∀ c ∈ p, c = 0
  | 0, p, N, hl, _, c, hc => by have : p = [] := List.length_eq_zero_iff.mp (Nat.le_zero.mp hl); subst this; simp at hc
  | n + 1, p, N, hl, h, c, hc => by
    have hN := h N (Nat.le_refl _)
    have hq : ∀ c ∈ sdiv (N : Rat) p, c = 0 := ident n (sdiv (N : Rat) p) (N + 1) (by rw [sdiv_length]; exact Nat.sub_le_of_le_add hl) fun m hm => by
      have e := ev_sdiv (N : Rat) (m : Rat) p
      rw [h m (Nat.le_of_succ_le hm), hN] at e
      have hne : (m : Rat) - (N : Rat) ≠ 0 := by
        intro q
        have : (m : Rat) = (N : Rat) := by grind
        have : m = N := by exact_mod_cast this
        exact Nat.ne_of_gt hm this
      generalize ev (sdiv (N : Rat) p) (m : Rat) = w at *
      grind
    have ht := sdiv_zero _ p hq
    cases p with
    | nil => simp at hc
    | cons d cs =>
      rcases List.mem_cons.mp hc with rfl | hc
      · rw [ev, ev_zero (p := cs) _ ht] at hN; grind
      · exact ht c hc
theorem ev_same : ∀ {p q : List Rat}, p.length = q.length → (∀ x, ev p x = ev q x) → p = q := by
  intro p q hl h
  have sub : ∀ (p q : List Rat) (x : Rat), p.length = q.length → ev (List.zipWith (· - ·) p q) x = ev p x - ev q x := by
    intro p
    induction p with
    | nil => intro q x hl; cases q with | nil => simp only [List.zipWith_nil_left, ev]; grind | cons _ _ => simp at hl
    | cons a p ih =>
      intro q x hl
      cases q with
      | nil => simp at hl
      | cons b q =>
        rw [List.zipWith_cons_cons, ev, ih q x (by simpa using hl), ev, ev]; grind
  have z := ident _ _ 0 (Nat.le_refl _) (fun m _ => by rw [sub p q _ hl, h]; grind)
  have fin : ∀ (p q : List Rat), p.length = q.length → (∀ c ∈ List.zipWith (· - ·) p q, c = 0) → p = q := by
    intro p
    induction p with
    | nil => intro q hl _; cases q with | nil => rfl | cons _ _ => simp at hl
    | cons a p ih =>
      intro q hl h
      cases q with
      | nil => simp at hl
      | cons b q =>
        rw [List.zipWith_cons_cons] at h
        have h1 := h (a - b) List.mem_cons_self
        rw [ih q (by simpa using hl) fun c hc => h c (List.mem_cons_of_mem _ hc)]
        congr 1; grind
  exact fin p q hl z
theorem ev_append : ∀ (p q : List Rat), (∀ c ∈ q, c = 0) → ∀ x, ev (p ++ q) x = ev p x
  | [], q, h, x => by rw [List.nil_append, ev_zero x h]; rfl
  | c :: p, q, h, x => by rw [List.cons_append, ev, ev_append p q h x]; rfl

noncomputable def padd : List Rat → List Rat → List Rat
  | [], b => b
  | a :: as, [] => a :: as
  | a :: as, b :: bs => (a + b) :: padd as bs
noncomputable def pmul : List Rat → List Rat → List Rat
  | [], _ => []
  | [a], b => b.map (a * ·)
  | a :: a' :: as, b => padd (b.map (a * ·)) (0 :: pmul (a' :: as) b)
theorem ev_padd : ∀ (a b : List Rat) (x : Rat), ev (padd a b) x = ev a x + ev b x
  | [], b, x => by simp only [padd, ev]; grind
  | a :: as, [], x => by simp only [padd, ev]; grind
  | a :: as, b :: bs, x => by simp only [padd, ev, ev_padd as bs x]; grind
theorem ev_scale (a : Rat) : ∀ (b : List Rat) (x : Rat), ev (b.map (a * ·)) x = a * ev b x
  | [], x => by simp only [List.map_nil, ev]; grind
  | c :: cs, x => by simp only [List.map_cons, ev, ev_scale a cs x]; grind
theorem ev_pmul : ∀ (a b : List Rat) (x : Rat), ev (pmul a b) x = ev a x * ev b x
  | [], b, x => by simp only [pmul, ev]; grind
  | [a], b, x => by simp only [pmul, ev, ev_scale]; grind
  | a :: a' :: as, b, x => by
    have ih := ev_pmul (a' :: as) b x
    rw [pmul, ev_padd, ev_scale, show ev (0 :: pmul (a' :: as) b) x = 0 + x * ev (pmul (a' :: as) b) x from rfl, ih, show ev (a :: a' :: as) x = a + x * ev (a' :: as) x from rfl]
    generalize ev (a' :: as) x = u
    grind
theorem padd_last : ∀ (u v : List Rat), u.length < v.length → (padd u v).length = v.length ∧ lst (padd u v) = lst v
  | [], v, h => ⟨rfl, rfl⟩
  | a :: as, [], h => by simp at h
  | a :: as, b :: bs, h => by
    obtain ⟨h1, h2⟩ := padd_last as bs (by simpa using h)
    refine ⟨by rw [padd, List.length_cons, h1, List.length_cons], ?_⟩
    have hb : 0 < bs.length := by simp at h; lia
    have e : ∀ (c : Rat) (l : List Rat), 0 < l.length → lst (c :: l) = lst l := fun c l hl => by
      unfold lst
      rw [List.length_cons, Nat.add_sub_cancel]
      cases l with
      | nil => simp at hl
      | cons d l => simp
    rw [padd, e _ _ (by rw [h1]; exact hb), e _ _ hb, h2]
theorem lst_scale (a : Rat) (b : List Rat) (h : 0 < b.length) : lst (b.map (a * ·)) = a * lst b := by
  unfold lst
  rw [List.length_map, List.getD_eq_getElem?_getD, List.getD_eq_getElem?_getD, List.getElem?_map, List.getElem?_eq_getElem (by lia)]
  rfl
theorem pmul_last : ∀ (a b : List Rat), 0 < a.length → 0 < b.length → (pmul a b).length = a.length + b.length - 1 ∧ lst (pmul a b) = lst a * lst b
  | [], b, h, _ => by simp at h
  | [a], b, _, hb => ⟨by simp [pmul], by rw [pmul, lst_scale a b hb]; rfl⟩
  | a :: a' :: as, b, _, hb => by
    obtain ⟨h1, h2⟩ := pmul_last (a' :: as) b (by simp) hb
    have hl : (b.map (a * ·)).length < (0 :: pmul (a' :: as) b).length := by rw [List.length_map, List.length_cons, h1, List.length_cons]; lia
    obtain ⟨p1, p2⟩ := padd_last _ _ hl
    have e : ∀ (c : Rat) (l : List Rat), 0 < l.length → lst (c :: l) = lst l := fun c l hl => by
      unfold lst
      rw [List.length_cons, Nat.add_sub_cancel]
      cases l with
      | nil => simp at hl
      | cons d l => simp
    refine ⟨by rw [pmul, p1, List.length_cons, h1]; simp only [List.length_cons]; lia, ?_⟩
    rw [pmul, p2, e _ _ (by rw [h1, List.length_cons]; lia), h2, e a (a' :: as) (by simp)]
theorem exact0 (r g : List Rat) (hl : r.length < g.length) (hg : lst g ≠ 0) : ∀ (n : Nat) (D : List Rat), D.length ≤ n → (∀ x, ev r x = ev g x * ev D x) → ∀ x, ev r x = 0
  | 0, D, hn, h, x => by
    have : D = [] := List.length_eq_zero_iff.mp (Nat.le_zero.mp hn)
    subst this
    rw [h]; exact Rat.mul_zero _
  | n + 1, D, hn, h, x => by
    by_cases h0 : D.length = 0
    · exact exact0 r g hl hg n D (h0 ▸ Nat.zero_le n) h x
    have hp := Nat.pos_of_ne_zero h0
    have hlt := Nat.sub_lt hp Nat.one_pos
    have hd : D = D.take (D.length - 1) ++ [lst D] := by
      have : D.drop (D.length - 1) = [lst D] := by
        rw [List.drop_eq_getElem_cons hlt]
        unfold lst
        rw [List.getD_eq_getElem?_getD, List.getElem?_eq_getElem hlt, List.drop_eq_nil_of_le (Nat.le_of_eq (Nat.sub_add_cancel hp).symm)]
        rfl
      rw [← this, List.take_append_drop]
    by_cases hz : lst D = 0
    · refine exact0 r g hl hg n (D.take (D.length - 1)) (by rw [List.length_take]; exact Nat.le_trans (Nat.min_le_left _ _) (Nat.sub_le_of_le_add hn)) (fun y => ?_) x
      rw [h y]
      congr 1
      rw [hd, ev_append _ _ (by intro c hc; rw [List.mem_singleton.mp hc]; exact hz)]
      rw [← hd]
    · obtain ⟨m1, m2⟩ := pmul_last g D (Nat.lt_of_le_of_lt (Nat.zero_le _) hl) hp
      have hL : r.length < (pmul g D).length := by rw [m1]; exact Nat.lt_of_lt_of_le hl (Nat.le_sub_of_add_le (Nat.add_le_add_left hp _))
      have e : r ++ List.replicate ((pmul g D).length - r.length) 0 = pmul g D := by
        refine ev_same (by rw [List.length_append, List.length_replicate]; exact Nat.add_sub_cancel' (Nat.le_of_lt hL)) fun y => ?_
        rw [ev_append _ _ (fun c hc => List.eq_of_mem_replicate hc), ev_pmul, h y]
      have z : lst (pmul g D) = 0 := by
        unfold lst
        rw [← e, List.getD_eq_getElem?_getD, List.getElem?_append_right (by rw [e]; exact Nat.le_sub_one_of_lt hL)]
        cases q : (List.replicate ((pmul g D).length - r.length) (0 : Rat))[(r ++ List.replicate ((pmul g D).length - r.length) 0).length - 1 - r.length]? with
        | none => rfl
        | some c => exact List.eq_of_mem_replicate (List.mem_of_getElem? q)
      rw [m2] at z
      exact absurd z (by grind)
end Mine

end -- PB
section -- PC
set_option maxRecDepth 100000
set_option linter.unusedVariables false
set_option linter.unusedSectionVars false
namespace Mine

noncomputable def ew (p : P) (x : Rat) : Rat := ev (p.map V) x
noncomputable def PB (k : Nat) (p : P) : Prop := ∀ r ∈ p, Nm r ∧ B k r
noncomputable def Tr (p : P) : Prop := 0 < p.length → V (qlast p) ≠ 0
theorem PB.mono {k l : Nat} {p : P} (h : PB k p) (q : k ≤ l) : PB l p := fun r hr => ⟨(h r hr).1, (h r hr).2.mono q⟩
theorem PB.nil {k : Nat} : PB k [] := fun r hr => by simp at hr
theorem PB.cons {k : Nat} {r : R} {p : P} (h1 : Nm r) (h2 : B k r) (h : PB k p) : PB k (r :: p) := fun s hs => by
  rcases List.mem_cons.mp hs with rfl | hs
  · exact ⟨h1, h2⟩
  · exact h s hs
theorem PB.getD {k : Nat} {p : P} (h : PB k p) (hk : 1 ≤ k) (i : Nat) : Nm (p.getD i r0) ∧ B k (p.getD i r0) := by
  rw [List.getD_eq_getElem?_getD]
  cases q : p[i]? with
  | none => exact ⟨Nm_r0, B_r0.mono hk⟩
  | some r => exact h r (List.mem_of_getElem? q)
theorem PB.sub {k : Nat} {p q : P} (h : PB k p) (s : ∀ r ∈ q, r ∈ p) : PB k q := fun r hr => h r (s r hr)
theorem PB.take {k : Nat} {p : P} (h : PB k p) (n : Nat) : PB k (p.take n) := h.sub fun r hr => List.mem_of_mem_take hr
theorem ew_nil (x : Rat) : ew [] x = 0 := rfl
theorem ew_cons (r : R) (p : P) (x : Rat) : ew (r :: p) x = V r + x * ew p x := rfl
theorem ew_head (p : P) (x : Rat) : ew p x = V (p.getD 0 r0) + x * ew p.tail x := by
  cases p with
  | nil => rw [List.tail_nil, ew_nil]; show _ = V r0 + _; rw [V_r0]; grind
  | cons r p => rfl
theorem V_eq0 {r : R} (h : r.1 = 0) : V r = 0 := by unfold V; rw [h]; grind
theorem tail_getD (p : P) (i : Nat) : p.tail.getD i r0 = p.getD (i + 1) r0 := by
  cases p with
  | nil => rfl
  | cons r p => simp
theorem mapO_map {α β γ : Type} (f : β → Option γ) (g : α → β) : ∀ l : List α, mapO f (l.map g) = mapO (fun a => f (g a)) l
  | [] => rfl
  | a :: as => by
    rw [List.map_cons]
    unfold mapO
    rw [mapO_map f g as]
theorem mapO_cons_some {α β : Type} {f : α → Option β} {a : α} {as : List α} {b : β} {bs : List β} (h1 : f a = some b) (h2 : mapO f as = some bs) : mapO f (a :: as) = some (b :: bs) := by
  unfold mapO; rw [h1, h2]
theorem halfLe {K n : Nat} (h : 2 * K ≤ n) : K ≤ n := Nat.le_trans (Nat.le_mul_of_pos_left K (by decide)) h
theorem le400 {n : Nat} (h : n ≤ 20) : n ≤ 400 := Nat.le_trans h (by decide)
theorem add_core {i j : Nat} (hi : 1 ≤ i) (hj : 1 ≤ j) (hL : i + j ≤ 67108000) : ∀ (n : Nat) (a b : P), PB i a → PB j b → a.length ≤ n → b.length ≤ n →
    ∃ r, mapO (fun t => raddM (a.getD t r0) (b.getD t r0)) (List.range n) = some r ∧ r.length = n ∧ PB (i + j + 1) r ∧ ∀ x, ew r x = ew a x + ew b x
  | 0, a, b, _, _, ha, hb => by
    have h1 : a = [] := List.length_eq_zero_iff.mp (Nat.le_zero.mp ha)
    have h2 : b = [] := List.length_eq_zero_iff.mp (Nat.le_zero.mp hb)
    subst h1; subst h2
    exact ⟨[], rfl, rfl, PB.nil, fun x => by rw [ew_nil]; grind⟩
  | n + 1, a, b, pa, pb, ha, hb => by
    obtain ⟨s, e1, n1, v1, b1⟩ := raddM_ok (pa.getD hi 0).1 (pb.getD hj 0).1 (pa.getD hi 0).2 (pb.getD hj 0).2 hL
    obtain ⟨r, e2, l2, p2, w2⟩ := add_core hi hj hL n a.tail b.tail (pa.sub fun r hr => List.mem_of_mem_tail hr) (pb.sub fun r hr => List.mem_of_mem_tail hr) (by rw [List.length_tail]; exact Nat.sub_le_of_le_add ha) (by rw [List.length_tail]; exact Nat.sub_le_of_le_add hb)
    refine ⟨s :: r, ?_, by rw [List.length_cons, l2], PB.cons n1 b1 p2, fun x => ?_⟩
    · rw [List.range_succ_eq_map]
      refine mapO_cons_some e1 ?_
      rw [mapO_map]
      rw [← e2]
      congr 1
      funext t
      rw [tail_getD, tail_getD]
    · rw [ew_cons, w2, v1, ew_head a x, ew_head b x]; grind
theorem tsize_le (p : P) : ∀ n, tsize p n ≤ n
  | 0 => Nat.le_refl _
  | n + 1 => by unfold tsize; split; exact Nat.le_trans (tsize_le p n) (Nat.le_succ n); exact Nat.le_refl _
theorem tsize_zero (p : P) : ∀ n i, tsize p n ≤ i → i < n → V (p.getD i r0) = 0
  | 0, i, _, h => by lia
  | n + 1, i, h1, h2 => by
    unfold tsize at h1
    split at h1
    · rename_i q
      by_cases e : i = n
      · subst e; exact V_eq0 q
      · exact tsize_zero p n i h1 (by lia)
    · lia
theorem tsize_last (p : P) : ∀ n, 0 < tsize p n → (p.getD (tsize p n - 1) r0).1 ≠ 0
  | 0, h => by unfold tsize at h; lia
  | n + 1, h => by
    unfold tsize at h ⊢
    split
    · rename_i q
      rw [if_pos q] at h
      exact tsize_last p n h
    · rename_i q
      simpa using q
theorem Vget (p : P) (i : Nat) : (p.map V).getD i 0 = V (p.getD i r0) := by
  rw [List.getD_eq_getElem?_getD, List.getD_eq_getElem?_getD, List.getElem?_map]
  cases p[i]? with
  | none => exact V_r0.symm
  | some r => rfl
theorem lst_V (p : P) : lst (p.map V) = V (qlast p) := by unfold lst; rw [List.length_map, Vget]
theorem ew_take (p : P) (n : Nat) (h : ∀ i, n ≤ i → i < p.length → V (p.getD i r0) = 0) (x : Rat) : ew (p.take n) x = ew p x := by
  unfold ew
  have := ev_append ((p.take n).map V) ((p.drop n).map V) (fun c hc => by
    obtain ⟨r, hr, rfl⟩ := List.mem_map.mp hc
    obtain ⟨i, hi⟩ := List.mem_iff_getElem?.mp hr
    rw [List.getElem?_drop] at hi
    have hlt := (List.getElem?_eq_some_iff.mp hi).1
    have := h (n + i) (by lia) hlt
    rwa [List.getD_eq_getElem?_getD, hi] at this) x
  rw [← this, ← List.map_append, List.take_append_drop]
theorem trim_ok {p : P} {k : Nat} (h : PB k p) : PB k (qtrim p) ∧ (∀ x, ew (qtrim p) x = ew p x) ∧ Tr (qtrim p) ∧ (qtrim p).length ≤ p.length := by
  refine ⟨h.take _, ew_take p _ (fun i h1 h2 => tsize_zero p _ i h1 h2), fun hl => ?_, qtrim_le p⟩
  have ht := tsize_le p p.length
  have e : (qtrim p).length = tsize p p.length := by unfold qtrim; rw [List.length_take]; exact Nat.min_eq_left ht
  have hl' : 0 < tsize p p.length := e ▸ hl
  have hl2 := Nat.sub_lt hl' Nat.one_pos
  have q : qlast (qtrim p) = p.getD (tsize p p.length - 1) r0 := by
    show (qtrim p).getD ((qtrim p).length - 1) r0 = _
    rw [e]
    unfold qtrim
    rw [List.getD_eq_getElem?_getD, List.getD_eq_getElem?_getD, List.getElem?_take_of_lt hl2]
  rw [q]
  have m : p.getD (tsize p p.length - 1) r0 ∈ p := by
    rw [List.getD_eq_getElem?_getD, List.getElem?_eq_getElem (Nat.lt_of_lt_of_le hl2 ht)]
    exact List.getElem_mem _
  exact V_ne (h _ m).1 (tsize_last p _ hl')
theorem add_ok {a b : P} {i j : Nat} (hi : 1 ≤ i) (hj : 1 ≤ j) (pa : PB i a) (pb : PB j b) (za : a.length ≤ 20) (zb : b.length ≤ 20) (hL : i + j ≤ 67108000) :
    ∃ c, qaddM a b = some c ∧ PB (i + j + 1) c ∧ (∀ x, ew c x = ew a x + ew b x) ∧ Tr c ∧ c.length ≤ max a.length b.length := by
  obtain ⟨r, e, l, p, w⟩ := add_core hi hj hL (max a.length b.length) a b pa pb (Nat.le_max_left ..) (Nat.le_max_right ..)
  obtain ⟨t1, t2, t3, t4⟩ := trim_ok p
  unfold qaddM
  rw [if_pos ⟨le400 za, le400 zb⟩, e]
  exact ⟨_, rfl, t1, fun x => by rw [t2, w], t3, l ▸ t4⟩
theorem neg_ok {a : P} {i : Nat} (pa : PB i a) : PB i (qneg a) ∧ (∀ x, ew (qneg a) x = - ew a x) ∧ (qneg a).length = a.length := by
  refine ⟨fun r hr => ?_, fun x => ?_, by unfold qneg; rw [List.length_map]⟩
  · obtain ⟨s, hs, rfl⟩ := List.mem_map.mp hr
    exact ⟨(pa s hs).1.neg, (pa s hs).2.neg⟩
  · clear pa
    induction a with
    | nil => rw [show qneg [] = [] from rfl, ew_nil]; grind
    | cons r a ih => rw [show qneg (r :: a) = rneg r :: qneg a from rfl, ew_cons, ih, V_neg, ew_cons]; grind
theorem sub_ok {a b : P} {i j : Nat} (hi : 1 ≤ i) (hj : 1 ≤ j) (pa : PB i a) (pb : PB j b) (za : a.length ≤ 20) (zb : b.length ≤ 20) (hL : i + j ≤ 67108000) :
    ∃ c, qsubM a b = some c ∧ PB (i + j + 1) c ∧ (∀ x, ew c x = ew a x - ew b x) ∧ Tr c ∧ c.length ≤ max a.length b.length := by
  obtain ⟨n1, n2, n3⟩ := neg_ok pb
  obtain ⟨c, e, p, w, t, l⟩ := add_ok hi hj pa n1 za (by lia) hL
  exact ⟨c, e, p, fun x => by rw [w, n2]; grind, t, by lia⟩
theorem scale_core {r : R} {i j : Nat} (nr : Nm r) (br : B j r) (hL : i + j ≤ 67108000) : ∀ p : P, PB i p → ∃ c, mapO (fun x => rmulM x r) p = some c ∧ PB (i + j) c ∧ (∀ x, ew c x = ew p x * V r) ∧ c.length = p.length ∧ (0 < p.length → V (qlast c) = V (qlast p) * V r)
  | [], _ => ⟨[], rfl, PB.nil, fun x => by rw [ew_nil]; grind, rfl, fun h => by simp at h⟩
  | s :: p, ps => by
    obtain ⟨t, e1, n1, v1, b1⟩ := rmulM_ok (ps s List.mem_cons_self).1 nr (ps s List.mem_cons_self).2 br hL
    obtain ⟨c, e2, p2, w2, l2, q2⟩ := scale_core nr br hL p (ps.sub fun r hr => List.mem_cons_of_mem _ hr)
    refine ⟨t :: c, mapO_cons_some e1 e2, PB.cons n1 b1 p2, fun x => by rw [ew_cons, ew_cons, w2, v1]; grind, by rw [List.length_cons, List.length_cons, l2], fun _ => ?_⟩
    cases p with
    | nil =>
      have : c = [] := List.length_eq_zero_iff.mp (by rw [l2]; rfl)
      subst this
      exact v1
    | cons s' p =>
      have := q2 (by simp)
      cases c with
      | nil => simp at l2
      | cons t' c => simpa [qlast] using this
theorem scale_ok {p : P} {r : R} {i j : Nat} (pp : PB i p) (nr : Nm r) (br : B j r) (z : p.length ≤ 20) (hL : i + j ≤ 67108000) :
    ∃ c, qscaleM p r = some c ∧ PB (i + j) c ∧ (∀ x, ew c x = ew p x * V r) ∧ c.length ≤ p.length ∧ (V r ≠ 0 → c.length = p.length ∧ (0 < p.length → V (qlast c) = V (qlast p) * V r)) := by
  unfold qscaleM
  rw [if_pos (by show _ ≤ 400; lia)]
  by_cases h0 : r.1 ≠ 0
  · rw [if_pos h0]
    obtain ⟨c, e, p1, w, l, q⟩ := scale_core nr br hL p pp
    exact ⟨c, e, p1, w, by lia, fun _ => ⟨l, q⟩⟩
  · rw [if_neg h0]
    have : V r = 0 := V_eq0 (by simpa using h0)
    exact ⟨[], rfl, PB.nil, fun x => by rw [ew_nil, this]; grind, by simp, fun q => absurd this q⟩
noncomputable def pw (x : Rat) : Nat → Rat
  | 0 => 1
  | k + 1 => x * pw x k
theorem ew_shift (p : P) (x : Rat) : ∀ k, ew (List.replicate k r0 ++ p) x = pw x k * ew p x
  | 0 => by rw [List.replicate_zero, List.nil_append, pw]; grind
  | k + 1 => by rw [List.replicate_succ, List.cons_append, ew_cons, ew_shift p x k, V_r0, pw]; grind
theorem raise_ok {p : P} {i k : Nat} (hi : 1 ≤ i) (pp : PB i p) : PB i (qraise p k) ∧ (∀ x, ew (qraise p k) x = pw x k * ew p x) ∧ (qraise p k).length ≤ k + p.length := by
  unfold qraise
  split
  · refine ⟨fun r hr => ?_, fun x => ew_shift p x k, by rw [List.length_append, List.length_replicate]; exact Nat.le_refl _⟩
    rcases List.mem_append.mp hr with hr | hr
    · rw [List.eq_of_mem_replicate hr]; exact ⟨Nm_r0, B_r0.mono hi⟩
    · exact pp r hr
  · rename_i h
    have : p = [] := List.length_eq_zero_iff.mp (by lia)
    subst this
    exact ⟨PB.nil, fun x => by rw [ew_nil]; grind, by simp⟩
theorem ew_set : ∀ (p : P) (k : Nat) (s : R) (x : Rat), k < p.length → ew (p.set k s) x = ew p x + pw x k * (V s - V (p.getD k r0))
  | [], k, s, x, h => by simp at h
  | r :: p, 0, s, x, _ => by rw [List.set_cons_zero, ew_cons, ew_cons, pw]; show _ = _ + 1 * (V s - V r); grind
  | r :: p, k + 1, s, x, h => by
    rw [List.set_cons_succ, ew_cons, ew_cons, ew_set p k s x (by simpa using h), pw]
    show _ = _ + _ * (V s - V (p.getD k r0))
    grind
theorem PB.set {k : Nat} {p : P} {s : R} (h : PB k p) (h1 : Nm s) (h2 : B k s) (i : Nat) : PB k (p.set i s) := fun r hr => by
  rcases List.mem_or_eq_of_mem_set hr with hr | rfl
  · exact h r hr
  · exact ⟨h1, h2⟩
end Mine

end -- PC
section -- PD
set_option maxRecDepth 100000
set_option linter.unusedVariables false
set_option linter.unusedSectionVars false
namespace Mine

theorem pw_add (x : Rat) (a : Nat) : ∀ b, pw x (a + b) = pw x a * pw x b
  | 0 => by rw [Nat.add_zero, pw]; grind
  | b + 1 => by rw [← Nat.add_assoc, pw, pw_add x a b, pw]; grind
theorem getD_set_ne {p : P} {i t : Nat} {s : R} (h : i ≠ t) : (p.set i s).getD t r0 = p.getD t r0 := by
  rw [List.getD_eq_getElem?_getD, List.getD_eq_getElem?_getD, List.getElem?_set_ne h]
theorem getD_set_self {p : P} {i : Nat} {s : R} (h : i < p.length) : (p.set i s).getD i r0 = s := by
  rw [List.getD_eq_getElem?_getD, List.getElem?_set_self h]; rfl
theorem qin_ok {i k k' ix iy : Nat} {x : R} (nx : Nm x) (bx : B ix x) (hk' : k + ix + iy + 1 ≤ k') (hL : k + (ix + iy) ≤ 67108000) :
    ∀ (ys : P) (j : Nat) (f : P), PB k' f → (∀ t, i + j ≤ t → B k (f.getD t r0)) → i + j + ys.length ≤ f.length → PB iy ys →
      ∃ g, qin i x ys j f = some g ∧ PB k' g ∧ g.length = f.length ∧ ∀ z, ew g z = ew f z + pw z (i + j) * (V x * ew ys z)
  | [], j, f, pf, _, _, _ => ⟨f, rfl, pf, rfl, fun z => by rw [ew_nil]; grind⟩
  | y :: ys, j, f, pf, hb, hl, py => by
    have hlt : i + j < f.length := by rw [List.length_cons] at hl; lia
    obtain ⟨m, e1, n1, v1, b1⟩ := rmulM_ok nx (py y List.mem_cons_self).1 bx (py y List.mem_cons_self).2 (by lia)
    have nf : Nm (f.getD (i + j) r0) := by
      rw [List.getD_eq_getElem?_getD, List.getElem?_eq_getElem hlt]; exact (pf _ (List.getElem_mem _)).1
    obtain ⟨s, e2, n2, v2, b2⟩ := raddM_ok nf n1 (hb (i + j) (Nat.le_refl _)) b1 hL
    obtain ⟨g, e3, p3, l3, w3⟩ := qin_ok (i := i) nx bx hk' hL ys (j + 1) (f.set (i + j) s) (pf.set n2 (b2.mono (by lia)) _)
      (fun t ht => by rw [getD_set_ne (by lia)]; exact hb t (by lia)) (by rw [List.length_set]; rw [List.length_cons] at hl; lia) (py.sub fun r hr => List.mem_cons_of_mem _ hr)
    refine ⟨g, by unfold qin; rw [e1]; dsimp only; rw [e2]; exact e3, p3, by rw [l3, List.length_set], fun z => ?_⟩
    rw [w3, ew_set f _ s z hlt, v2, v1, ew_cons, ← Nat.add_assoc, show pw z (i + j + 1) = z * pw z (i + j) from rfl]
    grind
theorem qout_ok {ix iy : Nat} {b : P} (pb : PB iy b) (hb : 0 < b.length) :
    ∀ (xs : P) (i kf : Nat) (f : P), 1 ≤ kf → PB kf f → PB ix xs → i + xs.length + b.length ≤ f.length + 1 → kf + xs.length * (ix + iy + 1) ≤ 67108000 →
      ∃ g, qout b xs i f = some g ∧ PB (kf + xs.length * (ix + iy + 1)) g ∧ g.length = f.length ∧ ∀ z, ew g z = ew f z + pw z i * (ew xs z * ew b z)
  | [], i, kf, f, _, pf, _, _, _ => ⟨f, rfl, by simpa using pf, rfl, fun z => by rw [ew_nil]; grind⟩
  | x :: xs, i, kf, f, hk, pf, px, hl, hL => by
    rw [List.length_cons] at hl hL
    have e : (xs.length + 1) * (ix + iy + 1) = xs.length * (ix + iy + 1) + (ix + iy + 1) := by rw [Nat.succ_mul]
    obtain ⟨g, e1, p1, l1, w1⟩ := qin_ok (i := i) (k := kf) (k' := kf + (ix + iy + 1)) (px x List.mem_cons_self).1 (px x List.mem_cons_self).2 (by lia) (by lia) b 0 f (pf.mono (by lia)) (fun t _ => (pf.getD hk t).2) (by lia) pb
    obtain ⟨g2, e2, p2, l2, w2⟩ := qout_ok pb hb xs (i + 1) (kf + (ix + iy + 1)) g (by lia) p1 (px.sub fun r hr => List.mem_cons_of_mem _ hr) (by lia) (by lia)
    refine ⟨g2, by unfold qout; rw [e1]; exact e2, by rw [List.length_cons, e]; exact p2.mono (by lia), by rw [l2, l1], fun z => ?_⟩
    rw [w2, w1, Nat.add_zero, ew_cons, show pw z (i + 1) = z * pw z i from rfl]
    grind
theorem mul_ok {a b : P} {i j : Nat} (pa : PB i a) (pb : PB j b) (za : a.length ≤ 20) (zb : b.length ≤ 20) (hL : 1 + a.length * (i + j + 1) ≤ 67108000) :
    ∃ c, qmulM a b = some c ∧ PB (1 + a.length * (i + j + 1)) c ∧ (∀ z, ew c z = ew a z * ew b z) ∧ c.length = (if a.length = 0 ∨ b.length = 0 then 0 else a.length + b.length - 1) ∧ (Tr a → Tr b → Tr c ∧ (0 < a.length → 0 < b.length → V (qlast c) = V (qlast a) * V (qlast b))) := by
  unfold qmulM
  rw [if_pos ⟨by show _ ≤ 400; lia, by show _ ≤ 400; lia⟩]
  by_cases h : a.length = 0 ∨ b.length = 0
  · rw [if_pos h, if_pos h]
    refine ⟨[], rfl, PB.nil, fun z => ?_, rfl, fun _ _ => ⟨fun q => by simp at q, fun q1 q2 => by lia⟩⟩
    rw [ew_nil]
    rcases h with h | h
    · rw [List.length_eq_zero_iff.mp h, ew_nil]; grind
    · rw [List.length_eq_zero_iff.mp h, ew_nil]; grind
  · rw [if_neg h, if_neg h]
    have p0 : PB 1 (List.replicate (a.length + b.length - 1) r0) := fun r hr => by rw [List.eq_of_mem_replicate hr]; exact ⟨Nm_r0, B_r0⟩
    obtain ⟨g, e1, p1, l1, w1⟩ := qout_ok pb (by lia) a 0 1 _ (Nat.le_refl _) p0 pa (by rw [List.length_replicate]; lia) hL
    have wz : ∀ z, ew (List.replicate (a.length + b.length - 1) r0) z = 0 := fun z => by
      have := ew_shift [] z (a.length + b.length - 1)
      rw [List.append_nil, ew_nil] at this
      rw [this]; grind
    have w : ∀ z, ew g z = ew a z * ew b z := fun z => by rw [w1, wz, pw]; grind
    have l : g.length = a.length + b.length - 1 := by rw [l1, List.length_replicate]
    refine ⟨g, e1, p1, w, l, fun ta tb => ?_⟩
    obtain ⟨m1, m2⟩ := pmul_last (a.map V) (b.map V) (by rw [List.length_map]; lia) (by rw [List.length_map]; lia)
    have eq : g.map V = pmul (a.map V) (b.map V) := ev_same (by rw [m1, List.length_map, List.length_map, List.length_map, l]) fun z => by rw [ev_pmul]; exact w z
    have q : V (qlast g) = V (qlast a) * V (qlast b) := by rw [← lst_V, eq, m2, lst_V, lst_V]
    exact ⟨fun _ => by have := ta (by lia); have := tb (by lia); rw [q]; grind, fun _ _ => q⟩

theorem ew_last (p : P) (x : Rat) (h : 0 < p.length) : ew p x = ew (p.take (p.length - 1)) x + pw x (p.length - 1) * V (qlast p) := by
  have e : p = p.take (p.length - 1) ++ [qlast p] := by
    have : p.drop (p.length - 1) = [qlast p] := by
      rw [List.drop_eq_getElem_cons (by lia), List.drop_eq_nil_of_le (by lia)]
      show _ = [p.getD (p.length - 1) r0]
      rw [List.getD_eq_getElem?_getD, List.getElem?_eq_getElem (by lia)]
      rfl
    rw [← this, List.take_append_drop]
  have ap : ∀ (q : P) (s : R), ew (q ++ [s]) x = ew q x + pw x q.length * V s := by
    intro q s
    induction q with
    | nil => rw [List.nil_append, ew_cons, ew_nil]; simp only [List.length_nil, pw]; grind
    | cons r q ih => rw [List.cons_append, ew_cons, ih, ew_cons, List.length_cons, pw]; grind
  conv => lhs; rw [e]
  rw [ap, List.length_take, Nat.min_eq_left (by lia)]
noncomputable def dv : Nat → Nat → Nat → Nat
  | 0, k, _ => k
  | s + 1, k, kb => dv s (2 * k + 2 * kb + 1) kb
theorem dv_ge : ∀ s k kb, k ≤ dv s k kb
  | 0, k, kb => Nat.le_refl _
  | s + 1, k, kb => Nat.le_trans (by lia) (dv_ge s (2 * k + 2 * kb + 1) kb)
theorem dv_mono : ∀ s t k kb, s ≤ t → dv s k kb ≤ dv t k kb
  | 0, t, k, kb, _ => dv_ge t k kb
  | s + 1, 0, k, kb, h => by lia
  | s + 1, t + 1, k, kb, h => dv_mono s t _ kb (by lia)
theorem div_val {A Bv Pk Pb N l F Q R W lo S rs fs be : Rat} (h1 : lo + be * fs = be * Q + R) (hL : lo = A - Pk * S) (hS : S = Bv * N) (hf : fs = F + Pk * (N - 0)) (hr : rs = A + Pk * Pb * W) (hb : be = Bv + Pb * l) (hn : N * l = W) :
    rs + be * F = be * Q + R := by grind
theorem last_at {p : P} (h : 0 < p.length) : qlast p ∈ p := by
  show p.getD (p.length - 1) r0 ∈ p
  rw [List.getD_eq_getElem?_getD, List.getElem?_eq_getElem (Nat.sub_lt h Nat.one_pos)]; exact List.getElem_mem _
theorem div_ar {R L : Nat} (hL : 0 < L) (hRL : ¬ R < L) : ∃ s l, L = l + 1 ∧ R = s + l + 1 :=
  ⟨R - L, L - 1, (Nat.sub_add_cancel hL).symm, by rw [Nat.add_assoc, Nat.sub_add_cancel hL, Nat.sub_add_cancel (Nat.le_of_not_lt hRL)]⟩
theorem k_ar {k kb K : Nat} (h : 2 * k + 2 * kb + 1 ≤ K) (hK : K ≤ 67108000) : k + kb ≤ K ∧ k + (kb + (k + kb)) + 1 ≤ 2 * k + 2 * kb + 1 ∧ k + (kb + (k + kb)) ≤ 67108000 := by lia
theorem div_ok {b : P} {kb K : Nat} (hkb : 1 ≤ kb) (pb : PB kb b) (hb : 0 < b.length) (zb : b.length ≤ 20) (lb : V (qlast b) ≠ 0) (hK : K ≤ 67108000) :
    ∀ (n : Nat) (rest found : P) (k : Nat), rest.length < n + b.length → rest.length ≤ 20 → 1 ≤ k → PB k rest → dv (rest.length + 1 - b.length) k kb ≤ K → PB K found → (∀ t, t + b.length ≤ rest.length → V (found.getD t r0) = 0) → rest.length + 1 ≤ found.length + b.length →
      ∃ q r, qdivL b n rest found = some (q, r) ∧ PB K q ∧ PB K r ∧ r.length < b.length ∧ q.length = found.length ∧ (∀ z, ew rest z + ew b z * ew found z = ew b z * ew q z + ew r z) ∧ (Tr rest → Tr r) := by
  intro n
  induction n with
  | zero =>
    intro rest found k hn zr hk pr hd pf hz hl
    unfold qdivL
    rw [Nat.zero_add] at hn
    rw [if_pos hn]
    exact ⟨_, _, rfl, pf, pr.mono (Nat.le_trans (dv_ge _ _ _) hd), hn, rfl, fun z => Rat.add_comm _ _, id⟩
  | succ n ih =>
    intro rest found k hn zr hk pr hd pf hz hl
    unfold qdivL
    by_cases hlt : rest.length < b.length
    · rw [if_pos hlt]
      exact ⟨_, _, rfl, pf, pr.mono (Nat.le_trans (dv_ge _ _ _) hd), hlt, rfl, fun z => Rat.add_comm _ _, id⟩
    · rw [if_neg hlt]
      obtain ⟨s, l, hlb, hlr⟩ := div_ar hb hlt
      have e0 : rest.length - b.length = s := by rw [hlr, hlb, Nat.add_assoc, Nat.add_sub_cancel]
      have e1 : rest.length + 1 - b.length = s + 1 := by rw [hlr, hlb, Nat.add_right_comm s l 1]; exact Nat.add_sub_cancel (s + 1) (l + 1)
      have e2 : rest.length - 1 = s + l := by rw [hlr]; rfl
      have e3 : b.length - 1 = l := by rw [hlb]; rfl
      have hsf : s < found.length := by
        rw [hlr, hlb, Nat.add_right_comm s l 1] at hl
        exact Nat.le_of_add_le_add_right (b := l + 1) hl
      have hsn : s ≤ n := by
        rw [hlr, hlb, Nat.add_assoc] at hn
        exact Nat.le_of_lt_succ (Nat.lt_of_add_lt_add_right hn)
      have r0' : 0 < rest.length := by rw [hlr]; exact Nat.succ_pos _
      have z20 : s + l ≤ 20 := by rw [hlr] at zr; exact Nat.le_of_succ_le zr
      rw [e0, e2, e3, if_pos ⟨le400 zr, hsf⟩]
      rw [e1] at hd
      have hs : dv s (2 * k + 2 * kb + 1) kb ≤ K := hd
      obtain ⟨j1, j2, j3⟩ := k_ar (Nat.le_trans (dv_ge _ _ _) hs) hK
      have m1 := pr _ (last_at r0')
      have m2 := pb _ (last_at hb)
      obtain ⟨num, en, nn, vn, bn⟩ := rdivM_ok m1.1 m2.1 m1.2 m2.2 lb (Nat.le_trans j1 hK)
      have lt1 : (b.take l).length = l := by rw [List.length_take, Nat.min_eq_left (by rw [hlb]; exact Nat.le_succ _)]
      have lt2 : (rest.take (s + l)).length = s + l := by rw [List.length_take, Nat.min_eq_left (by rw [hlr]; exact Nat.le_succ _)]
      obtain ⟨sc, es, ps, ws, ls, _⟩ := scale_ok (pb.take l) nn bn (by rw [lt1]; exact Nat.le_trans (Nat.le_add_left _ _) z20) (Nat.le_trans (Nat.le_add_left _ _) j3)
      have q1 := Nat.le_trans hkb (Nat.le_add_right kb (k + kb))
      obtain ⟨ra1, ra2, ra3⟩ := raise_ok (k := s) q1 ps
      rw [lt1] at ls
      have ra4 := Nat.le_trans ra3 (Nat.add_le_add_left ls s)
      obtain ⟨low, el, pl, wl, tl, ll⟩ := sub_ok hk q1 (pr.take (s + l)) ra1 (by rw [lt2]; exact z20) (Nat.le_trans ra4 z20) j3
      rw [lt2, Nat.max_eq_left ra4] at ll
      obtain ⟨q, r, eq, pq, prr, lr, lq, wq, tq⟩ := ih low (found.set s num) (2 * k + 2 * kb + 1) (by rw [hlb]; exact Nat.lt_succ_of_le (Nat.le_trans ll (Nat.add_le_add_right hsn _))) (Nat.le_trans ll z20) (Nat.succ_pos _) (pl.mono j2) (Nat.le_trans (dv_mono _ _ _ _ (by rw [hlb]; exact Nat.sub_le_of_le_add (Nat.succ_le_succ ll))) hs) (pf.set nn (bn.mono j1) _)
        (fun t ht => by
          rw [hlb] at ht
          have hts : t < s := Nat.lt_of_add_lt_add_right (Nat.lt_of_succ_le (Nat.le_trans ht ll))
          rw [getD_set_ne (Nat.ne_of_gt hts)]; exact hz t (by rw [hlb, hlr]; exact Nat.succ_le_succ (Nat.add_le_add_right (Nat.le_of_lt hts) _)))
        (by rw [List.length_set, hlb]; exact Nat.succ_le_succ (Nat.le_trans ll (Nat.add_le_add_right (Nat.le_of_lt hsf) _)))
      refine ⟨q, r, ?_, pq, prr, lr, by rw [lq, List.length_set], fun z => ?_, fun _ => tq tl⟩
      · rw [en]; dsimp only; rw [es]; dsimp only; rw [el]; exact eq
      · have h2 := ew_last rest z r0'
        have h3 := ew_last b z hb
        rw [e2, pw_add] at h2
        rw [e3] at h3
        have h6 := ew_set found s num z hsf
        rw [hz s (by rw [hlb, hlr]; exact Nat.le_refl _)] at h6
        exact div_val (wq z) (by rw [wl, ra2]) (ws z) h6 h2 h3 (by rw [vn, Rat.div_mul_cancel lb])
end Mine

end -- PD
section -- PE
set_option maxRecDepth 100000
set_option linter.unusedVariables false
set_option linter.unusedSectionVars false
namespace Mine

theorem last_mem {p : P} (h : 0 < p.length) : qlast p ∈ p := by
  show p.getD (p.length - 1) r0 ∈ p
  rw [List.getD_eq_getElem?_getD, List.getElem?_eq_getElem (by lia)]; exact List.getElem_mem _
theorem divmod_ok {a b : P} {k kb K : Nat} (hk : 1 ≤ k) (hkb : 1 ≤ kb) (pa : PB k a) (pb : PB kb b) (hb : 0 < b.length) (za : a.length ≤ 20) (zb : b.length ≤ 20) (tb : Tr b) (hd : dv (a.length + 1 - b.length) k kb ≤ K) (hK : K ≤ 67108000) :
    ∃ q r, qdivmodM a b = some (q, r) ∧ PB K q ∧ PB K r ∧ r.length < b.length ∧ q.length ≤ a.length + 1 - b.length ∧ (∀ z, ew a z = ew b z * ew q z + ew r z) ∧ (Tr a → Tr r) ∧ Tr q := by
  have hK1 : 1 ≤ K := Nat.le_trans hk (Nat.le_trans (dv_ge _ _ _) hd)
  have p0 : PB K (List.replicate (a.length + 1 - b.length) r0) := fun r hr => by rw [List.eq_of_mem_replicate hr]; exact ⟨Nm_r0, B_r0.mono hK1⟩
  have wz : ∀ z, ew (List.replicate (a.length + 1 - b.length) r0) z = 0 := fun z => by
    have := ew_shift [] z (a.length + 1 - b.length)
    rw [List.append_nil, ew_nil] at this
    rw [this, Rat.mul_zero]
  have gz : ∀ t, V ((List.replicate (a.length + 1 - b.length) r0).getD t r0) = 0 := fun t => by
    rw [List.getD_eq_getElem?_getD]
    cases q : (List.replicate (a.length + 1 - b.length) r0)[t]? with
    | none => exact V_r0
    | some c => rw [List.eq_of_mem_replicate (List.mem_of_getElem? q)]; exact V_r0
  obtain ⟨q, r, e, pq, pr, lr, lq, w, t⟩ := div_ok hkb pb hb zb (tb hb) hK (a.length + 1) a _ k (Nat.lt_of_lt_of_le (Nat.lt_succ_self _) (Nat.le_add_right _ _)) za hk pa hd p0 (fun t _ => gz t) (by rw [List.length_replicate]; exact Nat.le_add_of_sub_le (Nat.le_refl _))
  obtain ⟨t1, t2, t3, t4⟩ := trim_ok pq
  unfold qdivmodM
  rw [if_pos ⟨le400 za, le400 zb, Nat.ne_of_gt hb⟩, e]
  dsimp only
  rw [if_pos (le400 (Nat.le_trans (Nat.le_of_lt lr) zb))]
  refine ⟨_, _, rfl, t1, pr, lr, by rw [lq, List.length_replicate] at t4; exact t4, fun z => ?_, t, t3⟩
  have := w z
  rw [wz, Rat.mul_zero, Rat.add_zero] at this
  rw [t2]; exact this
theorem monic_ok {p : P} {k : Nat} (pp : PB k p) (tp : Tr p) (z : p.length ≤ 20) (hL : 2 * k ≤ 67108000) :
    ∃ m, qmonicM p = some m ∧ PB (2 * k) m ∧ m.length = p.length ∧ Tr m ∧ (0 < p.length → V (qlast m) = 1) ∧ ∃ c : Rat, c ≠ 0 ∧ ∀ x, ew p x = c * ew m x := by
  unfold qmonicM
  rw [if_pos (le400 z)]
  by_cases h : 0 < p.length
  · rw [if_pos h]
    have m := pp _ (last_mem h)
    obtain ⟨i, e, ni, vi, bi⟩ := rinvM_ok m.1 m.2 (tp h)
    obtain ⟨c, ec, pc, wc, _, q⟩ := scale_ok pp ni bi z (Nat.two_mul k ▸ hL)
    have e1 : V (qlast p) * V i = 1 := by rw [vi]; exact inv1 (tp h)
    obtain ⟨q1, q2⟩ := q (inv1_ne e1)
    rw [e]
    have hl : V (qlast c) = 1 := (q2 h).trans e1
    refine ⟨c, ec, by rw [Nat.two_mul]; exact pc, q1, fun _ => by rw [hl]; decide, fun _ => hl, V (qlast p), tp h, fun x => ?_⟩
    rw [wc]; exact inv1_mul e1 _
  · rw [if_neg h]
    have : p = [] := List.length_eq_zero_iff.mp (Nat.eq_zero_of_not_pos h)
    subst this
    exact ⟨[], rfl, PB.nil, rfl, fun q => absurd q h, fun q => absurd q h, 1, by decide, fun x => (Rat.one_mul _).symm⟩

noncomputable def gok : Nat → Nat → Nat → Nat → Nat → Bool
  | 0, _, lb, k, _ => decide (lb = 0) && decide (2 * k ≤ 67108000)
  | n + 1, la, lb, k, kb => if lb = 0 then decide (2 * k ≤ 67108000) else decide (2 * dv (la + 1 - lb) k kb ≤ 67108000) && (List.range lb).all fun lr => gok n lb lr kb (2 * dv (la + 1 - lb) k kb)
noncomputable def gb : Nat → Nat → Nat → Nat → Nat → Nat → Nat
  | 0, la, _, k, _, L => if la = L then k else 0
  | n + 1, la, lb, k, kb, L => if lb = 0 then (if la = L then k else 0) else (List.range lb).foldr (fun lr m => max (gb n lb lr kb (2 * dv (la + 1 - lb) k kb) L) m) 0
theorem fold_max {f : Nat → Nat} : ∀ {l : List Nat} {t : Nat}, t ∈ l → f t ≤ l.foldr (fun a m => max (f a) m) 0
  | a :: l, t, h => by
    rw [List.foldr_cons]
    rcases List.mem_cons.mp h with rfl | h
    · exact Nat.le_max_left ..
    · exact Nat.le_trans (fold_max h) (Nat.le_max_right ..)
theorem gok_zero {n la k kb : Nat} (h : gok n la 0 k kb = true) : 2 * k ≤ 67108000 := by
  cases n with
  | zero => unfold gok at h; simpa using h
  | succ n => unfold gok at h; simpa using h
theorem gb_zero (n la k kb : Nat) : gb n la 0 k kb la = k := by
  cases n with
  | zero => unfold gb; rw [if_pos rfl]
  | succ n => unfold gb; rw [if_pos rfl, if_pos rfl]
theorem fold_le {f : Nat → Nat} {m : Nat} : ∀ {l : List Nat}, (∀ t ∈ l, f t ≤ m) → l.foldr (fun a b => max (f a) b) 0 ≤ m
  | [], _ => Nat.zero_le _
  | a :: l, h => Nat.max_le.mpr ⟨h a List.mem_cons_self, fold_le fun t ht => h t (List.mem_cons_of_mem _ ht)⟩
theorem gb_le : ∀ (n la lb k kb L : Nat), gok n la lb k kb = true → gb n la lb k kb L ≤ 33554000
  | 0, la, lb, k, kb, L, h => by
    unfold gok at h
    simp only [Bool.and_eq_true, decide_eq_true_eq] at h
    unfold gb
    split <;> lia
  | n + 1, la, lb, k, kb, L, h => by
    unfold gok at h
    unfold gb
    split
    · rename_i h0
      rw [if_pos h0] at h
      simp only [decide_eq_true_eq] at h
      split <;> lia
    · rename_i h0
      rw [if_neg h0] at h
      simp only [Bool.and_eq_true, decide_eq_true_eq, List.all_eq_true] at h
      exact fold_le fun t ht => gb_le n lb t kb _ L (h.2 t ht)
theorem gcd_ok : ∀ (n : Nat) (a b : P) (k kb : Nat), b.length ≤ n → 1 ≤ k → 1 ≤ kb → PB k a → PB kb b → Tr a → Tr b → (0 < a.length ∨ 0 < b.length) → a.length ≤ 20 → b.length ≤ 20 → gok n a.length b.length k kb = true →
    ∃ g, qgcdL n a b = some g ∧ PB (gb n a.length b.length k kb g.length) g ∧ Tr g ∧ 0 < g.length ∧ g.length ≤ max a.length b.length ∧ (0 < b.length → g.length ≤ b.length) ∧ ∃ U W : List Rat, ∀ x, ew a x = ew g x * ev U x ∧ ew b x = ew g x * ev W x := by
  intro n
  induction n using Nat.strongRecOn with
  | _ n ih =>
    intro a  b  k  kb  hn  hk  hkb  pa  pb  ta  tb  hab  za  zb  hg
    by_cases hb : b.length = 0
    · have hbe : b = [] := List.length_eq_zero_iff.mp hb
      have nb : ¬ 0 < b.length := by rw [hb]; exact Nat.lt_irrefl 0
      have e : qgcdL n a b = some a := by cases n <;> (unfold qgcdL; rw [if_pos hb])
      have e2 : gb n a.length b.length k kb a.length = k := by rw [hb]; exact gb_zero ..
      refine ⟨a, e, by rw [e2]; exact pa, ta, hab.resolve_right nb, Nat.le_max_left .., fun q => absurd q nb, [1], [], fun x => ⟨?_, ?_⟩⟩
      · simp only [ev]; grind
      · rw [hbe, ew_nil]; simp only [ev]; grind
    · cases n with
      | zero => exact absurd (Nat.le_zero.mp hn) hb
      | succ n =>
        have hg2 := hg
        unfold gok at hg2
        rw [if_neg hb] at hg2
        simp only [Bool.and_eq_true, decide_eq_true_eq, List.all_eq_true, List.mem_range] at hg2
        obtain ⟨g1, g2⟩ := hg2
        have hbp := Nat.pos_of_ne_zero hb
        obtain ⟨q, r, eq, pq, pr, lr, lq, w, tr, tq⟩ := divmod_ok (K := dv (a.length + 1 - b.length) k kb) hk hkb pa pb hbp za zb tb (Nat.le_refl _) (halfLe g1)
        have lr' := Nat.le_of_lt lr
        have zr := Nat.le_trans lr' zb
        obtain ⟨m, em, pm, lm, tm, vm, c, hc, wm⟩ := monic_ok pr (tr ta) zr g1
        have h1 : 1 ≤ 2 * dv (a.length + 1 - b.length) k kb := Nat.le_trans hk (Nat.le_trans (dv_ge _ _ _) (Nat.le_mul_of_pos_left _ (by decide)))
        obtain ⟨g, eg, pg, tg, hg0, hmx, hgb, U, W, hUW⟩ := ih n (Nat.lt_succ_self n) b m kb (2 * dv (a.length + 1 - b.length) k kb) (by rw [lm]; exact Nat.le_of_lt_succ (Nat.lt_of_lt_of_le lr hn)) hkb h1 pb pm tb tm (.inl hbp) zb (by rw [lm]; exact zr) (by rw [lm]; exact g2 r.length lr)
        have hgl : g.length ≤ b.length := Nat.le_trans hmx (Nat.max_le.mpr ⟨Nat.le_refl _, by rw [lm]; exact lr'⟩)
        have hle : gb n b.length m.length kb (2 * dv (a.length + 1 - b.length) k kb) g.length ≤ gb (n + 1) a.length b.length k kb g.length := by
          conv => rhs; unfold gb
          rw [if_neg hb, lm]
          exact fold_max (f := fun lr => gb n b.length lr kb (2 * dv (a.length + 1 - b.length) k kb) g.length) (List.mem_range.mpr lr)
        refine ⟨g, ?_, pg.mono hle, tg, hg0, Nat.le_trans hgl (Nat.le_max_right ..), fun _ => hgl, padd (pmul U (q.map V)) (W.map (c * ·)), U, fun x => ⟨?_, (hUW x).1⟩⟩
        · unfold qgcdL
          rw [if_neg hb, if_pos (le400 zb), eq]
          dsimp only
          rw [em]
          exact eg
        · rw [ev_padd, ev_pmul, ev_scale, w, (hUW x).1, wm, (hUW x).2]
          show _ = ew g x * (ev U x * ew q x + _)
          grind
end Mine

end -- PE
section -- PF
set_option maxRecDepth 100000
set_option linter.unusedVariables false
set_option linter.unusedSectionVars false
namespace Mine

theorem gcdM_ok {a b : P} {k kb : Nat} (hk : 1 ≤ k) (hkb : 1 ≤ kb) (pa : PB k a) (pb : PB kb b) (ta : Tr a) (tb : Tr b) (hb : 0 < b.length) (za : a.length ≤ 20) (zb : b.length ≤ 20) (hg : gok (b.length + 1) a.length b.length k kb = true) :
    ∃ c, qgcdM a b = some c ∧ PB (2 * gb (b.length + 1) a.length b.length k kb c.length) c ∧ V (qlast c) = 1 ∧ Tr c ∧ 0 < c.length ∧ c.length ≤ b.length ∧ ∃ U W : List Rat, ∀ x, ew a x = ew c x * ev U x ∧ ew b x = ew c x * ev W x := by
  obtain ⟨g, e, pg, tg, g0, _, gl, U, W, h⟩ := gcd_ok (b.length + 1) a b k kb (by lia) hk hkb pa pb ta tb (.inr hb) za zb hg
  have hle := gb_le _ _ _ _ _ g.length hg
  obtain ⟨c, ec, pc, lc, tc, vc, d, hd, wd⟩ := monic_ok pg tg (by have := gl hb; lia) (by lia)
  unfold qgcdM
  rw [e]
  refine ⟨c, ec, by rw [lc]; exact pc, vc (by lia), tc, by lia, by have := gl hb; lia, U.map (d * ·), W.map (d * ·), fun x => ⟨?_, ?_⟩⟩
  · rw [(h x).1, wd, ev_scale]; grind
  · rw [(h x).2, wd, ev_scale]; grind
theorem tr_nil {p : P} (t : Tr p) (h : ∀ x, ew p x = 0) : p = [] := by
  by_cases q : 0 < p.length
  · have z := ident _ (p.map V) 0 (Nat.le_refl _) fun m _ => h _
    exact absurd (z _ (List.mem_map_of_mem (last_mem q))) (t q)
  · exact List.length_eq_zero_iff.mp (by lia)
theorem exact_ok {a c : P} {k kc K : Nat} (hk : 1 ≤ k) (hkc : 1 ≤ kc) (pa : PB k a) (pc : PB kc c) (ta : Tr a) (tc : Tr c) (hc : 0 < c.length) (za : a.length ≤ 20) (zc : c.length ≤ 20) (hd : dv (a.length + 1 - c.length) k kc ≤ K) (hK : K ≤ 67108000)
    {U : List Rat} (hU : ∀ x, ew a x = ew c x * ev U x) : ∃ q, qdivmodM a c = some (q, []) ∧ PB K q ∧ q.length ≤ a.length + 1 - c.length ∧ (∀ x, ew a x = ew c x * ew q x) ∧ Tr q := by
  obtain ⟨q, r, e, pq, pr, lr, lq, w, tr, tq⟩ := divmod_ok hk hkc pa pc hc za zc tc hd hK
  have hz : ∀ x, ew r x = 0 := by
    refine exact0 (r.map V) (c.map V) (by rw [List.length_map, List.length_map]; exact lr) (by rw [lst_V]; exact tc hc) _ (padd U ((q.map V).map ((-1) * ·))) (Nat.le_refl _) fun x => ?_
    have h1 := w x
    have h2 := hU x
    rw [ev_padd, ev_scale]
    show ew r x = ew c x * (ev U x + -1 * ew q x)
    grind
  have hr := tr_nil (tr ta) hz
  subst hr
  exact ⟨q, e, pq, lq, fun x => by have := w x; rw [ew_nil] at this; grind, tq⟩
theorem one_ok {p : P} {k : Nat} (pp : PB k p) {s : R} {j : Nat} (ns : Nm s) (bs : B j s) (hs : V s ≠ 0) (z : p.length ≤ 20) (tp : Tr p) (hL : k + j ≤ 67108000) :
    ∃ c, qscaleM p s = some c ∧ PB (k + j) c ∧ (∀ x, ew c x = ew p x * V s) ∧ c.length = p.length ∧ Tr c ∧ (0 < p.length → V (qlast c) = V (qlast p) * V s) := by
  obtain ⟨c, e, pc, w, _, q⟩ := scale_ok pp ns bs z hL
  obtain ⟨q1, q2⟩ := q hs
  exact ⟨c, e, pc, w, q1, fun h => by rw [q2 (by lia)]; have := tp (by lia); grind, q2⟩
theorem norm_ok {t b : P} {K : Nat} (qt : PB K t) (qb : PB K b) (tt : Tr t) (tb : Tr b) (hb : 0 < b.length) (zt : t.length ≤ 20) (zb : b.length ≤ 20) (hK : 2 * K ≤ 67108000) :
    ∃ s x y, rinvM (qlast b) = some s ∧ qscaleM t s = some x ∧ qscaleM b s = some y ∧ PB (2 * K) x ∧ PB (2 * K) y ∧ Tr x ∧ V (qlast y) = 1 ∧ x.length = t.length ∧ y.length = b.length ∧ ∀ z, ew t z = V (qlast b) * ew x z ∧ ew b z = V (qlast b) * ew y z := by
  have m := qb _ (last_mem hb)
  obtain ⟨s, es, ns, vs, bs⟩ := rinvM_ok m.1 m.2 (tb hb)
  have e1 : V (qlast b) * V s = 1 := by rw [vs]; exact inv1 (tb hb)
  rw [Nat.two_mul] at hK ⊢
  obtain ⟨x, ex, px, wx, lx, tx, _⟩ := one_ok qt ns bs (inv1_ne e1) zt tt hK
  obtain ⟨y, ey, py, wy, ly, ty, vy⟩ := one_ok qb ns bs (inv1_ne e1) zb tb hK
  exact ⟨s, x, y, es, ex, ey, px, py, tx, (vy hb).trans e1, lx, ly, fun z => ⟨by rw [wx]; exact inv1_mul e1 _, by rw [wy]; exact inv1_mul e1 _⟩⟩
theorem fmake_ok {top bottom : P} {k kb K : Nat} {kc : Nat → Nat} (hk : 1 ≤ k) (hkb : 1 ≤ kb) (pt : PB k top) (pb : PB kb bottom) (tt : Tr top) (tb : Tr bottom) (hb : 0 < bottom.length) (zt : top.length ≤ 20) (zb : bottom.length ≤ 20)
    (hg : gok (bottom.length + 1) top.length bottom.length k kb = true)
    (hkc : ∀ c : P, V (qlast c) = 1 → 1 < c.length → c.length ≤ bottom.length → PB (2 * gb (bottom.length + 1) top.length bottom.length k kb c.length) c → (∃ W : List Rat, ∀ x, ew bottom x = ew c x * ev W x) → PB (kc c.length) c)
    (h1 : ∀ L, 2 ≤ L → L ≤ bottom.length → dv (top.length + 1 - L) k (kc L) ≤ K ∧ dv (bottom.length + 1 - L) kb (kc L) ≤ K ∧ 1 ≤ kc L) (h3 : k ≤ K) (h4 : kb ≤ K) (hK : 2 * K ≤ 67108000) :
    ∃ (f : F) (h : Rat → Rat), fmakeM top bottom = some f ∧ PB (2 * K) f.1 ∧ PB (2 * K) f.2 ∧ Tr f.1 ∧ V (qlast f.2) = 1 ∧ 0 < f.2.length ∧ f.1.length ≤ top.length ∧ f.2.length ≤ bottom.length ∧ ∀ x, ew top x = h x * ew f.1 x ∧ ew bottom x = h x * ew f.2 x := by
  have k2 := Nat.le_trans h3 (Nat.le_mul_of_pos_left K (by decide : 0 < 2))
  unfold fmakeM
  rw [if_pos ⟨le400 zt, le400 zb, Nat.ne_of_gt hb⟩]
  by_cases h0 : top.length = 0
  · rw [if_pos h0]
    refine ⟨_, fun x => ew bottom x, rfl, PB.nil, PB.cons Nm_r1 (B_r1.mono (Nat.le_trans hk k2)) PB.nil, fun q => absurd q (Nat.lt_irrefl _), V_r1, Nat.one_pos, Nat.zero_le _, hb, fun x => ⟨?_, ?_⟩⟩
    · rw [List.length_eq_zero_iff.mp h0, ew_nil, Rat.mul_zero]
    · show _ = _ * ew [r1] x
      rw [ew_cons, ew_nil, V_r1, Rat.mul_zero, Rat.add_zero, Rat.mul_one]
  · rw [if_neg h0]
    obtain ⟨c, ec, pc, vc, tc, c0, cl, U, W, hUW⟩ := gcdM_ok hk hkb pt pb tt tb hb zt zb hg
    rw [ec]
    dsimp only
    have zc := Nat.le_trans cl zb
    rw [if_pos (le400 zc)]
    by_cases hc : 1 < c.length
    · rw [if_pos hc]
      have pc' := hkc c vc hc cl pc ⟨W, fun x => (hUW x).2⟩
      obtain ⟨d1, d2, hkc1⟩ := h1 c.length hc cl
      obtain ⟨t, et, qt, lt, wt, trt⟩ := exact_ok (K := K) hk hkc1 pt pc' tt tc c0 zt zc d1 (halfLe hK) (fun x => (hUW x).1)
      obtain ⟨b, eb, qb, lb, wb, trb⟩ := exact_ok (K := K) hkb hkc1 pb pc' tb tc c0 zb zc d2 (halfLe hK) (fun x => (hUW x).2)
      have hb0 : 0 < b.length := by
        rcases Nat.eq_zero_or_pos b.length with q | q
        · have hbe := List.length_eq_zero_iff.mp q
          have : bottom = [] := tr_nil tb fun x => by rw [wb, hbe, ew_nil, Rat.mul_zero]
          rw [this] at hb; exact absurd hb (Nat.lt_irrefl _)
        · exact q
      have sb : ∀ {n m l : Nat}, m ≤ n + 1 - l → 0 < l → m ≤ n := fun h hl => Nat.le_trans h (Nat.le_trans (Nat.sub_le_sub_left hl _) (Nat.le_refl _))
      rw [et, eb]
      dsimp only
      have zt' := Nat.le_trans (sb lt c0) zt
      have zb' := Nat.le_trans (sb lb c0) zb
      rw [if_pos ⟨le400 zt', le400 zb'⟩]
      obtain ⟨s, x, y, es, ex, ey, px, py, tx, vy, lx, ly, w⟩ := norm_ok qt qb trt trb hb0 zt' zb' hK
      rw [es]; dsimp only; rw [ex]; dsimp only; rw [ey]; dsimp only
      exact ⟨_, fun z => ew c z * V (qlast b), rfl, px, py, tx, vy, by rw [ly]; exact hb0, by rw [lx]; exact sb lt c0, by rw [ly]; exact sb lb c0, fun z => ⟨by rw [wt, (w z).1, Rat.mul_assoc], by rw [wb, (w z).2, Rat.mul_assoc]⟩⟩
    · rw [if_neg hc]
      obtain ⟨s, x, y, es, ex, ey, px, py, tx, vy, lx, ly, w⟩ := norm_ok (pt.mono h3) (pb.mono h4) tt tb hb zt zb hK
      rw [es]; dsimp only; rw [ex]; dsimp only; rw [ey]; dsimp only
      exact ⟨_, fun z => V (qlast bottom), rfl, px, py, tx, vy, by rw [ly]; exact hb, Nat.le_of_eq lx, Nat.le_of_eq ly, w⟩

noncomputable def hor (x : Rat) : Rat → List R → Rat
  | acc, [] => acc
  | acc, c :: cs => hor x (acc * x + V c) cs
theorem hor_snoc (x : Rat) (c : R) : ∀ (l : List R) (acc : Rat), hor x acc (l ++ [c]) = hor x acc l * x + V c
  | [], acc => rfl
  | d :: l, acc => by rw [List.cons_append, hor, hor_snoc x c l, hor]
theorem hor_rev (x : Rat) : ∀ p : P, hor x 0 p.reverse = ew p x
  | [] => rfl
  | c :: p => by rw [List.reverse_cons, hor_snoc, hor_rev x p, ew_cons]; grind
theorem qatL_ok {r : R} {kr k : Nat} (nr : Nm r) (br : B kr r) : ∀ (l : List R) (f : R) (kf : Nat), PB k l → Nm f → B kf f → kf + l.length * (kr + k + 1) ≤ 67108000 →
    ∃ v, qatL r l f = some v ∧ Nm v ∧ B (kf + l.length * (kr + k + 1)) v ∧ V v = hor (V r) (V f) l
  | [], f, kf, _, nf, bf, _ => ⟨f, rfl, nf, by simpa using bf, rfl⟩
  | c :: l, f, kf, pl, nf, bf, hL => by
    have e : (l.length + 1) * (kr + k + 1) = l.length * (kr + k + 1) + (kr + k + 1) := Nat.succ_mul ..
    rw [List.length_cons, e] at hL
    obtain ⟨m, e1, n1, v1, b1⟩ := rmulM_ok nf nr bf br (by lia)
    obtain ⟨s, e2, n2, v2, b2⟩ := raddM_ok n1 (pl c List.mem_cons_self).1 b1 (pl c List.mem_cons_self).2 (by lia)
    obtain ⟨v, e3, n3, b3, v3⟩ := qatL_ok nr br l s (kf + kr + k + 1) (pl.sub fun r hr => List.mem_cons_of_mem _ hr) n2 b2 (by lia)
    refine ⟨v, by unfold qatL; rw [e1]; dsimp only; rw [e2]; exact e3, n3, b3.mono (by rw [List.length_cons, e]; lia), ?_⟩
    rw [v3, hor, v2, v1]
theorem qat_ok {p : P} {r : R} {kr k : Nat} (nr : Nm r) (br : B kr r) (pp : PB k p) (hL : 1 + p.length * (kr + k + 1) ≤ 67108000) :
    ∃ v, qatM p r = some v ∧ Nm v ∧ B (1 + p.length * (kr + k + 1)) v ∧ V v = ew p (V r) := by
  obtain ⟨v, e, n, b, h⟩ := qatL_ok nr br p.reverse r0 1 (pp.sub fun r hr => List.mem_reverse.mp hr) Nm_r0 B_r0 (by rw [List.length_reverse]; exact hL)
  rw [List.length_reverse] at b
  exact ⟨v, e, n, b, by rw [h, V_r0, hor_rev]⟩
theorem fat_ok {f : F} {r : R} {kr k k2 : Nat} (nr : Nm r) (br : B kr r) (p1 : PB k f.1) (p2 : PB k2 f.2) (z1 : f.1.length ≤ 20) (z2 : f.2.length ≤ 20) (hL : (1 + f.1.length * (kr + k + 1)) + (1 + f.2.length * (kr + k2 + 1)) ≤ 67108000) :
    (ew f.2 (V r) = 0 → fatM f r = some none) ∧ (ew f.2 (V r) ≠ 0 → ∃ v, fatM f r = some (some v) ∧ Nm v ∧ V v = ew f.1 (V r) / ew f.2 (V r) ∧ B ((1 + f.1.length * (kr + k + 1)) + (1 + f.2.length * (kr + k2 + 1))) v) := by
  obtain ⟨b, eb, nb, bb, vb⟩ := qat_ok nr br p2 (by lia)
  obtain ⟨a, ea, na, ba, va⟩ := qat_ok nr br p1 (by lia)
  unfold fatM
  rw [if_pos ⟨by show _ ≤ 400; lia, by show _ ≤ 400; lia⟩, eb]
  dsimp only
  refine ⟨fun h => ?_, fun h => ?_⟩
  · rw [if_pos (V_zero nb (by rw [vb]; exact h))]
  · have hb : b ≠ r0 := fun q => h (by rw [← vb, q]; exact V_r0)
    rw [if_neg hb, ea]
    obtain ⟨v, ev, nv, vv, bv⟩ := rdivM_ok na nb ba bb (by rw [vb]; exact h) hL
    dsimp only
    rw [ev]
    exact ⟨v, rfl, nv, by rw [vv, va, vb], bv⟩
end Mine

end -- PF
section -- PG
set_option maxRecDepth 100000
set_option linter.unusedVariables false
set_option linter.unusedSectionVars false
namespace Mine

noncomputable def chk (LT LB k kb K : Nat) (kc : Nat → Nat) (nv : Nat → Bool) : Bool :=
  decide (1 ≤ k) && decide (1 ≤ kb) && decide (k ≤ K) && decide (kb ≤ K) && decide (2 * K ≤ 67108000) && decide (LT ≤ 20) && decide (LB ≤ 20) &&
  (List.range (LT + 1)).all fun lt => (List.range LB).all fun lb => gok (lb + 1 + 1) lt (lb + 1) k kb && (List.range (lb + 2)).all fun L => decide (L < 2) || (decide (dv (lt + 1 - L) k (kc L) ≤ K) && decide (dv (lb + 1 + 1 - L) kb (kc L) ≤ K) && decide (1 ≤ kc L) && (!nv L || decide (2 * gb (lb + 1 + 1) lt (lb + 1) k kb L ≤ kc L)))
structure Fr (k l1 l2 : Nat) (f : F) : Prop where
  p1 : PB k f.1
  p2 : PB k f.2
  t1 : Tr f.1
  m : V (qlast f.2) = 1
  n : 0 < f.2.length
  z1 : f.1.length ≤ l1
  z2 : f.2.length ≤ l2
theorem Fr.t2 {k l1 l2 : Nat} {f : F} (h : Fr k l1 l2 f) : Tr f.2 := fun _ => by rw [h.m]; decide
theorem Fr.mono {k k' l1 l2 m1 m2 : Nat} {f : F} (h : Fr k l1 l2 f) (a : k ≤ k') (b : l1 ≤ m1) (c : l2 ≤ m2) : Fr k' m1 m2 f :=
  ⟨h.p1.mono a, h.p2.mono a, h.t1, h.m, h.n, Nat.le_trans h.z1 b, Nat.le_trans h.z2 c⟩
noncomputable def FV (x : Rat) (f : F) (v : Rat) : Prop := ew f.2 x ≠ 0 ∧ ew f.1 x = v * ew f.2 x
theorem fmk {top bottom : P} {LT LB k kb K : Nat} {kc : Nat → Nat} {nv : Nat → Bool} (hc : chk LT LB k kb K kc nv = true) (pt : PB k top) (pb : PB kb bottom) (tt : Tr top) (tb : Tr bottom) (hb : 0 < bottom.length) (zt : top.length ≤ LT) (zb : bottom.length ≤ LB)
    (hr : ∀ c : P, V (qlast c) = 1 → 1 < c.length → nv c.length = false → (∀ r ∈ c, Nm r) → (∃ W : List Rat, ∀ x, ew bottom x = ew c x * ev W x) → PB (kc c.length) c) :
    ∃ (f : F) (h : Rat → Rat), fmakeM top bottom = some f ∧ Fr (2 * K) top.length bottom.length f ∧ ∀ x, ew top x = h x * ew f.1 x ∧ ew bottom x = h x * ew f.2 x := by
  unfold chk at hc
  simp only [Bool.and_eq_true, decide_eq_true_eq, List.all_eq_true, List.mem_range, Bool.or_eq_true, Bool.not_eq_true'] at hc
  obtain ⟨⟨⟨⟨⟨⟨⟨c1, c2⟩, c3⟩, c4⟩, c5⟩, c6⟩, c7⟩, c8⟩ := hc
  obtain ⟨lb, hlb⟩ := Nat.exists_eq_add_one_of_ne_zero (Nat.ne_of_gt hb)
  obtain ⟨g1, g2⟩ := c8 top.length (Nat.lt_succ_of_le zt) lb (by rw [hlb] at zb; exact zb)
  rw [← hlb] at g1 g2
  have g3 : ∀ L, 2 ≤ L → L ≤ bottom.length → ((dv (top.length + 1 - L) k (kc L) ≤ K ∧ dv (bottom.length + 1 - L) kb (kc L) ≤ K) ∧ 1 ≤ kc L) ∧ (nv L = false ∨ 2 * gb (bottom.length + 1) top.length bottom.length k kb L ≤ kc L) := fun L h1 h2 => by
    exact (g2 L (Nat.lt_succ_of_le (hlb ▸ h2))).resolve_left (Nat.not_lt.mpr h1)
  obtain ⟨f, h, e, q1, q2, q3, q4, q5, q6, q7, q8⟩ := fmake_ok (K := K) (kc := kc) c1 c2 pt pb tt tb hb (Nat.le_trans zt c6) (Nat.le_trans zb c7) g1 (fun c vc c1 cl pc hW => by
    obtain ⟨_, q⟩ := g3 c.length c1 cl
    rcases q with q | q
    · exact hr c vc c1 q (fun r hr => (pc r hr).1) hW
    · exact pc.mono q) (fun L h1 h2 => by obtain ⟨⟨⟨a, b⟩, c⟩, _⟩ := g3 L h1 h2; exact ⟨a, b, c⟩) c3 c4 c5
  exact ⟨f, h, e, ⟨q1, q2, q3, q4, q5, q6, q7⟩, q8⟩
theorem mulLen {a b c : P} (h : c.length = (if a.length = 0 ∨ b.length = 0 then 0 else a.length + b.length - 1)) {l m : Nat} (ha : a.length ≤ l) (hb : b.length ≤ m) : c.length ≤ l + m - 1 := by
  rw [h]; split
  · exact Nat.zero_le _
  · exact Nat.sub_le_sub_right (Nat.add_le_add ha hb) 1
theorem mulPos {a b c : P} (h : c.length = (if a.length = 0 ∨ b.length = 0 then 0 else a.length + b.length - 1)) (ha : 0 < a.length) (hb : 0 < b.length) : 0 < c.length := by
  rw [h, if_neg fun q => q.elim (Nat.ne_of_gt ha) (Nat.ne_of_gt hb)]
  exact Nat.sub_pos_of_lt (Nat.lt_of_lt_of_le (by decide : 1 < 1 + 1) (Nat.add_le_add ha hb))
theorem fvTail {T Bt y c d u : Rat} (hB : Bt ≠ 0) (hT : T = u * Bt) (w1 : T = y * c) (w2 : Bt = y * d) : d ≠ 0 ∧ c = u * d := by
  have hh : y ≠ 0 := fun q => by rw [q] at w2; grind
  refine ⟨fun q => by rw [q] at w2; grind, ?_⟩
  have : y * c = y * (u * d) := by rw [← w1, hT, w2]; grind
  grind
theorem mulNe {a b : Rat} (ha : a ≠ 0) (hb : b ≠ 0) : a * b ≠ 0 := by grind
theorem chkB {LT LB k kb K : Nat} {kc : Nat → Nat} {nv : Nat → Bool} (hc : chk LT LB k kb K kc nv = true) : k ≤ 67108000 ∧ kb ≤ 67108000 ∧ LT ≤ 20 := by
  unfold chk at hc
  simp only [Bool.and_eq_true, decide_eq_true_eq] at hc
  have h := halfLe hc.1.1.1.2
  exact ⟨Nat.le_trans hc.1.1.1.1.1.2 h, Nat.le_trans hc.1.1.1.1.2 h, hc.1.1.2⟩
theorem mulB {a : Nat} {l k : Nat} (h : a ≤ l) : 1 + a * k ≤ 1 + l * k := Nat.add_le_add_left (Nat.mul_le_mul_right _ h) 1
theorem add_fr {f g : F} {kf kg a1 a2 b1 b2 K : Nat} {kc : Nat → Nat} {nv : Nat → Bool} (hf : Fr kf a1 a2 f) (hg : Fr kg b1 b2 g) (hz : a1 ≤ 20 ∧ a2 ≤ 20 ∧ b1 ≤ 20 ∧ b2 ≤ 20)
    (hc : chk (max (a1 + b2 - 1) (b1 + a2 - 1)) (a2 + b2 - 1) ((1 + a1 * (kf + kg + 1)) + (1 + b1 * (kg + kf + 1)) + 1) (1 + a2 * (kf + kg + 1)) K kc nv = true)
    (hr : ∀ c : P, V (qlast c) = 1 → 1 < c.length → nv c.length = false → (∀ r ∈ c, Nm r) → (∃ W : List Rat, ∀ x, ew f.2 x * ew g.2 x = ew c x * ev W x) → PB (kc c.length) c) :
    ∃ r, faddM f g = some r ∧ Fr (2 * K) (max (a1 + b2 - 1) (b1 + a2 - 1)) (a2 + b2 - 1) r ∧ ∀ x v w, FV x f v → FV x g w → FV x r (v + w) := by
  obtain ⟨k1, k2, k3⟩ := chkB hc
  have l1 : 1 + f.1.length * (kf + kg + 1) ≤ 1 + a1 * (kf + kg + 1) := mulB hf.z1
  have l2 : 1 + g.1.length * (kg + kf + 1) ≤ 1 + b1 * (kg + kf + 1) := mulB hg.z1
  have l3 : 1 + f.2.length * (kf + kg + 1) ≤ 1 + a2 * (kf + kg + 1) := mulB hf.z2
  have q0 := Nat.le_trans (Nat.le_succ _) k1
  have q1 := Nat.le_trans (Nat.le_add_right _ _) q0
  have q2 := Nat.le_trans (Nat.le_add_left _ _) q0
  obtain ⟨A, eA, pA, wA, lA, tA⟩ := mul_ok hf.p1 hg.p2 (Nat.le_trans hf.z1 hz.1) (Nat.le_trans hg.z2 hz.2.2.2) (Nat.le_trans l1 q1)
  obtain ⟨Bq, eB, pB, wB, lB, tB⟩ := mul_ok hg.p1 hf.p2 (Nat.le_trans hg.z1 hz.2.2.1) (Nat.le_trans hf.z2 hz.2.1) (Nat.le_trans l2 q2)
  obtain ⟨D, eD, pD, wD, lD, tD⟩ := mul_ok hf.p2 hg.p2 (Nat.le_trans hf.z2 hz.2.1) (Nat.le_trans hg.z2 hz.2.2.2) (Nat.le_trans l3 k2)
  have zA := mulLen lA hf.z1 hg.z2
  have zB := mulLen lB hg.z1 hf.z2
  have zD := mulLen lD hf.z2 hg.z2
  obtain ⟨C, eC, pC, wC, tC, zC⟩ := add_ok (Nat.le_add_right _ _) (Nat.le_add_right _ _) pA pB (Nat.le_trans zA (Nat.le_trans (Nat.le_max_left _ _) k3)) (Nat.le_trans zB (Nat.le_trans (Nat.le_max_right _ _) k3)) (Nat.le_trans (Nat.add_le_add l1 l2) q0)
  have hD := mulPos lD hf.n hg.n
  have zC' := Nat.le_trans zC (Nat.max_le.mpr ⟨Nat.le_trans zA (Nat.le_max_left _ _), Nat.le_trans zB (Nat.le_max_right _ _)⟩)
  obtain ⟨r, h, e, fr, w⟩ := fmk hc (pC.mono (Nat.succ_le_succ (Nat.add_le_add l1 l2))) (pD.mono l3) tC (tD hf.t2 hg.t2).1 hD zC' zD (fun c vc c1 nc nmc ⟨W, hW⟩ => hr c vc c1 nc nmc ⟨W, fun x => by rw [← wD]; exact hW x⟩)
  refine ⟨r, by unfold faddM; rw [eA]; dsimp only; rw [eB]; dsimp only; rw [eC]; dsimp only; rw [eD]; exact e, fr.mono (Nat.le_refl _) zC' zD, fun x v u fv gv => ?_⟩
  obtain ⟨w1, w2⟩ := w x
  obtain ⟨f1, f2⟩ := fv
  obtain ⟨g1, g2⟩ := gv
  rw [wC, wA, wB, f2, g2] at w1
  rw [wD] at w2
  exact fvTail (mulNe f1 g1) (by grind) w1 w2
theorem mul_fr {f g : F} {kf kg a1 a2 b1 b2 K : Nat} {kc : Nat → Nat} (hf : Fr kf a1 a2 f) (hg : Fr kg b1 b2 g) (hz : a1 ≤ 20 ∧ a2 ≤ 20 ∧ b1 ≤ 20 ∧ b2 ≤ 20)
    (hc : chk (a1 + b1 - 1) (a2 + b2 - 1) (1 + a1 * (kf + kg + 1)) (1 + a2 * (kf + kg + 1)) K kc (fun _ => true) = true) :
    ∃ r, fmulM f g = some r ∧ Fr (2 * K) (a1 + b1 - 1) (a2 + b2 - 1) r ∧ ∀ x v w, FV x f v → FV x g w → FV x r (v * w) := by
  obtain ⟨k1, k2, k3⟩ := chkB hc
  have l1 : 1 + f.1.length * (kf + kg + 1) ≤ 1 + a1 * (kf + kg + 1) := mulB hf.z1
  have l3 : 1 + f.2.length * (kf + kg + 1) ≤ 1 + a2 * (kf + kg + 1) := mulB hf.z2
  obtain ⟨A, eA, pA, wA, lA, tA⟩ := mul_ok hf.p1 hg.p1 (Nat.le_trans hf.z1 hz.1) (Nat.le_trans hg.z1 hz.2.2.1) (Nat.le_trans l1 k1)
  obtain ⟨D, eD, pD, wD, lD, tD⟩ := mul_ok hf.p2 hg.p2 (Nat.le_trans hf.z2 hz.2.1) (Nat.le_trans hg.z2 hz.2.2.2) (Nat.le_trans l3 k2)
  have zA := mulLen lA hf.z1 hg.z1
  have zD := mulLen lD hf.z2 hg.z2
  have hD := mulPos lD hf.n hg.n
  obtain ⟨r, h, e, fr, w⟩ := fmk hc (pA.mono l1) (pD.mono l3) (tA hf.t1 hg.t1).1 (tD hf.t2 hg.t2).1 hD zA zD (fun c vc c1 nc nmc hW => by cases nc)
  refine ⟨r, by unfold fmulM; rw [eA]; dsimp only; rw [eD]; exact e, fr.mono (Nat.le_refl _) zA zD, fun x v u fv gv => ?_⟩
  obtain ⟨w1, w2⟩ := w x
  obtain ⟨f1, f2⟩ := fv
  obtain ⟨g1, g2⟩ := gv
  rw [wA, f2, g2] at w1
  rw [wD] at w2
  exact fvTail (mulNe f1 g1) (by grind) w1 w2
theorem div_fr {f g : F} {kf kg a1 a2 b1 b2 K : Nat} {kc : Nat → Nat} (hf : Fr kf a1 a2 f) (hg : Fr kg b1 b2 g) (hz : a1 ≤ 20 ∧ a2 ≤ 20 ∧ b1 ≤ 20 ∧ b2 ≤ 20)
    (hc : chk (a1 + b2 - 1) (a2 + b1 - 1) (1 + a1 * (kf + kg + 1)) (1 + a2 * (kf + kg + 1)) K kc (fun _ => true) = true) (h0 : 0 < g.1.length) :
    ∃ r, fdivM f g = some r ∧ Fr (2 * K) (a1 + b2 - 1) (a2 + b1 - 1) r ∧ ∀ x v w, FV x f v → FV x g w → w ≠ 0 → FV x r (v / w) := by
  obtain ⟨k1, k2, k3⟩ := chkB hc
  have l1 : 1 + f.1.length * (kf + kg + 1) ≤ 1 + a1 * (kf + kg + 1) := mulB hf.z1
  have l3 : 1 + f.2.length * (kf + kg + 1) ≤ 1 + a2 * (kf + kg + 1) := mulB hf.z2
  obtain ⟨A, eA, pA, wA, lA, tA⟩ := mul_ok hf.p1 hg.p2 (Nat.le_trans hf.z1 hz.1) (Nat.le_trans hg.z2 hz.2.2.2) (Nat.le_trans l1 k1)
  obtain ⟨D, eD, pD, wD, lD, tD⟩ := mul_ok hf.p2 hg.p1 (Nat.le_trans hf.z2 hz.2.1) (Nat.le_trans hg.z1 hz.2.2.1) (Nat.le_trans l3 k2)
  have zA := mulLen lA hf.z1 hg.z2
  have zD := mulLen lD hf.z2 hg.z1
  have hD := mulPos lD hf.n h0
  obtain ⟨r, h, e, fr, w⟩ := fmk hc (pA.mono l1) (pD.mono l3) (tA hf.t1 hg.t2).1 (tD hf.t2 hg.t1).1 hD zA zD (fun c vc c1 nc nmc hW => by cases nc)
  refine ⟨r, by unfold fdivM; rw [eA]; dsimp only; rw [eD]; exact e, fr.mono (Nat.le_refl _) zA zD, fun x v u fv gv hu => ?_⟩
  obtain ⟨w1, w2⟩ := w x
  obtain ⟨f1, f2⟩ := fv
  obtain ⟨g1, g2⟩ := gv
  rw [wA, f2] at w1
  rw [wD, g2] at w2
  exact fvTail (mulNe f1 (mulNe hu g1)) (by grind) w1 w2
end Mine

end -- PG
section -- PH
set_option maxRecDepth 100000
set_option linter.unusedVariables false
set_option linter.unusedSectionVars false
namespace Mine

noncomputable def kc2 : Nat → Nat := fun L => if L = 2 then 3 else 30
noncomputable def kc3 : Nat → Nat := fun L => if L = 2 then 240364 else if L = 3 then 18852 else 1766
noncomputable def kcm : Nat → Nat := fun _ => 16
noncomputable def kcv : Nat → Nat := fun _ => 410
noncomputable def kcd : Nat → Nat := fun L => if L = 2 then 184244 else 23030
theorem chk2 : chk 3 3 31 15 145 kc2 (fun L => L != 2) = true := by decide +kernel
theorem chk3 : chk 4 4 1473 883 3376887 kc3 (fun _ => true) = true := by decide +kernel
theorem chkm : chk 2 2 8 8 49 kcm (fun _ => true) = true := by decide +kernel
theorem chkv : chk 2 2 309 205 1439 kcv (fun _ => true) = true := by decide +kernel
theorem chkd : chk 3 3 11515 11515 1151527 kcd (fun _ => true) = true := by decide +kernel

theorem get0 {a : R} {p : P} : (a :: p).getD 0 r0 = a := rfl
theorem lin {f : F} (h : Fr 3 2 2 f) : (∀ x, ew f.2 x = 1) ∨ ∃ c, Nm c ∧ B 3 c ∧ ∀ x, ew f.2 x = V c + x := by
  obtain ⟨_, p2, _, m, n, _, z⟩ := h
  generalize f.2 = p at *
  rcases p with _ | ⟨a, _ | ⟨b, _ | ⟨c, p⟩⟩⟩
  · simp at n
  · left; intro x
    rw [ew_cons, ew_nil, show V a = 1 from m]; grind
  · right
    exact ⟨a, (p2 a (by simp)).1, (p2 a (by simp)).2, fun x => by rw [ew_cons, ew_cons, ew_nil, show V b = 1 from m]; grind⟩
  · simp at z
theorem root2 {f g : F} (hf : Fr 3 2 2 f) (hg : Fr 3 2 2 g) (c : P) (vc : V (qlast c) = 1) (c1 : 1 < c.length) (hn : (c.length != 2) = false) (nm : ∀ r ∈ c, Nm r) (hW : ∃ W : List Rat, ∀ x, ew f.2 x * ew g.2 x = ew c x * ev W x) : PB (kc2 c.length) c := by
  have hl : c.length = 2 := by simpa using hn
  rw [hl]
  obtain ⟨W, hW⟩ := hW
  rcases c with _ | ⟨d, _ | ⟨e, _ | ⟨_, _⟩⟩⟩
  · simp at hl
  · simp at hl
  · have ve : V e = 1 := vc
    have ne := nm e (by simp)
    have nd := nm d (by simp)
    have he : e = r1 := V_inj ne Nm_r1 (by rw [ve, V_r1])
    have w := hW (- V d)
    rw [ew_cons, ew_cons, ew_nil, ve] at w
    have w0 : ew f.2 (- V d) * ew g.2 (- V d) = 0 := by rw [w]; grind
    have key : ∀ {f : F}, Fr 3 2 2 f → ew f.2 (- V d) = 0 → B 3 d := fun {f} h z => by
      rcases lin h with q | ⟨a, na, ba, q⟩
      · rw [q] at z; grind
      · rw [q] at z
        have : d = a := V_inj nd na (by grind)
        rw [this]; exact ba
    have bd : B 3 d := by
      by_cases q : ew f.2 (- V d) = 0
      · exact key hf q
      · exact key hg (by grind)
    exact PB.cons nd bd (PB.cons ne (by rw [he]; exact B_r1.mono (by decide)) PB.nil)
  · simp at hl
theorem fatF {f : F} {pt : R} {k : Nat} (h : Fr 3 2 2 f) (np : Nm pt) (bp : B k pt) (hk : k ≤ 1000) : (ew f.2 (V pt) = 0 → fatM f pt = some none) ∧ (ew f.2 (V pt) ≠ 0 → ∃ v, fatM f pt = some (some v) ∧ Nm v ∧ V v = ew f.1 (V pt) / ew f.2 (V pt) ∧ B (4 * k + 18) v) := by
  have z1 := h.z1
  have z2 := h.z2
  have q1 : f.1.length * (k + 3 + 1) ≤ 2 * (k + 3 + 1) := Nat.mul_le_mul_right _ z1
  have q2 : f.2.length * (k + 3 + 1) ≤ 2 * (k + 3 + 1) := Nat.mul_le_mul_right _ z2
  obtain ⟨a, b⟩ := fat_ok np bp h.p1 h.p2 (by lia) (by lia) (by lia)
  refine ⟨a, fun q => ?_⟩
  obtain ⟨v, e, n, w, bv⟩ := b q
  exact ⟨v, e, n, w, bv.mono (by lia)⟩
theorem val_of {f : F} {pt v : R} {k : Nat} (h : Fr 3 2 2 f) (np : Nm pt) (bp : B k pt) (hk : k ≤ 1000) (e : fatM f pt = some (some v)) : FV (V pt) f (V v) ∧ Nm v ∧ B (4 * k + 18) v := by
  obtain ⟨a, b⟩ := fatF h np bp hk
  by_cases q : ew f.2 (V pt) = 0
  · rw [a q] at e; cases e
  · obtain ⟨w, e1, n, hv, bv⟩ := b q
    rw [e1] at e; cases e
    exact ⟨⟨q, by rw [hv]; grind⟩, n, bv⟩
theorem sum_ok {f1 f2 f3 : F} {pt a b c : R} (h1 : Fr 3 2 2 f1) (h2 : Fr 3 2 2 f2) (h3 : Fr 3 2 2 f3) (z : faddM ([], [r1]) f1 = some f1) (np : Nm pt) (bp : B 3 pt)
    (e1 : fatM f1 pt = some (some a)) (e2 : fatM f2 pt = some (some b)) (e3 : fatM f3 pt = some (some c)) :
    ∃ S w s, fsumM [f1, f2, f3] = some S ∧ fatM S pt = some (some w) ∧ raddM a b = some s ∧ raddM s c = some w := by
  obtain ⟨v1, n1, b1⟩ := val_of h1 np bp (by decide) e1
  obtain ⟨v2, n2, b2⟩ := val_of h2 np bp (by decide) e2
  obtain ⟨v3, n3, b3⟩ := val_of h3 np bp (by decide) e3
  obtain ⟨g, eg, fg, wg⟩ := add_fr (K := 145) h1 h2 (by decide) chk2 (fun c vc c1 hn nm hW => root2 h1 h2 c vc c1 hn nm hW)
  obtain ⟨S, eS, fS, wS⟩ := add_fr (K := 3376887) fg h3 (by decide) chk3 (fun c vc c1 hn nm hW => by cases hn)
  have vS := wS _ _ _ (wg _ _ _ v1 v2) v3
  have z1 : S.1.length ≤ 4 := fS.z1
  have z2 : S.2.length ≤ 4 := fS.z2
  have q1 : S.1.length * (3 + 2 * 3376887 + 1) ≤ 4 * (3 + 2 * 3376887 + 1) := Nat.mul_le_mul_right _ z1
  have q2 : S.2.length * (3 + 2 * 3376887 + 1) ≤ 4 * (3 + 2 * 3376887 + 1) := Nat.mul_le_mul_right _ z2
  obtain ⟨w, ew', nw, vw, _⟩ := (fat_ok np bp fS.p1 fS.p2 (by lia) (by lia) (by lia)).2 vS.1
  obtain ⟨s, es, ns, vs, bs⟩ := raddM_ok n1 n2 b1 b2 (by decide)
  obtain ⟨w', ew2, nw', vw', _⟩ := raddM_ok ns n3 bs b3 (by decide)
  have : w' = w := V_inj nw' nw (by rw [vw', vs, vw, vS.2]; have := vS.1; grind)
  subst this
  refine ⟨S, w', s, ?_, ew', es, ew2⟩
  show fsumL [f1, f2, f3] ([], [r1]) = some S
  simp only [fsumL, z, eg, eS]

theorem FV_zero (x : Rat) : FV x ([], [r1]) 0 := ⟨by rw [ew_cons, ew_nil, V_r1]; grind, by rw [ew_nil]; grind⟩
theorem Fr_num {a : R} (na : Nm a) (ba : B 3 a) : Fr 3 1 1 (fnumber a) ∧ ∀ x, FV x (fnumber a) (V a) := by
  unfold fnumber
  have pr : PB 3 [r1] := PB.cons Nm_r1 (B_r1.mono (by decide)) PB.nil
  by_cases h : a = r0
  · subst h
    rw [if_pos rfl]
    exact ⟨⟨PB.nil, pr, fun q => by simp at q, V_r1, by simp, by simp, by simp⟩, fun x => by rw [V_r0]; exact FV_zero x⟩
  · rw [if_neg h]
    refine ⟨⟨PB.cons na ba PB.nil, pr, fun _ q => h (V_zero na q), V_r1, by simp, by simp, by simp⟩, fun x => ⟨?_, ?_⟩⟩
    · show ew [r1] x ≠ 0
      rw [ew_cons, ew_nil, V_r1]; grind
    · show ew [a] x = V a * ew [r1] x
      rw [ew_cons, ew_nil, ew_cons, ew_nil, V_r1]; grind
theorem comp1 {g : F} (hg : Fr 3 2 2 g) (zg : fmulM ([], [r1]) g = some ([], [r1])) {p : P} (pp : PB 3 p) (zp : p.length ≤ 2) (za : ∀ a ∈ p, faddM ([], [r1]) (fnumber a) = some (fnumber a)) :
    ∃ v, fcompL g p.reverse ([], [r1]) = some v ∧ Fr 2878 2 2 v ∧ ∀ x w, FV x g w → FV x v (ew p w) := by
  rcases p with _ | ⟨a, _ | ⟨b, _ | ⟨_, _⟩⟩⟩
  · refine ⟨_, rfl, ⟨PB.nil, PB.cons Nm_r1 (B_r1.mono (by decide)) PB.nil, fun q => by simp at q, V_r1, by simp, by simp, by simp⟩, fun x w _ => by rw [ew_nil]; exact FV_zero x⟩
  · obtain ⟨fa, va⟩ := Fr_num (pp a (by simp)).1 (pp a (by simp)).2
    refine ⟨fnumber a, ?_, fa.mono (by decide) (by decide) (by decide), fun x w _ => by rw [ew_cons, ew_nil, show V a + w * 0 = V a by grind]; exact va x⟩
    show fcompL g [a] ([], [r1]) = _
    simp only [fcompL, zg, za a (by simp)]
  · obtain ⟨fa, va⟩ := Fr_num (pp b (by simp)).1 (pp b (by simp)).2
    obtain ⟨fb, vb⟩ := Fr_num (pp a (by simp)).1 (pp a (by simp)).2
    obtain ⟨m, em, fm, wm⟩ := mul_fr (K := 49) fa hg (by decide) chkm
    obtain ⟨v, e, fv, wv⟩ := add_fr (K := 1439) fm fb (by decide) chkv (fun c vc c1 hn nm hW => by cases hn)
    refine ⟨v, ?_, fv, fun x w hw => ?_⟩
    · show fcompL g [b, a] ([], [r1]) = _
      simp only [fcompL, zg, za b (by simp), em, e]
    · rw [ew_cons, ew_cons, ew_nil, show V a + w * (V b + w * 0) = V b * w + V a by grind]
      exact wv _ _ _ (wm _ _ _ (va x) hw) (vb x)
  · simp at zp
theorem comp_ok {f g : F} {pt b : R} (hf : Fr 3 2 2 f) (hg : Fr 3 2 2 g) (zg : fmulM ([], [r1]) g = some ([], [r1])) (za : ∀ a ∈ f.1 ++ f.2, faddM ([], [r1]) (fnumber a) = some (fnumber a)) (np : Nm pt) (bp : B 3 pt) (e : fatM g pt = some (some b)) :
    ∃ due, fatM f b = some due ∧ ∀ d, due = some d → ∃ C, fcomposeM f g = some C ∧ fatM C pt = some (some d) := by
  obtain ⟨vg, ng, bg⟩ := val_of hg np bp (by decide) e
  obtain ⟨h1, h2⟩ := fatF hf ng bg (by decide)
  by_cases q : ew f.2 (V b) = 0
  · exact ⟨none, h1 q, fun d h => nomatch h⟩
  · obtain ⟨d, ed, nd, vd, bd⟩ := h2 q
    refine ⟨some d, ed, fun d' h => ?_⟩
    cases h
    obtain ⟨u, eu, fu, wu⟩ := comp1 hg zg hf.p1 hf.z1 fun a ha => za a (List.mem_append_left _ ha)
    obtain ⟨v, ev', fv, wv⟩ := comp1 hg zg hf.p2 hf.z2 fun a ha => za a (List.mem_append_right _ ha)
    have vu := wu _ _ vg
    have vv := wv _ _ vg
    have v0 : 0 < v.1.length := by
      rcases Nat.eq_zero_or_pos v.1.length with z | z
      · have z := List.length_eq_zero_iff.mp z
        have := vv.2
        rw [z, ew_nil] at this
        have := vv.1
        grind
      · exact z
    obtain ⟨C, eC, fC, wC⟩ := div_fr (K := 1151527) fu fv (by decide) chkd v0
    have vC := wC _ _ _ vu vv q
    have z1 : C.1.length ≤ 3 := fC.z1
    have z2 : C.2.length ≤ 3 := fC.z2
    have q1 : C.1.length * (3 + 2 * 1151527 + 1) ≤ 3 * (3 + 2 * 1151527 + 1) := Nat.mul_le_mul_right _ z1
    have q2 : C.2.length * (3 + 2 * 1151527 + 1) ≤ 3 * (3 + 2 * 1151527 + 1) := Nat.mul_le_mul_right _ z2
    obtain ⟨w, ew', nw, vw, _⟩ := (fat_ok np bp fC.p1 fC.p2 (by lia) (by lia) (by lia)).2 vC.1
    have : d = w := V_inj nd nw (by rw [vd, vw, vC.2]; have := vC.1; grind)
    subst this
    refine ⟨C, ?_, ew'⟩
    unfold fcomposeM
    have s1 := hf.z1
    have s2 := hf.z2
    rw [if_pos ⟨by show _ ≤ 400; lia, by show _ ≤ 400; lia⟩, eu]
    dsimp only
    rw [ev']
    exact eC
end Mine

end -- PH
section -- PI
set_option maxRecDepth 100000
set_option linter.unusedVariables false
set_option linter.unusedSectionVars false
namespace Mine

theorem plainL_ok {pt : R} {kp k : Nat} (np : Nm pt) (bp : B kp pt) : ∀ (l : List R) (s : Int × Int) (ks : Nat), PB k l → s.2 ≠ 0 → B ks s → ks + l.length * (kp + k + 1) ≤ 60000000 →
    ∃ v, plainL pt l s = some v ∧ v.2 ≠ 0 ∧ B (ks + l.length * (kp + k + 1)) v ∧ (v.1 : Rat) / v.2 = hor (V pt) ((s.1 : Rat) / s.2) l
  | [], s, ks, _, h, b, _ => ⟨s, rfl, h, by simpa using b, rfl⟩
  | x :: l, s, ks, pl, h, b, hL => by
    have e : (l.length + 1) * (kp + k + 1) = l.length * (kp + k + 1) + (kp + k + 1) := Nat.succ_mul ..
    rw [List.length_cons, e] at hL
    obtain ⟨nx, bx⟩ := pl x List.mem_cons_self
    have m1 := mul_lt b.1 bp.1
    have m2 := mul_lt m1 bx.2
    have m3 := mul_lt bx.1 b.2
    have m4 := mul_lt m3 bp.2
    have m5 := mul_lt b.2 bp.2
    have m6 := mul_lt m5 bx.2
    have up : ∀ {a : Int} {i : Nat}, a.natAbs < 2 ^ i → i ≤ ks + kp + k → a.natAbs < 2 ^ (ks + kp + k) := fun {a i} h q => Nat.lt_of_lt_of_le h (Nat.pow_le_pow_right (by decide) q)
    have m7 := add_lt (up m2 (by lia)) (up m4 (by lia))
    have hb : s.2 * pt.2 * x.2 ≠ 0 := Int.mul_ne_zero (Int.mul_ne_zero h np.ne0) nx.ne0
    obtain ⟨v, ev, v0, bv, w⟩ := plainL_ok np bp l (s.1 * pt.1 * x.2 + x.1 * s.2 * pt.2, s.2 * pt.2 * x.2) (ks + kp + k + 1) (pl.sub fun r hr => List.mem_cons_of_mem _ hr) hb ⟨m7, Nat.lt_of_lt_of_le (up m6 (by lia)) (Nat.pow_le_pow_right (by decide) (by lia))⟩ (by lia)
    refine ⟨v, ?_, v0, bv.mono (by rw [List.length_cons, e]; lia), ?_⟩
    · unfold plainL
      rw [if_pos ⟨mulOk_of b.1 bp.1 (by lia), mulOk_of m1 bx.2 (by lia), mulOk_of bx.1 b.2 (by lia), mulOk_of m3 bp.2 (by lia), mulOk_of b.2 bp.2 (by lia), mulOk_of m5 bx.2 (by lia)⟩]
      exact ev
    · rw [w, hor]
      congr 1
      have h1 := cast_ne h
      have h2 := np.ne
      have h3 := nx.ne
      unfold V
      rw [Rat.intCast_add, Rat.intCast_mul, Rat.intCast_mul, Rat.intCast_mul, Rat.intCast_mul, Rat.intCast_mul, Rat.intCast_mul]
      grind
theorem plain_ok {p : P} {pt : R} {kp k : Nat} (np : Nm pt) (bp : B kp pt) (pp : PB k p) (z : p.length ≤ 20) (hL : 1 + p.length * (kp + k + 1) ≤ 60000000) :
    ∃ r, plainM p pt = some r ∧ Nm r ∧ V r = ew p (V pt) ∧ B (1 + p.length * (kp + k + 1)) r := by
  obtain ⟨v, e, v0, bv, w⟩ := plainL_ok np bp p.reverse (0, 1) 1 (pp.sub fun r hr => List.mem_reverse.mp hr) (by decide) ⟨by decide, by decide⟩ (by rw [List.length_reverse]; exact hL)
  rw [List.length_reverse] at bv
  obtain ⟨r, er, nr, vr, br⟩ := ratM_ok v0 bv.1 bv.2
  unfold plainM
  rw [if_pos (le400 z), e]
  refine ⟨r, er, nr, ?_, br⟩
  rw [vr, w, ← hor_rev]
  congr 1
  grind
theorem w_ar {m : Nat} (h : m ≤ 1000) : 1 + 2 * (m + 1) ≤ 60000000 ∧ 1 + 2 * (m + 1) + (1 + 2 * (m + 1)) = 4 * m + 6 ∧ 4 * m + 6 ≤ 67108000 := by lia
theorem worth_ok {f : F} {pt : R} {kp k : Nat} (np : Nm pt) (bp : B kp pt) (p1 : PB k f.1) (p2 : PB k f.2) (z1 : f.1.length ≤ 2) (z2 : f.2.length ≤ 2) (hL : kp + k ≤ 1000) :
    (ew f.2 (V pt) = 0 → worthM f pt = some none) ∧ (ew f.2 (V pt) ≠ 0 → ∃ v, worthM f pt = some (some v) ∧ Nm v ∧ V v = ew f.1 (V pt) / ew f.2 (V pt) ∧ B (4 * (kp + k) + 6) v) := by
  have q1 : f.1.length * (kp + k + 1) ≤ 2 * (kp + k + 1) := Nat.mul_le_mul_right _ z1
  have q2 : f.2.length * (kp + k + 1) ≤ 2 * (kp + k + 1) := Nat.mul_le_mul_right _ z2
  have q3 := w_ar hL
  obtain ⟨low, el, nl, vl, bl⟩ := plain_ok np bp p2 (Nat.le_trans z2 (by decide)) (Nat.le_trans (Nat.add_le_add_left q2 1) q3.1)
  obtain ⟨a, ea, na, va, ba⟩ := plain_ok np bp p1 (Nat.le_trans z1 (by decide)) (Nat.le_trans (Nat.add_le_add_left q1 1) q3.1)
  have q4 := Nat.le_trans (Nat.add_le_add (Nat.add_le_add_left q1 1) (Nat.add_le_add_left q2 1)) (Nat.le_of_eq q3.2.1)
  unfold worthM
  rw [el]
  dsimp only
  refine ⟨fun h => ?_, fun h => ?_⟩
  · have := V_zero nl (by rw [vl]; exact h)
    rw [if_pos (by rw [this])]
  · have h0 : low.1 ≠ 0 := fun q => h (by rw [← vl]; exact V_eq0 q)
    rw [if_neg h0, ea]
    obtain ⟨v, ev, nv, vv, bv⟩ := rdivM_ok na nl ba bl (by rw [vl]; exact h) (Nat.le_trans q4 q3.2.2)
    dsimp only
    rw [ev]
    exact ⟨v, rfl, nv, by rw [vv, va, vl], bv.mono q4⟩

noncomputable def oneB (f : F) : Bool :=
  (match toM f with | none => false | some t => match fromM 9 t with | none => false | some g => decide (g = f)) &&
  (match fsplitM f with | none => false | some q => decide ((q.1.length : Int) = max 0 ((f.1.length : Int) - f.2.length + 1)) && decide (((restOf q f).1.length : Int) < max 1 ((restOf q f).2.length : Int)) && decide (q.1.length ≤ 2 ∧ q.2.length ≤ 2) && (decide (q.2.length ≠ 0) || decide (f.2.length = 1)))
noncomputable def nmB (r : R) : Bool := decide (0 < r.2) && decide (Int.gcd r.1 r.2 = 1) && decide (r.1.natAbs < 8) && decide (r.2.natAbs < 8)
noncomputable def pbB (p : P) : Bool := p.all nmB
noncomputable def frB (f : F) : Bool := pbB f.1 && pbB f.2 && (decide (f.1.length = 0) || decide ((qlast f.1).1 ≠ 0)) && decide (qlast f.2 = (1, 1)) && decide (0 < f.2.length) && decide (f.1.length ≤ 2) && decide (f.2.length ≤ 2)
theorem nmB_ok {r : R} (h : nmB r = true) : Nm r ∧ B 3 r := by
  unfold nmB at h
  simp only [Bool.and_eq_true, decide_eq_true_eq] at h
  exact ⟨⟨h.1.1.1, h.1.1.2⟩, h.1.2, h.2⟩
theorem pbB_ok {p : P} (h : pbB p = true) : PB 3 p := fun r hr => nmB_ok (List.all_eq_true.mp h r hr)
theorem frB_ok {f : F} (h : frB f = true) : Fr 3 2 2 f := by
  unfold frB at h
  simp only [Bool.and_eq_true, decide_eq_true_eq, Bool.or_eq_true] at h
  obtain ⟨⟨⟨⟨⟨⟨h1, h2⟩, h3⟩, h4⟩, h5⟩, h6⟩, h7⟩ := h
  refine ⟨pbB_ok h1, pbB_ok h2, fun q => ?_, by rw [h4]; exact V_r1, h5, h6, h7⟩
  rcases h3 with h3 | h3
  · lia
  · exact V_ne (pbB_ok h1 _ (last_mem q)).1 h3
theorem le4 {n : Nat} (h : n ≤ 2) : n ≤ 400 := Nat.le_trans h (by decide)
theorem q_val {b q r : Rat} (hb : b ≠ 0) : q + r / b = (b * q + r) / b := by grind
theorem div_cancel {h a b : Rat} (hb : h * b ≠ 0) : a / b = (h * a) / (h * b) := by grind
theorem one_of {f : F} {top bottom : P} {pt : R} (np : Nm pt) (bp : B 3 pt) (hf : frB f = true) (ho : oneB f = true) (pt1 : PB 3 top) (pb1 : PB 3 bottom) (tt : Tr top) (tb : Tr bottom) (hb : 0 < bottom.length) (zt : top.length ≤ 2) (zb : bottom.length ≤ 2) (e : fmakeM top bottom = some f)
    (hl : top.length = 0 ∨ (f.1.length : Int) - f.2.length = (top.length : Int) - bottom.length) : OneOk f top bottom pt := by
  have fr := frB_ok hf
  have hm : qlast f.2 = (1, 1) := by
    unfold frB at hf
    simp only [Bool.and_eq_true, decide_eq_true_eq] at hf
    exact hf.1.1.1.2
  have z1 := fr.z1
  have z2 := fr.z2
  obtain ⟨f', h, e', _, hh⟩ := fmk (LT := 2) (LB := 2) (k := 3) (kb := 3) (K := 100) (kc := fun _ => 6) (nv := fun _ => true) (by decide +kernel) pt1 pb1 tt tb hb zt zb (fun c vc c1 hn => by cases hn)
  rw [e] at e'
  cases e'
  obtain ⟨hx1, hx2⟩ := hh (V pt)
  obtain ⟨fa1, fa2⟩ := fatF fr np bp (by decide)
  obtain ⟨wa1, wa2⟩ := worth_ok (f := (top, bottom)) np bp pt1 pb1 zt zb (by decide)
  have q2 : bottom.length * (3 + 3 + 1) ≤ 2 * (3 + 3 + 1) := Nat.mul_le_mul_right _ zb
  obtain ⟨low, el, nl, vl, bl⟩ := plain_ok np bp pb1 (Nat.le_trans zb (by decide)) (Nat.le_trans (Nat.add_le_add_left q2 1) (by decide))
  unfold oneB at ho
  simp only [Bool.and_eq_true] at ho
  obtain ⟨ho1, ho2⟩ := ho
  refine ⟨⟨le4 z1, le4 z2, le4 zt, le4 zb⟩, fr.n, hm, hl, ⟨low, el, fun h0 => ?_⟩, ?_, ?_⟩
  · have hbv : ew bottom (V pt) ≠ 0 := by rw [← vl]; exact V_ne nl h0
    have hfv : ew f.2 (V pt) ≠ 0 := fun q => hbv (by rw [hx2, q, Rat.mul_zero])
    obtain ⟨v, e1, n1, v1, _⟩ := fa2 hfv
    obtain ⟨w, e2, n2, v2, _⟩ := wa2 hbv
    have : v = w := V_inj n1 n2 (by
      rw [v1, v2]
      show _ = ew top (V pt) / ew bottom (V pt)
      rw [hx1, hx2]
      rw [hx2] at hbv
      exact div_cancel hbv)
    subst this
    exact ⟨some v, e1, e2⟩
  · split at ho1
    · cases ho1
    · rename_i _ t h1
      split at ho1
      · cases ho1
      · rename_i _ g h2
        have : g = f := by simpa using ho1
        subst this
        exact ⟨t, h1, h2⟩
  · split at ho2
    · cases ho2
    · rename_i _ q h1
      simp only [Bool.and_eq_true, decide_eq_true_eq, Bool.or_eq_true] at ho2
      obtain ⟨⟨⟨a1, a2⟩, a3⟩, a4⟩ := ho2
      have dvb : dv (f.1.length + 1 - f.2.length) 3 3 ≤ 100 := by
        exact Nat.le_trans (dv_mono _ 2 _ _ (Nat.sub_le_of_le_add (Nat.add_le_add z1 fr.n))) (by decide)
      obtain ⟨q1, r1', eq, pq, pr, lr, lq, w, _, _⟩ := divmod_ok (K := 100) (by decide) (by decide) fr.p1 fr.p2 fr.n (Nat.le_trans z1 (by decide)) (Nat.le_trans z2 (by decide)) fr.t2 dvb (by decide)
      have eq' : fsplitM f = some (q1, r1') := eq
      rw [eq'] at h1
      cases h1
      have w' := w (V pt)
      refine ⟨_, eq', le4 a3.1, le4 a3.2, a1, a2, ?_⟩
      have s1 : q1.length * (3 + 100 + 1) ≤ 2 * (3 + 100 + 1) := Nat.mul_le_mul_right _ a3.1
      by_cases hz : ew f.2 (V pt) = 0
      · refine ⟨none, none, fa1 hz, ?_, trivial⟩
        rcases a4 with a4 | a4
        · have er : restOf (q1, r1') f = (r1', f.2) := by unfold restOf; rw [if_neg a4]
          rw [er]
          exact (worth_ok (f := (r1', f.2)) np bp (k := 100) pr (fr.p2.mono (by decide)) a3.2 z2 (by decide)).1 hz
        · exfalso
          rcases hfe : f.2 with _ | ⟨c, _ | ⟨_, _⟩⟩
          · rw [hfe] at a4; simp at a4
          · have := fr.m
            rw [hfe] at this hz
            rw [ew_cons, ew_nil, show V c = 1 from this, Rat.mul_zero, Rat.add_zero] at hz
            exact absurd hz (by decide)
          · rw [hfe] at a4; simp at a4
      · obtain ⟨v, e1, n1, v1, _⟩ := fa2 hz
        obtain ⟨l, e2, n2, v2, b2⟩ : ∃ l, worthM (restOf (q1, r1') f) pt = some (some l) ∧ Nm l ∧ V l = ew r1' (V pt) / ew f.2 (V pt) ∧ B (4 * (3 + 100) + 6) l := by
          by_cases hr : r1'.length = 0
          · have er : restOf (q1, r1') f = ([], [r1]) := by unfold restOf; rw [if_pos hr]
            have h10 : ew [r1] (V pt) ≠ 0 := by rw [ew_cons, ew_nil, V_r1, Rat.mul_zero, Rat.add_zero]; decide
            obtain ⟨l, a, b, c, d⟩ := (worth_ok (f := ([], [r1])) np bp (k := 100) PB.nil (PB.cons Nm_r1 (B_r1.mono (by decide)) PB.nil) (by simp) (by simp) (by decide)).2 h10
            refine ⟨l, by rw [er]; exact a, b, ?_, d⟩
            rw [c, List.length_eq_zero_iff.mp hr]
            show ew [] _ / _ = ew [] _ / _
            rw [ew_nil, Rat.div_def, Rat.div_def, Rat.zero_mul, Rat.zero_mul]
          · have er : restOf (q1, r1') f = (r1', f.2) := by unfold restOf; rw [if_neg hr]
            rw [er]
            exact (worth_ok (f := (r1', f.2)) np bp (k := 100) pr (fr.p2.mono (by decide)) a3.2 z2 (by decide)).2 hz
        obtain ⟨own, eo, no, vo, bo⟩ := plain_ok np bp pq (Nat.le_trans a3.1 (by decide)) (Nat.le_trans (Nat.add_le_add_left s1 1) (by decide))
        have bo' := bo.mono (Nat.le_trans (Nat.add_le_add_left s1 1) (show _ ≤ 500 by decide))
        have b2' := b2.mono (show _ ≤ 500 by decide)
        have den : own.2 * l.2 ≠ 0 := Int.mul_ne_zero no.ne0 n2.ne0
        obtain ⟨v', ev', nv', vv', _⟩ := ratM_ok den (add_lt (mul_lt bo'.1 b2'.2) (mul_lt b2'.1 bo'.2)) (Nat.lt_of_lt_of_le (mul_lt bo'.2 b2'.2) (Nat.pow_le_pow_right (by decide) (by decide)))
        have : v' = v := V_inj nv' n1 (by
          rw [vv'.trans (V_add no n2), vo, v2, v1, w']
          exact q_val hz)
        subst this
        exact ⟨some v', some l, e1, e2, own, eo, mulOk_of bo'.1 b2'.2 (by decide), mulOk_of b2'.1 bo'.2 (by decide), mulOk_of bo'.2 b2'.2 (by decide), ev'⟩
end Mine

end -- PI
section -- PJ
open PySem PySem.W PyProof.Rows PySem.Calls
set_option maxRecDepth 100000
set_option linter.unusedVariables false
set_option linter.unusedSectionVars false
namespace Mine

noncomputable def tab0 : P × List P := ([(1, 1)], [[], [(1, 1)], [(1, 2)], [(-1, 1)], [(-2, 1), (1, 1)], [(-1, 1), (1, 2)], [(2, 1), (-1, 1)], [(-1, 1), (1, 1)], [(-1, 2), (1, 2)], [(1, 1), (-1, 1)], [(-1, 2), (1, 1)], [(-1, 4), (1, 2)], [(1, 2), (-1, 1)], [(0, 1), (1, 1)], [(0, 1), (1, 2)], [(0, 1), (-1, 1)], [(1, 1), (1, 1)], [(1, 2), (1, 2)], [(-1, 1), (-1, 1)], [(1, 2), (1, 1)], [(1, 4), (1, 2)], [(-1, 2), (-1, 1)], [(2, 1), (1, 1)], [(1, 1), (1, 2)], [(-2, 1), (-1, 1)], [(2, 1)], [(-2, 1)], [(-2, 1), (2, 1)], [(2, 1), (-2, 1)], [(-1, 1), (2, 1)], [(1, 1), (-2, 1)], [(-1, 2), (2, 1)], [(-1, 4), (1, 1)], [(1, 2), (-2, 1)], [(0, 1), (2, 1)], [(0, 1), (-2, 1)], [(1, 1), (2, 1)], [(-1, 1), (-2, 1)], [(1, 2), (2, 1)], [(1, 4), (1, 1)], [(-1, 2), (-2, 1)], [(2, 1), (2, 1)], [(-2, 1), (-2, 1)], [(-1, 2)], [(-1, 1), (-1, 2)], [(-1, 2), (-1, 2)], [(-1, 4), (-1, 2)], [(0, 1), (-1, 2)], [(1, 2), (-1, 2)], [(1, 4), (-1, 2)], [(1, 1), (-1, 2)]])
noncomputable def tab1 : P × List P := ([(-2, 1), (1, 1)], [[(1, 1)], [(-1, 1)], [(-1, 1), (1, 1)], [(1, 1), (-1, 1)], [(-1, 2), (1, 1)], [(1, 2), (-1, 1)], [(0, 1), (1, 1)], [(0, 1), (-1, 1)], [(1, 1), (1, 1)], [(-1, 1), (-1, 1)], [(1, 2), (1, 1)], [(-1, 2), (-1, 1)], [(2, 1), (1, 1)], [(-2, 1), (-1, 1)], [(2, 1)], [(-2, 1)], [(-2, 1), (2, 1)], [(2, 1), (-2, 1)], [(-1, 1), (2, 1)], [(1, 1), (-2, 1)], [(-1, 2), (2, 1)], [(1, 2), (-2, 1)], [(0, 1), (2, 1)], [(0, 1), (-2, 1)], [(1, 1), (2, 1)], [(-1, 1), (-2, 1)], [(1, 2), (2, 1)], [(-1, 2), (-2, 1)], [(2, 1), (2, 1)], [(-2, 1), (-2, 1)]])
noncomputable def tab2 : P × List P := ([(-1, 1), (1, 1)], [[(1, 1)], [(1, 2)], [(-1, 1)], [(-2, 1), (1, 1)], [(-1, 1), (1, 2)], [(2, 1), (-1, 1)], [(-1, 2), (1, 1)], [(-1, 4), (1, 2)], [(1, 2), (-1, 1)], [(0, 1), (1, 1)], [(0, 1), (1, 2)], [(0, 1), (-1, 1)], [(1, 1), (1, 1)], [(1, 2), (1, 2)], [(-1, 1), (-1, 1)], [(1, 2), (1, 1)], [(1, 4), (1, 2)], [(-1, 2), (-1, 1)], [(2, 1), (1, 1)], [(1, 1), (1, 2)], [(-2, 1), (-1, 1)], [(2, 1)], [(-2, 1)], [(-1, 1), (2, 1)], [(1, 1), (-2, 1)], [(-1, 2), (2, 1)], [(-1, 4), (1, 1)], [(1, 2), (-2, 1)], [(0, 1), (2, 1)], [(0, 1), (-2, 1)], [(1, 1), (2, 1)], [(-1, 1), (-2, 1)], [(1, 2), (2, 1)], [(1, 4), (1, 1)], [(-1, 2), (-2, 1)], [(2, 1), (2, 1)], [(-2, 1), (-2, 1)], [(-1, 2)], [(-1, 1), (-1, 2)], [(-1, 2), (-1, 2)], [(-1, 4), (-1, 2)], [(0, 1), (-1, 2)], [(1, 4), (-1, 2)], [(1, 1), (-1, 2)]])
noncomputable def tab3 : P × List P := ([(-1, 2), (1, 1)], [[(1, 1)], [(1, 2)], [(-1, 1)], [(-2, 1), (1, 1)], [(-1, 1), (1, 2)], [(2, 1), (-1, 1)], [(-1, 1), (1, 1)], [(-1, 2), (1, 2)], [(1, 1), (-1, 1)], [(0, 1), (1, 1)], [(0, 1), (1, 2)], [(0, 1), (-1, 1)], [(1, 1), (1, 1)], [(1, 2), (1, 2)], [(-1, 1), (-1, 1)], [(1, 2), (1, 1)], [(1, 4), (1, 2)], [(-1, 2), (-1, 1)], [(2, 1), (1, 1)], [(1, 1), (1, 2)], [(-2, 1), (-1, 1)], [(2, 1)], [(-2, 1)], [(-2, 1), (2, 1)], [(2, 1), (-2, 1)], [(-1, 2), (2, 1)], [(-1, 4), (1, 1)], [(1, 2), (-2, 1)], [(0, 1), (2, 1)], [(0, 1), (-2, 1)], [(1, 1), (2, 1)], [(-1, 1), (-2, 1)], [(1, 2), (2, 1)], [(1, 4), (1, 1)], [(-1, 2), (-2, 1)], [(2, 1), (2, 1)], [(-2, 1), (-2, 1)], [(-1, 2)], [(-1, 1), (-1, 2)], [(-1, 2), (-1, 2)], [(-1, 4), (-1, 2)], [(0, 1), (-1, 2)], [(1, 2), (-1, 2)], [(1, 1), (-1, 2)]])
noncomputable def tab4 : P × List P := ([(0, 1), (1, 1)], [[(1, 1)], [(1, 2)], [(-1, 1)], [(-2, 1), (1, 1)], [(-1, 1), (1, 2)], [(2, 1), (-1, 1)], [(-1, 1), (1, 1)], [(-1, 2), (1, 2)], [(1, 1), (-1, 1)], [(-1, 2), (1, 1)], [(-1, 4), (1, 2)], [(1, 2), (-1, 1)], [(1, 1), (1, 1)], [(1, 2), (1, 2)], [(-1, 1), (-1, 1)], [(1, 2), (1, 1)], [(1, 4), (1, 2)], [(-1, 2), (-1, 1)], [(2, 1), (1, 1)], [(1, 1), (1, 2)], [(-2, 1), (-1, 1)], [(2, 1)], [(-2, 1)], [(-2, 1), (2, 1)], [(2, 1), (-2, 1)], [(-1, 1), (2, 1)], [(1, 1), (-2, 1)], [(-1, 2), (2, 1)], [(-1, 4), (1, 1)], [(1, 2), (-2, 1)], [(1, 1), (2, 1)], [(-1, 1), (-2, 1)], [(1, 2), (2, 1)], [(1, 4), (1, 1)], [(-1, 2), (-2, 1)], [(2, 1), (2, 1)], [(-2, 1), (-2, 1)], [(-1, 2)], [(-1, 1), (-1, 2)], [(-1, 2), (-1, 2)], [(-1, 4), (-1, 2)], [(1, 2), (-1, 2)], [(1, 4), (-1, 2)], [(1, 1), (-1, 2)]])
noncomputable def tab5 : P × List P := ([(1, 1), (1, 1)], [[(1, 1)], [(1, 2)], [(-1, 1)], [(-2, 1), (1, 1)], [(-1, 1), (1, 2)], [(2, 1), (-1, 1)], [(-1, 1), (1, 1)], [(-1, 2), (1, 2)], [(1, 1), (-1, 1)], [(-1, 2), (1, 1)], [(-1, 4), (1, 2)], [(1, 2), (-1, 1)], [(0, 1), (1, 1)], [(0, 1), (1, 2)], [(0, 1), (-1, 1)], [(1, 2), (1, 1)], [(1, 4), (1, 2)], [(-1, 2), (-1, 1)], [(2, 1), (1, 1)], [(1, 1), (1, 2)], [(-2, 1), (-1, 1)], [(2, 1)], [(-2, 1)], [(-2, 1), (2, 1)], [(2, 1), (-2, 1)], [(-1, 1), (2, 1)], [(1, 1), (-2, 1)], [(-1, 2), (2, 1)], [(-1, 4), (1, 1)], [(1, 2), (-2, 1)], [(0, 1), (2, 1)], [(0, 1), (-2, 1)], [(1, 1), (2, 1)], [(-1, 1), (-2, 1)], [(1, 2), (2, 1)], [(1, 4), (1, 1)], [(-1, 2), (-2, 1)], [(-1, 2)], [(-1, 1), (-1, 2)], [(-1, 4), (-1, 2)], [(0, 1), (-1, 2)], [(1, 2), (-1, 2)], [(1, 4), (-1, 2)], [(1, 1), (-1, 2)]])
noncomputable def tab6 : P × List P := ([(1, 2), (1, 1)], [[(1, 1)], [(1, 2)], [(-1, 1)], [(-2, 1), (1, 1)], [(-1, 1), (1, 2)], [(2, 1), (-1, 1)], [(-1, 1), (1, 1)], [(-1, 2), (1, 2)], [(1, 1), (-1, 1)], [(-1, 2), (1, 1)], [(-1, 4), (1, 2)], [(1, 2), (-1, 1)], [(0, 1), (1, 1)], [(0, 1), (1, 2)], [(0, 1), (-1, 1)], [(1, 1), (1, 1)], [(1, 2), (1, 2)], [(-1, 1), (-1, 1)], [(2, 1), (1, 1)], [(1, 1), (1, 2)], [(-2, 1), (-1, 1)], [(2, 1)], [(-2, 1)], [(-2, 1), (2, 1)], [(2, 1), (-2, 1)], [(-1, 1), (2, 1)], [(1, 1), (-2, 1)], [(-1, 2), (2, 1)], [(-1, 4), (1, 1)], [(1, 2), (-2, 1)], [(0, 1), (2, 1)], [(0, 1), (-2, 1)], [(1, 2), (2, 1)], [(1, 4), (1, 1)], [(-1, 2), (-2, 1)], [(2, 1), (2, 1)], [(-2, 1), (-2, 1)], [(-1, 2)], [(-1, 1), (-1, 2)], [(-1, 2), (-1, 2)], [(0, 1), (-1, 2)], [(1, 2), (-1, 2)], [(1, 4), (-1, 2)], [(1, 1), (-1, 2)]])
noncomputable def tab7 : P × List P := ([(2, 1), (1, 1)], [[(1, 1)], [(-1, 1)], [(-2, 1), (1, 1)], [(2, 1), (-1, 1)], [(-1, 1), (1, 1)], [(1, 1), (-1, 1)], [(-1, 2), (1, 1)], [(1, 2), (-1, 1)], [(0, 1), (1, 1)], [(0, 1), (-1, 1)], [(1, 1), (1, 1)], [(-1, 1), (-1, 1)], [(1, 2), (1, 1)], [(-1, 2), (-1, 1)], [(2, 1)], [(-2, 1)], [(-2, 1), (2, 1)], [(2, 1), (-2, 1)], [(-1, 1), (2, 1)], [(1, 1), (-2, 1)], [(-1, 2), (2, 1)], [(1, 2), (-2, 1)], [(0, 1), (2, 1)], [(0, 1), (-2, 1)], [(1, 1), (2, 1)], [(-1, 1), (-2, 1)], [(1, 2), (2, 1)], [(-1, 2), (-2, 1)], [(2, 1), (2, 1)], [(-2, 1), (-2, 1)]])
noncomputable def tab8 : P × List P := ([(-1, 4), (1, 1)], [[(1, 2)], [(-1, 1), (1, 2)], [(-1, 2), (1, 2)], [(-1, 4), (1, 2)], [(0, 1), (1, 2)], [(1, 2), (1, 2)], [(1, 4), (1, 2)], [(1, 1), (1, 2)], [(1, 1)], [(-1, 1), (1, 1)], [(-1, 2), (1, 1)], [(0, 1), (1, 1)], [(1, 2), (1, 1)], [(1, 4), (1, 1)], [(1, 1), (1, 1)], [(-1, 2)], [(-1, 1), (-1, 2)], [(-1, 2), (-1, 2)], [(-1, 4), (-1, 2)], [(0, 1), (-1, 2)], [(1, 2), (-1, 2)], [(1, 4), (-1, 2)], [(1, 1), (-1, 2)]])
noncomputable def tab9 : P × List P := ([(1, 4), (1, 1)], [[(1, 2)], [(-1, 1), (1, 2)], [(-1, 2), (1, 2)], [(-1, 4), (1, 2)], [(0, 1), (1, 2)], [(1, 2), (1, 2)], [(1, 4), (1, 2)], [(1, 1), (1, 2)], [(1, 1)], [(-1, 1), (1, 1)], [(-1, 2), (1, 1)], [(-1, 4), (1, 1)], [(0, 1), (1, 1)], [(1, 2), (1, 1)], [(1, 1), (1, 1)], [(-1, 2)], [(-1, 1), (-1, 2)], [(-1, 2), (-1, 2)], [(-1, 4), (-1, 2)], [(0, 1), (-1, 2)], [(1, 2), (-1, 2)], [(1, 4), (-1, 2)], [(1, 1), (-1, 2)]])
noncomputable def tab : List (P × List P) := [tab0, tab1, tab2, tab3, tab4, tab5, tab6, tab7, tab8, tab9]
noncomputable def coefs : List R := [(-2, 1), (-1, 1), (-1, 2), (0, 1), (1, 2), (1, 1), (2, 1)]
noncomputable def leads : List R := [(1, 1), (2, 1), (-1, 1)]
noncomputable def rowsAll : List P := leads.flatMap fun l => [l] :: coefs.map fun c => [c, l]
noncomputable def topsAll : List P := [] :: rowsAll
noncomputable def ptsAll : List R := [(-3, 1), (-3, 2), (-2, 1), (-1, 1), (-1, 2), (0, 1), (1, 1), (1, 2), (2, 1), (3, 1), (3, 2)]
noncomputable def coefL : List R := [(-2, 1), (-1, 1), (-1, 2), (-1, 4), (0, 1), (1, 1), (1, 2), (1, 4), (2, 1)]
noncomputable def inTab (f : F) : Bool := tab.any fun g => decide (g.1 = f.2) && g.2.any fun x => decide (x = f.1)
noncomputable def good (f : F) : Bool := frB f && oneB f && decide (faddM ([], [r1]) f = some f) && decide (fmulM ([], [r1]) f = some ([], [r1])) && (f.1 ++ f.2).all fun a => coefL.any fun c => decide (c = a)
noncomputable def pairB (t b : P) : Bool := match fmakeM t b with
  | none => false
  | some f => inTab f && (decide (t.length = 0) || decide ((f.1.length : Int) - f.2.length = (t.length : Int) - b.length))
theorem coef_ok : coefL.all (fun a => decide (faddM ([], [r1]) (fnumber a) = some (fnumber a))) = true := by decide +kernel
noncomputable def rowB (p : P) : Bool := pbB p && decide ((qlast p).1 ≠ 0) && decide (0 < p.length) && decide (p.length ≤ 2)
theorem rows_ok : rowsAll.all rowB = true := by decide +kernel
noncomputable def textB (pt : R) : Bool := nmB pt && rOk pt && decide ((rT pt).length ≤ 10000) && decide (mapO wordsI (Txt.split (rT pt) "/") = some (if pt.2 = 1 then [pt.1] else [pt.1, pt.2])) && decide ((Txt.split (rT pt) "/").length ≤ 1000)
theorem pts_ok : ptsAll.all textB = true := by decide +kernel
theorem good0 : tab0.2.all (fun t => good (t, tab0.1)) = true := by decide +kernel
theorem good1 : tab1.2.all (fun t => good (t, tab1.1)) = true := by decide +kernel
theorem good2 : tab2.2.all (fun t => good (t, tab2.1)) = true := by decide +kernel
theorem good3 : tab3.2.all (fun t => good (t, tab3.1)) = true := by decide +kernel
theorem good4 : tab4.2.all (fun t => good (t, tab4.1)) = true := by decide +kernel
theorem good5 : tab5.2.all (fun t => good (t, tab5.1)) = true := by decide +kernel
theorem good6 : tab6.2.all (fun t => good (t, tab6.1)) = true := by decide +kernel
theorem good7 : tab7.2.all (fun t => good (t, tab7.1)) = true := by decide +kernel
theorem good8 : tab8.2.all (fun t => good (t, tab8.1)) = true := by decide +kernel
theorem good9 : tab9.2.all (fun t => good (t, tab9.1)) = true := by decide +kernel
theorem pair0 : ((rowsAll.drop 0).take 6).all (fun b => topsAll.all fun t => pairB t b) = true := by decide +kernel
theorem pair1 : ((rowsAll.drop 6).take 6).all (fun b => topsAll.all fun t => pairB t b) = true := by decide +kernel
theorem pair2 : ((rowsAll.drop 12).take 6).all (fun b => topsAll.all fun t => pairB t b) = true := by decide +kernel
theorem pair3 : ((rowsAll.drop 18).take 6).all (fun b => topsAll.all fun t => pairB t b) = true := by decide +kernel
end Mine

end -- PJ
section -- PK
open PySem PySem.W PyProof.Rows PySem.Calls
set_option maxRecDepth 100000
set_option linter.unusedVariables false
set_option linter.unusedSectionVars false
namespace Mine

theorem good_of {f : F} (h : inTab f = true) : good f = true := by
  unfold inTab at h
  obtain ⟨g, hg, hf⟩ := List.any_eq_true.mp h
  simp only [Bool.and_eq_true, decide_eq_true_eq] at hf
  obtain ⟨h1, h2⟩ := hf
  obtain ⟨t, ht, he⟩ := List.any_eq_true.mp h2
  have he : t = f.1 := by simpa using he
  have key : ∀ g ∈ tab, g.2.all (fun t => good (t, g.1)) = true := by
    intro g hg
    simp only [tab, List.mem_cons, List.not_mem_nil, or_false] at hg
    rcases hg with rfl | rfl | rfl | rfl | rfl | rfl | rfl | rfl | rfl | rfl
    · exact good0
    · exact good1
    · exact good2
    · exact good3
    · exact good4
    · exact good5
    · exact good6
    · exact good7
    · exact good8
    · exact good9
  have := List.all_eq_true.mp (key g hg) t ht
  rwa [he, h1] at this
theorem pair_ok {t b : P} (ht : t ∈ topsAll) (hb : b ∈ rowsAll) : pairB t b = true := by
  have e : rowsAll = (rowsAll.drop 0).take 6 ++ ((rowsAll.drop 6).take 6 ++ ((rowsAll.drop 12).take 6 ++ (rowsAll.drop 18).take 6)) := by decide +kernel
  rw [e] at hb
  rcases List.mem_append.mp hb with hb | hb
  · exact List.all_eq_true.mp (List.all_eq_true.mp pair0 b hb) t ht
  rcases List.mem_append.mp hb with hb | hb
  · exact List.all_eq_true.mp (List.all_eq_true.mp pair1 b hb) t ht
  rcases List.mem_append.mp hb with hb | hb
  · exact List.all_eq_true.mp (List.all_eq_true.mp pair2 b hb) t ht
  · exact List.all_eq_true.mp (List.all_eq_true.mp pair3 b hb) t ht
structure Gd (f : F) : Prop where
  fr : frB f = true
  one : oneB f = true
  z : faddM ([], [r1]) f = some f
  zg : fmulM ([], [r1]) f = some ([], [r1])
  za : ∀ a ∈ f.1 ++ f.2, faddM ([], [r1]) (fnumber a) = some (fnumber a)
theorem gd_of {f : F} (h : good f = true) : Gd f := by
  unfold good at h
  simp only [Bool.and_eq_true, decide_eq_true_eq] at h
  obtain ⟨⟨⟨⟨h1, h2⟩, h3⟩, h4⟩, h5⟩ := h
  refine ⟨h1, h2, h3, h4, fun a ha => ?_⟩
  obtain ⟨c, hc, e⟩ := List.any_eq_true.mp (List.all_eq_true.mp h5 a ha)
  have e : c = a := by simpa using e
  subst e
  simpa using List.all_eq_true.mp coef_ok c hc
theorem row_of {p : P} (h : p ∈ rowsAll) : PB 3 p ∧ Tr p ∧ 0 < p.length ∧ p.length ≤ 2 := by
  have := List.all_eq_true.mp rows_ok p h
  unfold rowB at this
  simp only [Bool.and_eq_true, decide_eq_true_eq] at this
  obtain ⟨⟨⟨h1, h2⟩, h3⟩, h4⟩ := this
  exact ⟨pbB_ok h1, fun q => V_ne (pbB_ok h1 _ (last_mem q)).1 h2, h3, h4⟩
theorem row_ok {xs : List Int} (k m : Nat) : ∃ p k', rowS xs k m = some (p, k') ∧ p ∈ rowsAll := by
  have c3 : ∀ v : Int, 0 ≤ v ∧ v < 3 → ∃ r, ratM (lead v) 1 = some r ∧ r ∈ leads := fun v h => by
    have : v = 0 ∨ v = 1 ∨ v = 2 := by lia
    rcases this with rfl | rfl | rfl <;> exact ⟨_, rfl, by decide +kernel⟩
  have c5 : ∀ v u : Int, 0 ≤ v ∧ v < 5 → 0 ≤ u ∧ u < 2 → ∃ r, ratM (v - 2) (1 + u) = some r ∧ r ∈ coefs := fun v u h h2 => by
    have h1 : v = 0 ∨ v = 1 ∨ v = 2 ∨ v = 3 ∨ v = 4 := by lia
    have h2 : u = 0 ∨ u = 1 := by lia
    rcases h1 with rfl | rfl | rfl | rfl | rfl <;> rcases h2 with rfl | rfl <;> exact ⟨_, rfl, by decide +kernel⟩
  have in1 : ∀ l ∈ leads, [l] ∈ rowsAll := by decide +kernel
  have in2 : ∀ l ∈ leads, ∀ c ∈ coefs, [c, l] ∈ rowsAll := by decide +kernel
  unfold rowS
  split
  · obtain ⟨r, e, h⟩ := c3 _ (takeV_mod (xs := xs) (k := k) (w := 3) (by decide))
    rw [e]
    exact ⟨_, _, rfl, in1 r h⟩
  · obtain ⟨q, eq, hq⟩ := c5 _ _ (takeV_mod (xs := xs) (k := k) (w := 5) (by decide)) (takeV_mod (xs := xs) (k := k + 1) (w := 2) (by decide))
    obtain ⟨r, e, h⟩ := c3 _ (takeV_mod (xs := xs) (k := k + 2) (w := 3) (by decide))
    rw [eq]
    dsimp only
    rw [e]
    exact ⟨_, _, rfl, in2 r h q hq⟩
theorem turn_ok {xs : List Int} {pt : R} (np : Nm pt) (bp : B 3 pt) {k : Nat} (hk : k ≤ 60) : ∃ k' f, TurnOk xs pt k k' f ∧ k' ≤ k + 9 ∧ Gd f := by
  obtain ⟨top, k1, h1, ht⟩ : ∃ top k1, topS xs k = some (top, k1) ∧ top ∈ topsAll := by
    unfold topS
    split
    · obtain ⟨p, k1, e, h⟩ := row_ok (xs := xs) (k + 2) (takeV xs (k + 1) 2).toNat
      exact ⟨p, k1, e, List.mem_cons_of_mem _ h⟩
    · exact ⟨[], k + 1, rfl, List.mem_cons_self⟩
  obtain ⟨bottom, k', h2, hb⟩ := row_ok (xs := xs) (k1 + 1) (takeV xs k1 2).toNat
  have l1 := topS_le h1
  have l2 := rowS_le h2
  have hp := pair_ok ht hb
  unfold pairB at hp
  split at hp
  · cases hp
  · rename_i _ f ef
    simp only [Bool.and_eq_true, Bool.or_eq_true, decide_eq_true_eq] at hp
    have g := gd_of (good_of hp.1)
    obtain ⟨b1, b2, b3, b4⟩ := row_of hb
    have t : PB 3 top ∧ Tr top ∧ top.length ≤ 2 := by
      rcases List.mem_cons.mp ht with rfl | ht
      · exact ⟨PB.nil, fun q => by simp at q, by simp⟩
      · obtain ⟨t1, t2, _, t4⟩ := row_of ht
        exact ⟨t1, t2, t4⟩
    exact ⟨k', f, ⟨by lia, top, k1, bottom, h1, h2, ef, one_of np bp g.fr g.one t.1 b1 t.2.1 b2 b3 t.2.2 b4 ef hp.2⟩, by lia, g⟩
theorem law_ok {xs : List Int} (hx : xs.length ≤ 100) : LawOk xs := by
  obtain ⟨pt, ept, hpt⟩ : ∃ pt, ratM (takeV xs 0 7 - 3) (1 + takeV xs 1 2) = some pt ∧ pt ∈ ptsAll := by
    have m1 := takeV_mod (xs := xs) (k := 0) (w := 7) (by decide)
    have m2 := takeV_mod (xs := xs) (k := 1) (w := 2) (by decide)
    generalize takeV xs 0 7 = a at *
    generalize takeV xs 1 2 = b at *
    have h1 : a = 0 ∨ a = 1 ∨ a = 2 ∨ a = 3 ∨ a = 4 ∨ a = 5 ∨ a = 6 := by lia
    have h2 : b = 0 ∨ b = 1 := by lia
    rcases h1 with rfl | rfl | rfl | rfl | rfl | rfl | rfl <;> rcases h2 with rfl | rfl <;> exact ⟨_, rfl, by decide +kernel⟩
  have tx := List.all_eq_true.mp pts_ok pt hpt
  unfold textB at tx
  simp only [Bool.and_eq_true, decide_eq_true_eq] at tx
  obtain ⟨⟨⟨⟨x1, x2⟩, x3⟩, x4⟩, x5⟩ := tx
  obtain ⟨np, bp⟩ := nmB_ok x1
  obtain ⟨k1, f1, t1, l1, g1⟩ := turn_ok (xs := xs) np bp (k := 2) (by decide)
  obtain ⟨k2, f2, t2, l2, g2⟩ := turn_ok (xs := xs) np bp (k := k1) (by lia)
  obtain ⟨k3, f3, t3, l3, g3⟩ := turn_ok (xs := xs) np bp (k := k2) (by lia)
  have val : ∀ {f : F}, Gd f → ∃ v, fatM f pt = some v := fun {f} g => by
    obtain ⟨a, b⟩ := fatF (frB_ok g.fr) np bp (by decide)
    by_cases q : ew f.2 (V pt) = 0
    · exact ⟨_, a q⟩
    · obtain ⟨v, e, _⟩ := b q
      exact ⟨_, e⟩
  obtain ⟨v1, e1⟩ := val g1
  obtain ⟨v2, e2⟩ := val g2
  obtain ⟨v3, e3⟩ := val g3
  refine ⟨hx, pt, k1, k2, k3, f1, f2, f3, v1, v2, v3, ept, ⟨x2, x3, x4, x5⟩, t1, t2, t3, by lia, e1, e2, e3, fun a b c ha hb hc => ?_, fun b hb => ?_⟩
  · subst ha; subst hb; subst hc
    exact sum_ok (frB_ok g1.fr) (frB_ok g2.fr) (frB_ok g3.fr) g1.z np bp e1 e2 e3
  · subst hb
    exact comp_ok (frB_ok g1.fr) (frB_ok g2.fr) g2.zg g1.za np bp e2
end Mine

end -- PK
section -- PL
open PySem PySem.W PyProof.Rows PySem.Calls
set_option maxRecDepth 100000
set_option linter.unusedVariables false
set_option linter.unusedSectionVars false
namespace Mine

theorem topCall {G : GC} {m : Nat} {name : Str} {params : Arguments} {body : List Stmt} {sc : Scope} {ds : List D} {d : D} {ρ' : St} (gl : Gl G) (hd : DefIs G name params body sc) (ok : ScOk sc) (po : ParamsOk params sc)
    (hb : ∀ pm cd doc vs, vs.length = ds.length → bindArgs (docDef name params body sc pm cd doc) ⟨vs, []⟩ = pure ((params.args.map (·.arg)).zip vs))
    (hl : params.args.length = ds.length) (pad : Nat) (x : ES G m sc (ini ds pad) body (.ret d) ρ') {A : Around} (hh : A.handled = Option.none) (hdep : A.depth + m + 122 < recursionLimit) (hfr : ∃ fl, A.frames = some fl) (hun : A.units + 8 * m + 108 < cLine) :
    ∃ f, G.mg name = some (.ref f) ∧ ∀ (M : AS) s vs Q E, (∀ b o, G.h.get? b = some o → s.heap.get? b = some o) → (∀ a, M a → Live s.heap a ∧ G.h.get? a = Option.none) → RelL s.heap M ds vs →
      (∀ v h' t, (∀ b o, s.heap.get? b = some o → h'.get? b = some o) → Rel h' M d v → Q v { s with heap := h', toks := t }) →
      wpAny (model G.prog G.w) A (call (.ref f) vs) Q E s := by
  obtain ⟨a, o, pm, code, doc, h1, h2, h3, h4⟩ := hd
  exact ⟨a, h1, fun M s vs Q E top hM hr hQ => callCore0 gl h2 h3 h4 ok po (hb pm code doc vs) hl pad x hh (by lia) hfr hun top hM hr hQ⟩

noncomputable def liveM (h : Heap) : AS := fun a => h.get? a = Option.none
mutual
theorem relB_ok {K : Frag} {h : Heap} (X : K.In h) : ∀ (d : D) (v : Value), relB K d v = true → Rel h (liveM h) d v
  | .none, v, e => by unfold relB at e; exact beq_iff_eq.mp e
  | .bool b, v, e => by unfold relB at e; exact beq_iff_eq.mp e
  | .int i, v, e => by
    unfold relB at e
    split at e
    · rename_i j t; exact ⟨t, by rw [of_decide_eq_true e]⟩
    · cases e
  | .str s, v, e => by
    unfold relB at e
    split at e
    · rename_i j t; exact ⟨t, by rw [beq_iff_eq.mp e]⟩
    · cases e
  | .tup ds, v, e => by
    unfold relB at e
    split at e
    · rename_i a
      split at e
      · rename_i T vs n sl hK
        simp only [Bool.and_eq_true, beq_iff_eq] at e
        obtain ⟨⟨rfl, hsl⟩, e⟩ := e
        have hsl : sl = #[] := by simpa using hsl
        subst hsl
        have hg := X _ _ hK
        exact ⟨a, vs.toList, n, rfl, by rw [hg], (fun q => by unfold liveM at q; rw [hg] at q; cases q), relBL_ok X ds vs.toList e⟩
      · cases e
    · cases e
  | .lst ds, v, e => by
    unfold relB at e
    split at e
    · rename_i a
      split at e
      · rename_i T vs n sl hK
        simp only [Bool.and_eq_true, beq_iff_eq] at e
        obtain ⟨⟨rfl, hsl⟩, e⟩ := e
        have hsl : sl = #[] := by simpa using hsl
        subst hsl
        have hg := X _ _ hK
        exact ⟨a, vs.toList, n, rfl, by rw [hg], (fun q => by unfold liveM at q; rw [hg] at q; cases q), relBL_ok X ds vs.toList e⟩
      · cases e
    · cases e
theorem relBL_ok {K : Frag} {h : Heap} (X : K.In h) : ∀ (ds : List D) (vs : List Value), relBL K ds vs = true → RelL h (liveM h) ds vs
  | [], vs, e => by unfold relBL at e; exact List.isEmpty_iff.mp e
  | d :: ds, vs, e => by
    unfold relBL at e
    split at e
    · simp only [Bool.and_eq_true] at e
      exact ⟨_, _, rfl, relB_ok X d _ e.1, relBL_ok X ds _ e.2⟩
    · cases e
end
theorem constB_ok {K : Frag} {G : GC} (X : K.In G.h) (g : G.h.Ns mainGlobals G.mg) {y : Str} {d : D} (e : constB K y d = true) : ConstIs G y d := fun _ => by
  unfold constB at e
  split at e
  · rename_i v h
    exact ⟨v, mg_of X g h, relB_ok X d v e⟩
  · cases e
theorem freeB_ok {K : Frag} {h : Heap} {mg : Str → Option Value} (X : K.In h) (g : h.Ns mainGlobals mg) {y : Str} (e : freeB K y = true) : mg y = Option.none := by
  unfold freeB at e
  split at e
  · rename_i h; exact mg_none_of X g h
  · cases e
theorem defs_of {q : Program} {G : GC} (fn : ∀ d ∈ recsOf q, ∃ a o pm code doc, G.mg d.name = some (.ref a) ∧ G.h.get? a = some o ∧ o.data = .func (docDef d.name d.params d.body d.scope pm code doc) ∧ G.h.CodeRec code d.name)
    (c : (recsOf q).map (fun d => (d.name, d.params, d.body, d.scope)) = funs) : HasDefs G := fun i hi => by
  have hm : defAt i ∈ PySem.Challenge.pw_pq0200_01.main.body := by
    unfold defAt at hi ⊢
    cases q : PySem.Challenge.pw_pq0200_01.main.body[i]? with
    | none => rw [q] at hi; exact absurd rfl hi
    | some st => exact List.mem_of_getElem? q
  have hf : (nameOf (defAt i), paramsOf (defAt i), bodyOf (defAt i), scopeOf (defAt i)) ∈ funs := by
    unfold funs
    refine List.mem_filterMap.mpr ⟨defAt i, hm, ?_⟩
    generalize defAt i = st at hi
    cases st <;> first | rfl | exact absurd rfl hi
  rw [← c] at hf
  obtain ⟨d, hd, e⟩ := List.mem_map.mp hf
  obtain ⟨a, o, pm, code, doc, h1, h2, h3, h4⟩ := fn d hd
  simp only [Prod.mk.injEq] at e
  obtain ⟨e1, e2, e3, e4⟩ := e
  rw [← e1, ← e2, ← e3, ← e4]
  exact ⟨a, o, pm, code, doc, h1, h2, h3, h4⟩
theorem well_ints {P : Params} {h : Heap} {M : AS} {a : Addr} (na : ¬ M a) : ∀ {ns : List Int}, Well P h (.ref a) (ofPy (.list (ns.map .int))) → ∃ vs, h.get? a = some (seqObj "list" vs 0) ∧ RelL h M (ns.map D.int) vs := fun {ns} w => by
  have key : ∀ (ns : List Int) (vs : List Value), WellAll P h vs (ofPys (ns.map .int)) → RelL h M (ns.map D.int) vs := by
    intro ns
    induction ns with
    | nil => intro vs w; cases w; rfl
    | cons n ns ih =>
      intro vs w
      cases w with
      | cons w1 w2 =>
        cases w1 with
        | int i t => exact ⟨_, _, rfl, ⟨t, rfl⟩, ih _ w2⟩
  cases w with
  | list e w => exact ⟨_, e, key ns _ w⟩
end Mine

end -- PL
section -- PN
open PySem PySem.W PyProof.Rows PySem.Calls
set_option maxRecDepth 100000
set_option linter.unusedVariables false
set_option linter.unusedSectionVars false
namespace Mine
theorem keysLit_of {P : Params} : ∀ {es : List DictEntry} {xs : List Str}, keysB es xs = true → es.map (·.hash) = xs.map (PyData.keyHash P) → KeysLit P es
  | [], [], _, _ => trivial
  | e :: es, x :: xs, k, m => by
    unfold keysB at k
    rw [Bool.and_eq_true] at k
    simp only [List.map_cons, List.cons.injEq] at m
    refine ⟨?_, keysLit_of k.2 m.2⟩
    obtain ⟨k, -⟩ := k
    split at k
    · rename_i y t h; exact ⟨y, t, h, by rw [m.1, beq_iff_eq.mp k]⟩
    · cases k
  | [], _ :: _, k, _ => nomatch k
  | _ :: _, [], k, _ => nomatch k
theorem ranks_of {K : Frag} {P : Params} (e : ranksB K = true) (m : ranksH K = rankNames.map (PyData.keyHash P)) :
    ∃ a es n, nsIn K mainGlobals "RANKS" = some (some (.ref a)) ∧ K.lookup a = some ⟨.type "dict", Option.none, .dict es n, #[]⟩ ∧ KeysLit P es.toList ∧ ∀ p ∈ ranksL, ∃ t, nsIn K a p.1 = some (some (.int p.2 t)) := by
  unfold ranksB at e
  unfold ranksH at m
  split at e
  · rename_i a ha
    rw [ha] at m
    dsimp only at m
    split at e
    · rename_i T es n sl hk
      rw [hk] at m
      dsimp only at m
      simp only [Bool.and_eq_true, beq_iff_eq] at e
      obtain ⟨⟨⟨rfl, hsl⟩, kb⟩, al⟩ := e
      have hsl : sl = #[] := by simpa using hsl
      subst hsl
      refine ⟨a, es, n, ha, hk, keysLit_of kb m, fun p hp => ?_⟩
      have := List.all_eq_true.mp al p hp
      split at this
      · rename_i i t h; exact ⟨t, by rw [h, of_decide_eq_true this]⟩
      · cases this
    · cases e
  · cases e
theorem fin_walk (q : Program) (loose : List Str) (lv : List (Str × WData)) (dr : DefRec) (kwd : List (Str × Expr))
    (c1 : (recsOf q).map (fun d => (d.name, d.params, d.body, d.scope)) = funs) (c4 : importsNone q = true)
    (hn : dr.name = Str.ofString "law") : WalkO q loose (XL q lv) topHook.says PySem.Challenge.rw_pq0200_01.row.toRowW dr kwd fun f vs => PySem.call f vs := by
  intro w s₀ s₁ mg mb GR Y a o pm cd doc dV kV h1 h2 h3 h4 h5 h6 args vals as hpre hlay hrd hwl has
  obtain ⟨K, X, tb, rh⟩ : ∃ K : Frag, K.In s₁.heap ∧ topB K = true ∧ ranksH K = rankNames.map (PyData.keyHash w.params) := Y
  have T := GR.T
  unfold topB at tb
  rw [Bool.and_eq_true, Bool.and_eq_true] at tb
  obtain ⟨⟨c2, c3⟩, c5⟩ := tb
  have gl : Gl ⟨PySem.Challenge.pw_pq0200_01, w, s₁.heap, mg, mb⟩ := ⟨T.g, T.b, T.builtins, T.nolimit, fun f hf => freeB_ok X T.g (List.all_eq_true.mp c2 f hf), T.seer c4, rfl⟩
  have cst : ∀ x ∈ constsL, ConstIs ⟨PySem.Challenge.pw_pq0200_01, w, s₁.heap, mg, mb⟩ x.1 x.2 := fun x hx => constB_ok (G := ⟨PySem.Challenge.pw_pq0200_01, w, s₁.heap, mg, mb⟩) X T.g (List.all_eq_true.mp c3 x hx)
  have at' : ∀ {x : Str × D} (i : Nat), constsL[i]? = some x → ConstIs ⟨PySem.Challenge.pw_pq0200_01, w, s₁.heap, mg, mb⟩ x.1 x.2 := fun i h => cst _ (List.mem_of_getElem? h)
  have tops : Tops ⟨PySem.Challenge.pw_pq0200_01, w, s₁.heap, mg, mb⟩ := ⟨defs_of T.fn c1, at' 0 rfl, at' 1 rfl, at' 2 rfl, at' 3 rfl, at' 4 rfl, at' 5 rfl, at' 6 rfl, at' 7 rfl, at' 8 rfl, at' 9 rfl, fun _ => by
    obtain ⟨ra, es, n, e1, e2, e3, e4⟩ := ranks_of c5 rh
    refine ⟨ra, _, mg_of X T.g e1, mapOf_K X e2 e3, fun p hp => ?_⟩
    obtain ⟨t, e5⟩ := e4 p hp
    exact ⟨t, find_K e2 e5⟩⟩
  have hp : ConstIs ⟨PySem.Challenge.pw_pq0200_01, w, s₁.heap, mg, mb⟩ "PIECE" (.int 4000) := at' 10 rfl
  clear GR h4 h3 h2 h1 c1 c2 c3 c4 c5
  wrow_args hpre hlay hrd hwl has
  rename_i ns _ _ _ _ _ _ _ sa _ _ _ _ hw _ _ _ hlen _
  have hy : ns.length ≤ 63 := by lia
  obtain ⟨ρ', x⟩ := es_law tops hp hy (law_ok (by rw [List.length_take]; lia))
  have hb : ∀ pm cd doc (vs : List Value), vs.length = [D.lst (ns.map D.int)].length → bindArgs (docDef (nameOf (defAt 121)) (paramsOf (defAt 121)) (bodyOf (defAt 121)) (scAt 121) pm cd doc) ⟨vs, []⟩ = pure (((paramsOf (defAt 121)).args.map (·.arg)).zip vs) := by
    intro pm cd doc vs h
    rcases vs with _ | ⟨v1, _ | ⟨_, _⟩⟩ <;> first | rfl | (simp at h)
  obtain ⟨f, hf, H⟩ := topCall gl (tops.defs 121 (by decide +kernel)) (ScOk.of (by decide +kernel)) (ParamsOk.of (by decide +kernel)) hb rfl 15 x (A := callerA) rfl (by decide +kernel) ⟨_, rfl⟩ (by decide +kernel)
  have hfa : f = a := by
    have e : mg dr.name = some (.ref f) := by rw [hn]; exact hf
    rw [e] at h5; cases h5; rfl
  subst hfa
  obtain ⟨us, eu, ru⟩ := well_ints (M := fun _ => False) (fun q => q) hw
  refine H (fun _ => False) s₁ [.ref sa] _ _ (fun _ _ e => e) (fun _ q => q.elim) ⟨_, [], rfl, ⟨sa, us, 0, rfl, eu, fun q => q, ru⟩, rfl⟩ fun v h' t k r => ?_
  have hv : v = .bool true := r
  subst hv
  refine ⟨.inl ⟨_, .bool true, [], rfl, fun _ => rfl, .bool true, ?_, fun _ => ⟨List.nodup_nil, fun a h => nomatch h⟩⟩, .of_keep k, rfl, ?_⟩
  · first | rfl | wrow_post
  · exact .of_eq h6
end Mine

end -- PN
section -- QM
open PySem PySem.W PyProof.Rows PySem.Calls
set_option maxRecDepth 100000
set_option maxHeartbeats 8000000
namespace Mine
theorem seen_of {q : Program} {s : Shared} (h0 : ownsOf q = []) (h1 : ((recsOf q).map (·.name)).map (s.heap.shapeAt mainGlobals) = (recsOf q).map fun d => some d.shape) (h2 : s.heap.isNs mainGlobals = true) (h3 : s.heap.isNs builtinsNs = true) (h4 : (s.heap.noLimitOk && s.heap.noDigitsOk) = true) :
    seen ((recsOf q).map (·.name)) (ownsOf q) [] { s with gens := #[] } = expectedOf q := by
  rw [h0]
  unfold seen expectedOf
  show Seen.mk (((recsOf q).map (·.name)).map (s.heap.shapeAt mainGlobals)) true [] (s.heap.isNs mainGlobals) (s.heap.isNs builtinsNs) (s.heap.noLimitOk && s.heap.noDigitsOk) 0 = _
  rw [h1, h2, h3, h4]
theorem lookC_of {s : Shared} (h : (wlitsOf pv).all (constAt s.heap) = true) : lookC pv pl s = (pinGoodD (drecsOf pv), plainGoodE pv (looseW pv pl), plainGoodD pv pl, wideGood pv, clsGoodW pv pl) := by
  unfold lookC pinSeenD pinGoodD plainSeenE plainGoodE plainSeenD plainGoodD wideSeen wideGood clsSeenW clsGoodW
  rw [nil1, nil2, nil3, nil4, nil5, h]
  rfl
theorem tabs_of {s : Shared} (h1 : ((recsOf pv).take 46).all (fun d => s.heap.tab0Ok d.name) = true) (h2 : ((recsOf pv).drop 46).all (fun d => s.heap.tab0Ok d.name) = true) (h3 : (s.heap.bmainOk && valsOk pv s.heap && s.heap.noSeerOk) = true) : tabsOk pv s = true := by
  simp only [Bool.and_eq_true] at h3
  have h : (recsOf pv).all (fun d => s.heap.tab0Ok d.name) = true := by
    rw [← List.take_append_drop 46 (recsOf pv), List.all_append, h1, h2]; rfl
  unfold tabsOk
  rw [h, h3.1.1, h3.1.2, h3.2, Bool.or_true]
  rfl
theorem run_all (w : World) (os : OsState) : ∃ t, topW PySem.Challenge.pw_pq0200_01 3600 w.params w os = some t ∧ lookA pv t.abs = (expectedOf pv, bltViewBooted) ∧
    lookB pv pl (importedModules PySem.Challenge.pw_pq0200_01.main.body) pX t.abs = (true, true) ∧ lookC pv pl t.abs = (pinGoodD (drecsOf pv), plainGoodE pv (looseW pv pl), plainGoodD pv pl, wideGood pv, clsGoodW pv pl) ∧
    lookD (importedModules PySem.Challenge.pw_pq0200_01.main.body) (boot_heap w.params) t.abs PySem.Challenge.pw_pq0200_01 = true ∧ Hook.obs topHook t.abs = Hook.val topHook w := by
  obtain ⟨t, ht, hD⟩ := Option.map_eq_some_iff.mp (runA1 w os)
  have at' : ∀ {α : Type} {f : SharedT → α} {y : α}, (topW PySem.Challenge.pw_pq0200_01 3600 w.params (w.withFollow row0 false) os).map f = some y → f t = y := fun {α f y} h => by
    rw [ht] at h
    exact Option.some.inj h
  have hB1 := at' (runB1 w os)
  have hB2 := at' (runB2 w os)
  have hC2 := at' (runC w os)
  have hT := tabs_of (s := t.abs) (congrArg (fun x => x.2.2.2) hB2) (at' (runT w os)) (congrArg Prod.fst hC2)
  simp only [Prod.mk.injEq] at hB2 hD
  have hN := hB2.2.2.1
  simp only [Bool.and_eq_true] at hN
  have hS : ((recsOf pv).map (·.name)).map (t.abs.heap.shapeAt mainGlobals) = (recsOf pv).map fun d => some d.shape := by
    rw [← List.take_append_drop 46 ((recsOf pv).map (·.name)), List.map_append, hD.1, at' (runA2 w os), List.take_append_drop]
  have hA : lookA pv t.abs = (expectedOf pv, bltViewBooted) := Prod.ext (seen_of nil6 hS hN.1.1.1.1.2 hN.1.1.1.2 hB2.2.1) hB2.1
  have hC := lookC_of (s := t.abs) (congrArg Prod.snd hC2)
  have hB : lookB pv pl (importedModules PySem.Challenge.pw_pq0200_01.main.body) pX t.abs = (true, true) := by
    unfold lookB
    rw [hT, hB1]
    rw [Bool.true_and]
    rw [hB2.2.2.1]
  have H : ∀ b, topW PySem.Challenge.pw_pq0200_01 3600 w.params (w.withFollow row0 b) os = some t := fun b => by
    cases b
    · exact ht
    · exact (runE w os).trans ht
  have e := H (w.params.followText row0)
  rw [World.withFollow_self] at e
  exact ⟨t, e, hA, hB, hC, hD.2.1, hD.2.2⟩
theorem hl : LeftO PySem.Challenge.pw_pq0200_01 pv pl pX topHook.obs topHook.val 7300 := left_T rfl (fun _ => rfl) (by decide) (by decide) run_all
end Mine
theorem PySem.Challenge.cw_pq0200_01_holds : PySem.Challenge.rw_pq0200_01.Holds := by
  refine holds_law Mine.said0 fun said => ?_
  refine holds_open (q := Mine.pv) (loose := Mine.pl) (Xt := Mine.pX) (XP := XL Mine.pv Mine.plv) (Yf := Mine.topHook.obs) (Ya := Mine.topHook.val) (YP := Mine.topHook.says) (N := 7300) Mine.hl Mine.topHook.of Mine.topHook.keeps (fun s e => xl_of s (Bool.and_eq_true_iff.mp e).1) XL.keeps (by rfl) (by rfl) (by rfl) (fun s e => recFacts_of (Bool.and_eq_true_iff.mp e).2) (by rfl) said Mine.ok0 Mine.bare0 Mine.prom0 (Mine.fin_walk _ _ _ _ _ Mine.funs0 Mine.imp0 rfl)

end -- QM
