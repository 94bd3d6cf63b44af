import PyProof.Rows.All
import HandS.Text
import Wide.All
import OpenK.AllK
import Wide.FinOn
import HandS.ForMost
import HandS.Walk
import HandS.Zip
import HandS.IsInst
import HandS.Deep
import HandS.Style
import HandS.WideBits
import HandS.TupAny
import KE.GoesEnum
import KE.GoesMore
import HandS.Wide
import KE.KTupSum
import HandS.Strs
import HandS.DictComp
import KE.KDictPairs
import HandS.Defaults
import KE.DataCmp
import KE.KDictWalk
import PyProof.ReprRoads
import PyProof.ReprLen
import HandS.TupMul
import HandS.TryOnly
import KE.KSortTupG
import KE.KDictSum
import HandS.WordsExc
import HandS.Small
import HandS.ExcInit
import HandS.HotCalls
import HandS.ExcIs
import HandS.ExcField
import KE.KExcIs
import HandS.ExcCtx
import HandS.Hot
import HandS.MakeKwOnly
import HandS.ExcInitHot
import KE.KTryMore
import HandS.Lambda
import HandS.EndTab
import KE.KNestM
import KE.KExcInit
import HandS.Flow
import HandS.Head0
import HandS.Head1
import HandS.Head2
import HandS.HeadHook4
import HandS.FStr
import KE.KFmtOwn
import HandS.Sort
import HandS.Conv
import HandS.OwnEq
import PyProof.InstNe
import HandS.ExcOwn
import PyProof.FactsAll.int
import PyProof.FactsAll.bool
import PyProof.FactsAll.str
import PyProof.FactsAll.NoneType
import PyProof.FactsAll.list
import PyProof.FactsAll.tuple
import PyProof.FactsAll.dict
import PyProof.FactsAll.subtypes
import PyProof.NeKinds
import PyProof.Rows.Range3
import PyProof.Conv_bool
import KE.KDictKeyed
import KE.KDictDisplayH
import HandS.TupLen
import KE.SortCalls
import KE.SortData
import KE.DataMinMax
import HandS.More
import HandS.Dict
import PyProof.CollectIter
import PyProof.WalksMore
import HandS.ExcValue
import KE.KDictZip
import KE.GoesZip
import HandS.HeadHook3
import HandS.DictTup
import HandS.ListItems
import HandS.ReplaceLit
import PyProof.StrLawsOcc
import PyProof.TupleOps
import HandS.Set
import HandS.SetFor
import HandS.TupSets
import PyProof.ReprText
import PySem.Challenge.RW_sincerung_k51_weights_of_any_kind
set_option Elab.async false
set_option linter.all false
set_option maxRecDepth 100000
section
set_option maxHeartbeats 2000000
namespace Kx
open PySem PySem.Spec PyProof.Rows L2
/-! ### what the head's one run tells, by names -/
abbrev FX := PySem.W.Frag → Bool
def fxOk (fs : List (List FX)) (K : PySem.W.Frag) : Bool := fs.all fun l => l.all fun f => f K
theorem fx_at {fs : List (List FX)} {K : PySem.W.Frag} (h : fxOk fs K = true) (i j : Nat) {l : List FX} {f : FX} (e : fs[i]? = some l) (e2 : l[j]? = some f) : f K = true :=
  List.all_eq_true.mp (List.all_eq_true.mp h l (List.mem_of_getElem? e)) f (List.mem_of_getElem? e2)
theorem def_at {fn : List He.DefD} {K : PySem.W.Frag} (D : fn.map (fun d => He.fnW K d.at_) = fn.map He.DefD.val) (i : Nat) {d : He.DefD} (h : fn[i]? = some d) : He.fnW K d.at_ = d.val := by
  have e : (fn.map fun d => He.fnW K d.at_)[i]? = (fn.map He.DefD.val)[i]? := by rw [D]
  rw [List.getElem?_map, List.getElem?_map, h] at e
  exact Option.some.inj e
def fInt (x : Str) (i : Int) : FX := fun K => match PySem.W.nsIn K mainGlobals x with
  | some (some (.int j _)) => decide (j = i)
  | _ => false
theorem fInt_ok {K : PySem.W.Frag} {x : Str} {i : Int} (h : fInt x i K = true) : ∃ t, PySem.W.nsIn K mainGlobals x = some (some (.int i t)) := by
  unfold fInt at h
  split at h
  · next j t e => exact ⟨t, by rw [e, of_decide_eq_true h]⟩
  · cases h
def fStr (x z : Str) : FX := fun K => match PySem.W.nsIn K mainGlobals x with
  | some (some (.str y _)) => decide (y = z)
  | _ => false
theorem fStr_ok {K : PySem.W.Frag} {x z : Str} (h : fStr x z K = true) : ∃ t, PySem.W.nsIn K mainGlobals x = some (some (.str z t)) := by
  unfold fStr at h
  split at h
  · next j t e => exact ⟨t, by rw [e, of_decide_eq_true h]⟩
  · cases h
/-- a def's function object: its code's name, no defaults -/
def fDef (p : He.Defn) (q : Str) : FX := fun K => match K.lookup (He.fAd K p) with
  | some ⟨_, _, .func fd, _⟩ => PySem.W.codeIn K fd.code q && (match fd.defaults with
    | .none => true
    | _ => false)
  | _ => false
theorem fDef_ok {K : PySem.W.Frag} {p : He.Defn} {q nm qn : Str} {ar : Arguments} {bd : List Stmt} {sc : Scope} (e : He.fnW K p = some (nm, qn, ar, .stmts bd, sc, mainGlobals, [], builtinsNs)) (h : fDef p q K = true) :
    ∃ oc od sl kV dc pm an cd ct, K.lookup (He.fAd K p) = some ⟨oc, od, .func (PySem.W.fnOf nm qn ar bd sc .none kV dc pm an cd ct), sl⟩ ∧ PySem.W.codeIn K cd q = true := by
  unfold fDef at h
  unfold He.fnW at e
  split at h
  · next oc od fd sl e1 =>
    rw [e1] at e
    obtain ⟨n1, n2, n3, n4, n5, n6, n7, n8, n9, n10, n11, n12, n13, n14, n15⟩ := fd
    obtain ⟨h1, h2⟩ := Bool.and_eq_true_iff.mp h
    have e2 : (some (n1, n2, n3, n4, n5, n6, n7, n15) : He.FnW) = some (nm, qn, ar, .stmts bd, sc, mainGlobals, [], builtinsNs) := e
    simp only [Option.some.injEq, Prod.mk.injEq] at e2
    obtain ⟨g1, g2, g3, g4, g5, g6, g7, g8⟩ := e2
    subst g1 g2 g3 g4 g5 g6 g7 g8
    dsimp only at h1 h2
    have h3 : n8 = .none := by
      split at h2
      · rfl
      · cases h2
    subst h3
    exact ⟨oc, od, sl, n9, n10, n11, n12, n13, n14, e1, h1⟩
  · cases h
def fDef1 (p : He.Defn) (q : Str) : FX := fun K => match K.lookup (He.fAd K p) with
  | some ⟨_, _, .func fd, _⟩ => PySem.W.codeIn K fd.code q && (match fd.defaults with
    | .ref T => (match K.lookup T with
      | some ⟨_, _, .seq its _, _⟩ => (match its.toList with
        | [.ref _] => true
        | _ => false)
      | _ => false)
    | _ => false)
  | _ => false
theorem fDef1_ok {K : PySem.W.Frag} {p : He.Defn} {q nm qn : Str} {ar : Arguments} {bd : List Stmt} {sc : Scope} (e : He.fnW K p = some (nm, qn, ar, .stmts bd, sc, mainGlobals, [], builtinsNs)) (h : fDef1 p q K = true) :
    ∃ oc od sl kV dc pm an cd ct T E cc dt nt st, K.lookup (He.fAd K p) = some ⟨oc, od, .func (PySem.W.fnOf nm qn ar bd sc (.ref T) kV dc pm an cd ct), sl⟩ ∧ PySem.W.codeIn K cd q = true ∧ K.lookup T = some ⟨cc, dt, .seq #[.ref E] nt, st⟩ ∧ E = He.dflAt p 0 K := by
  unfold fDef1 at h
  unfold He.fnW at e
  split at h
  · next oc od fd sl e1 =>
    rw [e1] at e
    obtain ⟨n1, n2, n3, n4, n5, n6, n7, n8, n9, n10, n11, n12, n13, n14, n15⟩ := fd
    obtain ⟨h1, h2⟩ := Bool.and_eq_true_iff.mp h
    have e2 : (some (n1, n2, n3, n4, n5, n6, n7, n15) : He.FnW) = some (nm, qn, ar, .stmts bd, sc, mainGlobals, [], builtinsNs) := e
    simp only [Option.some.injEq, Prod.mk.injEq] at e2
    obtain ⟨g1, g2, g3, g4, g5, g6, g7, g8⟩ := e2
    subst g1 g2 g3 g4 g5 g6 g7 g8
    dsimp only at h1 h2
    split at h2
    · next T =>
      split at h2
      · next cc dt its nt st e3 =>
        split at h2
        · next E e4 =>
          obtain ⟨l⟩ := its
          dsimp only at e4
          subst e4
          refine ⟨oc, od, sl, n9, n10, n11, n12, n13, n14, T, E, cc, dt, nt, st, e1, h1, e3, ?_⟩
          unfold He.dflAt
          rw [e1]
          dsimp only
          rw [e3]
          rfl
        · cases h2
      · cases h2
    · cases h2
  · cases h
/-! ### the Hook: what the module's names reach, and the statics -/
/-- the unseen ones of a list (the mask's bits are the seen ones), each once, and the mask behind them -/
def freshY : List Addr → Nat → Nat × List Addr
  | [], m => (m, [])
  | a :: r, m => bif Nat.beq (Nat.land (Nat.shiftRight m a) 1) 1 then freshY r m else
    match freshY r (Nat.lor m (Nat.shiftLeft 1 a)) with
    | (m2, l) => (m2, a :: l)
def refsY (g : Addr → Option Obj) (a : Addr) : List Addr := match g a with
  | some o => He.refsD o
  | none => []
/-- what these reach in n steps, nearest first -/
def reachY (g : Addr → Option Obj) : Nat → List Addr → Nat → List Addr
  | 0, fr, _ => fr
  | n + 1, fr, m => match freshY (fr.flatMap (refsY g)) m with
    | (m2, l) => fr ++ reachY g n l m2
def asY (g : Addr → Option Obj) (n : Nat) : List Addr := cStatics :: reachY g n [mainGlobals] (Nat.shiftLeft 1 mainGlobals)
abbrev frY (g : Addr → Option Obj) (n : Nat) : PySem.W.Frag := He.frT g (asY g n)
def obsY (n : Nat) (fn : List He.DefD) (ts : List He.Tab) (tf : List He.Defn) (ex : FX) (g : Addr → Option Obj) : He.AlX := (fun K => (He.obsT [] fn ts K, ex K && He.tabsB g tf K)) (frY g n)
theorem saysY_of {n : Nat} {fn : List He.DefD} {ts : List He.Tab} {tf : List He.Defn} {ex : FX} {w : World} {h : Heap} (e : obsY n fn ts tf ex h.get? = He.valX fn ts w) : He.SaysX [] fn ts tf ex w h (frY h.get? n) := by
  have e1 : He.obsT [] fn ts (frY h.get? n) = He.valT fn ts w := congrArg (fun z : He.AlX => z.1) e
  have e2 : (ex (frY h.get? n) && He.tabsB h.get? tf (frY h.get? n)) = true := congrArg (fun z : He.AlX => z.2) e
  obtain ⟨h1, h2⟩ := Bool.and_eq_true_iff.mp e2
  have key : ∀ p ∈ tf, PySem.W.codeHdIn (frY h.get? n) (He.cT (frY h.get? n) p).1 (He.cT (frY h.get? n) p).2 = true ∧ ∃ o, h.get? (He.cT (frY h.get? n) p).2 = some o ∧ He.emptyTab o = true := fun p hp => by
    obtain ⟨h3, h4⟩ := Bool.and_eq_true_iff.mp (List.all_eq_true.mp h2 p hp)
    refine ⟨h3, ?_⟩
    cases q : h.get? (He.cT (frY h.get? n) p).2 with
    | none =>
      rw [q] at h4
      cases h4
    | some o =>
      rw [q] at h4
      exact ⟨o, rfl, h4⟩
  exact ⟨e1, h1, fun p hp => (key p hp).1, fun p hp => by
    obtain ⟨_, o, q, z⟩ := key p hp
    exact He.frT_none q z, fun p hp => by
    obtain ⟨_, o, q, z⟩ := key p hp
    rw [q, He.emptyTab_eq z]⟩
def hookY (n : Nat) (fn : List He.DefD) (ts : List He.Tab) (tf : List He.Defn) (ex : FX) : PySem.W.Hook where
  α := He.AlX
  obs := fun s => obsY n fn ts tf ex s.heap.get?
  val := fun w => He.valX fn ts w
  says := fun w h => ∃ K : PySem.W.Frag, K.In h ∧ He.SaysX [] fn ts tf ex w h K
  of := fun _ _ e => ⟨_, He.frT_in, saysY_of e⟩
  keeps := fun _ _ _ ⟨K, hK, c⟩ k => ⟨K, PySem.W.Frag.In.keeps hK k, ⟨c.t, c.more, c.hd, c.out, fun p hp => k _ _ (c.empty p hp)⟩⟩
theorem obsY_eq {n : Nat} {fn : List He.DefD} {ts : List He.Tab} {tf : List He.Defn} {ex : FX} {g : Addr → Option Obj} {s : Shared} (h : ∀ a, g a = s.heap.get? a) : obsY n fn ts tf ex g = (hookY n fn ts tf ex).obs s := by
  have e : g = s.heap.get? := funext h
  rw [e] <;> rfl
/-- the run in two halves: each half's run is told by itself -/
def runA (r : PySem.W.OpenRow) (q : Program) (fn : List He.DefD) (ts : List He.Tab) (ob : PySem.W.SharedT → He.AlX) (M : Nat) (loose : List Str) (w : World) : Prop :=
  ∀ os : OsState, Option.map (fun s => (HandSHeadRun.looksF r.prog (PySem.W.boot_heap w.params) s.abs, HandSHeadRun.seenQ q loose (importedModules r.prog.main.body) (fun s => PySem.W.xlAt q [] s && PySem.W.recOk r.records s) s.abs, (ob s).1)) (HandSHeadRun.endF (HandSHeadRun.stepQ (HandSHeadRun.denQ HandSHeadRun.tabQ) r.prog w) M r.prog w os) = some (true, PySem.W.openGood q loose, (He.valX fn ts w).1)
def runB (r : PySem.W.OpenRow) (fn : List He.DefD) (ts : List He.Tab) (ob : PySem.W.SharedT → He.AlX) (M : Nat) (w : World) : Prop :=
  ∀ os : OsState, Option.map (fun s => (ob s).2) (HandSHeadRun.endF (HandSHeadRun.stepQ (HandSHeadRun.denQ HandSHeadRun.tabQ) r.prog w) M r.prog w os) = some (He.valX fn ts w).2
theorem runAB {r : PySem.W.OpenRow} {q : Program} {n : Nat} {fn : List He.DefD} {ts : List He.Tab} {tf : List He.Defn} {ex : FX} {ob : PySem.W.SharedT → He.AlX} {M : Nat} {loose : List Str} {w : World}
    (A : runA r q fn ts ob M loose w) (B : runB r fn ts ob M w) : HandSHeadRun.RunEq r q (hookY n fn ts tf ex) ob M loose w := by
  intro os
  have a := A os
  have b := B os
  show Option.map (fun s => (HandSHeadRun.looksF r.prog (PySem.W.boot_heap w.params) s.abs, HandSHeadRun.seenQ q loose (importedModules r.prog.main.body) (fun s => PySem.W.xlAt q [] s && PySem.W.recOk r.records s) s.abs, (ob s : He.AlX))) _ = some (true, PySem.W.openGood q loose, (He.valX fn ts w : He.AlX))
  generalize HandSHeadRun.endF (HandSHeadRun.stepQ (HandSHeadRun.denQ HandSHeadRun.tabQ) r.prog w) M r.prog w os = e at a b ⊢
  cases e with
  | none => cases a
  | some s =>
    simp only [Option.map_some, Option.some.injEq, Prod.mk.injEq] at a b ⊢
    exact ⟨a.1, a.2.1, Prod.ext a.2.2 b⟩
/-- the Bools' run in parts: each part's run is told by itself -/
def runC (r : PySem.W.OpenRow) (b : PySem.W.SharedT → Bool) (M : Nat) (w : World) : Prop :=
  ∀ os : OsState, Option.map b (HandSHeadRun.endF (HandSHeadRun.stepQ (HandSHeadRun.denQ HandSHeadRun.tabQ) r.prog w) M r.prog w os) = some true
theorem runCC {r : PySem.W.OpenRow} {b c d : PySem.W.SharedT → Bool} {M : Nat} {w : World} (hb : ∀ s, b s = (c s && d s)) (C : runC r c M w) (D : runC r d M w) : runC r b M w := by
  intro os
  have x := C os
  have y := D os
  generalize HandSHeadRun.endF (HandSHeadRun.stepQ (HandSHeadRun.denQ HandSHeadRun.tabQ) r.prog w) M r.prog w os = e at x y ⊢
  cases e with
  | none => cases x
  | some s =>
    simp only [Option.map_some, Option.some.injEq] at x y ⊢
    rw [hb, x, y]
    rfl
theorem runCB {r : PySem.W.OpenRow} {fn : List He.DefD} {ts : List He.Tab} {ob : PySem.W.SharedT → He.AlX} {b : PySem.W.SharedT → Bool} {M : Nat} {w : World} (hb : ∀ s, (ob s).2 = b s) (C : runC r b M w) : runB r fn ts ob M w := by
  intro os
  have x := C os
  generalize HandSHeadRun.endF (HandSHeadRun.stepQ (HandSHeadRun.denQ HandSHeadRun.tabQ) r.prog w) M r.prog w os = e at x ⊢
  cases e with
  | none => cases x
  | some s =>
    simp only [Option.map_some, Option.some.injEq] at x ⊢
    rw [hb, x]
    rfl
/-- a part of the Bools -/
def obB (n : Nat) (xs : List (List FX)) (s : PySem.W.SharedT) : Bool := fxOk xs (frY (HandSHeadRun.getT s) n)
def obBT (n : Nat) (xs : List (List FX)) (tf : List He.Defn) (s : PySem.W.SharedT) : Bool := fxOk xs (frY (HandSHeadRun.getT s) n) && He.tabsB (HandSHeadRun.getT s) tf (frY (HandSHeadRun.getT s) n)
theorem obBT_cut {n : Nat} {xs ys : List (List FX)} {tf : List He.Defn} (s : PySem.W.SharedT) : obBT n (xs ++ ys) tf s = (obB n xs s && obBT n ys tf s) := by
  unfold obBT obB fxOk
  rw [List.all_append, Bool.and_assoc]
end Kx
end
section
set_option maxHeartbeats 2000000
namespace Kx
open PySem PySem.Spec PyProof.Rows L2
/-! ### facts of the head: a tuple of texts of the module, keyword-only defaults -/
end Kx
namespace Kx
open PySem PySem.Spec PyProof.Rows L2
end Kx
end
section
set_option maxHeartbeats 4000000
namespace H51
open PySem L2 Kx
def topS (i : Nat) : Stmt := PySem.Challenge.pw_sincerung_k51_weights_of_any_kind.main.body.getD i (.Pass ⟨0, 0, 0, 0⟩)
abbrev s_is_whole : Stmt := topS 19
abbrev s_is_within : Stmt := topS 20
abbrev s_is_name : Stmt := topS 21
abbrev s_is_bell : Stmt := topS 23
abbrev s_check_bells : Stmt := topS 24
abbrev s_is_notch : Stmt := topS 25
abbrev s_check_notches : Stmt := topS 26
abbrev s_Peal___init__ : Stmt := inClass (topS 27) 0
abbrev s_check_peal : Stmt := topS 28
abbrev s_check_name : Stmt := topS 29
abbrev s_Peal_names : Stmt := inClass (topS 27) 1
abbrev s_Peal_notch : Stmt := inClass (topS 27) 3
abbrev s_ahead_in : Stmt := topS 32
abbrev s_dials_of : Stmt := topS 33
abbrev s_swing_of : Stmt := topS 34
abbrev s_twos : Stmt := topS 35
abbrev s_swings : Stmt := topS 36
abbrev s_shared : Stmt := topS 11
abbrev s_common : Stmt := topS 38
abbrev s_all_marks : Stmt := topS 40
abbrev s_comes_whole : Stmt := topS 41
abbrev s_are_weights : Stmt := topS 42
abbrev s_is_weights : Stmt := topS 43
abbrev s__law_opened : Stmt := topS 45
abbrev s__law_pull : Stmt := topS 46
abbrev s__law_spelt : Stmt := topS 47
abbrev s__law_calls : Stmt := topS 48
abbrev s__law_figure : Stmt := topS 49
abbrev s__law_kit : Stmt := topS 50
abbrev s__law_table : Stmt := topS 51
abbrev s__law_twos : Stmt := topS 52
abbrev s__law_made : Stmt := topS 53
abbrev s__law_shared : Stmt := topS 55
abbrev s__law_keeps : Stmt := topS 56
abbrev s__law_plain : Stmt := topS 58
abbrev s__law_whole : Stmt := topS 54
abbrev s__law_all : Stmt := topS 57
abbrev s__law_due : Stmt := topS 59
abbrev s__law_odd : Stmt := topS 60
abbrev s__law_told_right : Stmt := topS 61
abbrev s__law_none_right : Stmt := topS 62
abbrev s__law_great_right : Stmt := topS 63
abbrev s__law_right : Stmt := topS 64
abbrev s_law : Stmt := topS 65
def fx0 : FX := fDef ("is_whole", none) "is_whole"
def fx1 : FX := fDef ("is_within", none) "is_within"
def fx2 : FX := fDef ("is_name", none) "is_name"
def fx3 : FX := fDef ("is_bell", none) "is_bell"
def fx4 : FX := fDef ("check_bells", none) "check_bells"
def fx5 : FX := fDef ("is_notch", none) "is_notch"
def fx6 : FX := fDef ("check_notches", none) "check_notches"
def fx7 : FX := fDef1 ("Peal", some "__init__") "Peal.__init__"
def fx8 : FX := fDef ("check_peal", none) "check_peal"
def fx9 : FX := fDef ("check_name", none) "check_name"
def fx10 : FX := fDef ("Peal", some "names") "Peal.names"
def fx11 : FX := fDef ("Peal", some "notch") "Peal.notch"
def fx12 : FX := fDef ("ahead_in", none) "ahead_in"
def fx13 : FX := fDef ("dials_of", none) "dials_of"
def fx14 : FX := fDef ("swing_of", none) "swing_of"
def fx15 : FX := fDef ("twos", none) "twos"
def fx16 : FX := fDef ("swings", none) "swings"
def fx17 : FX := fDef ("shared", none) "shared"
def fx18 : FX := fDef ("common", none) "common"
def fx19 : FX := fDef ("all_marks", none) "all_marks"
def fx20 : FX := fDef ("comes_whole", none) "comes_whole"
def fx21 : FX := fDef ("are_weights", none) "are_weights"
def fx22 : FX := fDef ("is_weights", none) "is_weights"
def fx23 : FX := fDef ("_law_opened", none) "_law_opened"
def fx24 : FX := fDef ("_law_pull", none) "_law_pull"
def fx25 : FX := fDef ("_law_spelt", none) "_law_spelt"
def fx26 : FX := fDef ("_law_calls", none) "_law_calls"
def fx27 : FX := fDef ("_law_figure", none) "_law_figure"
def fx28 : FX := fDef ("_law_kit", none) "_law_kit"
def fx29 : FX := fDef ("_law_table", none) "_law_table"
def fx30 : FX := fDef ("_law_twos", none) "_law_twos"
def fx31 : FX := fDef ("_law_made", none) "_law_made"
def fx32 : FX := fDef ("_law_shared", none) "_law_shared"
def fx33 : FX := fDef ("_law_keeps", none) "_law_keeps"
def fx34 : FX := fDef ("_law_plain", none) "_law_plain"
def fx35 : FX := fDef ("_law_whole", none) "_law_whole"
def fx36 : FX := fDef ("_law_all", none) "_law_all"
def fx37 : FX := fDef ("_law_due", none) "_law_due"
def fx38 : FX := fDef ("_law_odd", none) "_law_odd"
def fx39 : FX := fDef ("_law_told_right", none) "_law_told_right"
def fx40 : FX := fDef ("_law_none_right", none) "_law_none_right"
def fx41 : FX := fDef ("_law_great_right", none) "_law_great_right"
def fx42 : FX := fDef ("_law_right", none) "_law_right"
def fx43 : FX := fDef ("law", none) "law"
def fx44 : FX := fun K => He.eqO (PySem.W.nsIn K mainGlobals "Peal") (some (some (.ref (He.ga K "Peal"))))
def fx45 : FX := fun K => PySem.W.plainGet K (He.ga K "Peal") Str.empty
def fx46 : FX := fun K => PySem.W.hasDictIn K (He.ga K "Peal")
def fx47 : FX := fun K => PySem.W.plainOver K (He.ga K "Peal")
def fx48 : FX := fun K => He.eqO (PySem.W.findIn K (.ref (He.ga K "Peal")) "__setattr__") (some (some (.builtin "object.__setattr__")))
def fx49 : FX := fun K => PySem.W.makesIn K (He.ga K "Peal")
def fx50 : FX := fun K => PySem.W.keepIn K (.ref (He.ga K "Peal"))
def fx51 : FX := fun K => He.eqO (PySem.W.findIn K (.ref (He.ga K "Peal")) "__class__") (some (some (.builtin "object.__class__")))
def fx52 : FX := fun K => He.eqO (PySem.W.specialIn K (.builtin "object.__class__") "__get__") (some (some (.builtin "getset_descriptor.__get__")))
def fx53 : FX := fun K => decide (PySem.W.takesIn K (.builtin "object.__class__") = some true)
def fx54 : FX := fun K => decide (PySem.W.mroIn K (He.ga K "Peal") (.type "object") = some true)
def fx55 : FX := fun K => decide (PySem.W.mroIn K (He.ga K "Peal") (.type "tuple") = some false)
def fx56 : FX := fun K => decide (PySem.W.mroIn K (He.ga K "Peal") (.type "int") = some false)
def fx57 : FX := fun K => decide (PySem.W.mroIn K (He.ga K "Peal") (.type "bool") = some false)
def fx58 : FX := fun K => decide (PySem.W.mroIn K (He.ga K "Peal") (.type "str") = some false)
def fx59 : FX := fun K => decide (PySem.W.mroIn K (He.ga K "Peal") (.type "list") = some false)
def fx60 : FX := fun K => He.eqO (PySem.W.findIn K (.ref (He.ga K "Peal")) "bells") (some none)
def fx61 : FX := fun K => He.eqO (PySem.W.findIn K (.ref (He.ga K "Peal")) "notches") (some none)
def fx62 : FX := fun K => He.eqO (PySem.W.findIn K (.ref (He.ga K "Peal")) "sizes") (some none)
def fx63 : FX := fun K => He.eqO (PySem.W.findIn K (.ref (He.ga K "Peal")) "turning") (some none)
def fx64 : FX := fun K => PySem.W.isClsIn K (He.ga K "Peal")
def fx65 : FX := fun K => decide (PySem.W.typeIn K (.ref (He.ga K "Peal")) = some (.type "type"))
def fx66 : FX := fun K => He.eqO (PySem.W.nsIn K mainGlobals "BellError") (some (some (.ref (He.ga K "BellError"))))
def fx67 : FX := fun K => He.eqO (PySem.W.nsIn K mainGlobals "NoPeal") (some (some (.ref (He.ga K "NoPeal"))))
def fx68 : FX := fun K => He.eqO (PySem.W.nsIn K mainGlobals "NoWeights") (some (some (.ref (He.ga K "NoWeights"))))
def fx69 : FX := fun K => decide (PySem.W.subIn K (.ref (He.ga K "BellError")) (.type "BaseException") = some true)
def fx70 : FX := fun K => PySem.W.hasDictIn K (He.ga K "BellError")
def fx71 : FX := fun K => decide (PySem.W.typeIn K (.ref (He.ga K "BellError")) = some (.type "type"))
def fx72 : FX := fun K => decide (PySem.W.subIn K (.ref (He.ga K "NoPeal")) (.ref (He.ga K "BellError")) = some true)
def fx73 : FX := fun K => He.eqO (PySem.W.findIn K (.ref (He.ga K "NoPeal")) "__getattribute__") (some (some (.builtin "BaseException.__getattribute__")))
def fx74 : FX := fun K => He.eqO (PySem.W.findIn K (.ref (He.ga K "NoPeal")) "__getattr__") (some none)
def fx75 : FX := fun K => decide (PySem.W.subIn K (.ref (He.ga K "NoPeal")) (.type "BaseException") = some true)
def fx76 : FX := fun K => PySem.W.hasDictIn K (He.ga K "NoPeal")
def fx77 : FX := fun K => He.eqO (PySem.W.findIn K (.ref (He.ga K "NoPeal")) "__class__") (some (some (.builtin "object.__class__")))
def fx78 : FX := fun K => He.eqO (PySem.W.specialIn K (.builtin "object.__class__") "__get__") (some (some (.builtin "getset_descriptor.__get__")))
def fx79 : FX := fun K => decide (PySem.W.takesIn K (.builtin "object.__class__") = some true)
def fx80 : FX := fun K => decide (PySem.W.mroIn K (He.ga K "NoPeal") (.type "object") = some true)
def fx81 : FX := fun K => PySem.W.isClsIn K (He.ga K "NoWeights")
def fx82 : FX := fun K => decide (PySem.W.typeIn K (.ref (He.ga K "NoWeights")) = some (.type "type"))
def fx83 : FX := fun K => decide (PySem.W.subIn K (.ref (He.ga K "NoPeal")) (.ref (He.ga K "NoPeal")) = some true)
def fx84 : FX := fun K => decide (PySem.W.subIn K (.ref (He.ga K "NoPeal")) (.ref (He.ga K "NoWeights")) = some false)
def fx85 : FX := fun K => PySem.W.excIn K (He.ga K "NoPeal") [.type "ValueError", .type "Exception", .type "BaseException", .type "object"] "ValueError.__new__"
def fx86 : FX := fun K => PySem.W.keepIn K (.ref (He.ga K "NoPeal"))
def fx87 : FX := fun K => decide (PySem.W.typeIn K (.ref (He.ga K "NoPeal")) = some (.type "type"))
def fx88 : FX := fun K => He.eqO (PySem.W.nsIn K mainGlobals "is_whole") (some (some (.ref (He.fAd K ("is_whole", none)))))
def fx89 : FX := fun K => PySem.W.keepIn K (.ref (He.fAd K ("is_whole", none)))
def fx90 : FX := fun K => He.eqO (PySem.W.nsIn K mainGlobals "is_within") (some (some (.ref (He.fAd K ("is_within", none)))))
def fx91 : FX := fun K => PySem.W.keepIn K (.ref (He.fAd K ("is_within", none)))
def fx92 : FX := fun K => He.eqO (PySem.W.nsIn K mainGlobals "is_name") (some (some (.ref (He.fAd K ("is_name", none)))))
def fx93 : FX := fun K => PySem.W.keepIn K (.ref (He.fAd K ("is_name", none)))
def fx94 : FX := fun K => He.eqO (PySem.W.nsIn K mainGlobals "is_bell") (some (some (.ref (He.fAd K ("is_bell", none)))))
def fx95 : FX := fun K => PySem.W.keepIn K (.ref (He.fAd K ("is_bell", none)))
def fx96 : FX := fun K => He.eqO (PySem.W.nsIn K mainGlobals "check_bells") (some (some (.ref (He.fAd K ("check_bells", none)))))
def fx97 : FX := fun K => PySem.W.keepIn K (.ref (He.fAd K ("check_bells", none)))
def fx98 : FX := fun K => He.eqO (PySem.W.nsIn K mainGlobals "is_notch") (some (some (.ref (He.fAd K ("is_notch", none)))))
def fx99 : FX := fun K => PySem.W.keepIn K (.ref (He.fAd K ("is_notch", none)))
def fx100 : FX := fun K => He.eqO (PySem.W.nsIn K mainGlobals "check_notches") (some (some (.ref (He.fAd K ("check_notches", none)))))
def fx101 : FX := fun K => PySem.W.keepIn K (.ref (He.fAd K ("check_notches", none)))
def fx102 : FX := fun K => He.eqO (PySem.W.findIn K (.ref (He.ga K "Peal")) "__init__") (some (some (.ref (He.fAd K ("Peal", some "__init__")))))
def fx103 : FX := fun K => PySem.W.isFn K (.ref (He.fAd K ("Peal", some "__init__")))
def fx104 : FX := fun K => PySem.W.keepIn K (.ref (He.fAd K ("Peal", some "__init__")))
def fx105 : FX := fun K => He.eqO (PySem.W.nsIn K mainGlobals "check_peal") (some (some (.ref (He.fAd K ("check_peal", none)))))
def fx106 : FX := fun K => PySem.W.keepIn K (.ref (He.fAd K ("check_peal", none)))
def fx107 : FX := fun K => He.eqO (PySem.W.nsIn K mainGlobals "check_name") (some (some (.ref (He.fAd K ("check_name", none)))))
def fx108 : FX := fun K => PySem.W.keepIn K (.ref (He.fAd K ("check_name", none)))
def fx109 : FX := fun K => He.eqO (PySem.W.findIn K (.ref (He.ga K "Peal")) "names") (some (some (.ref (He.fAd K ("Peal", some "names")))))
def fx110 : FX := fun K => PySem.W.isFn K (.ref (He.fAd K ("Peal", some "names")))
def fx111 : FX := fun K => PySem.W.keepIn K (.ref (He.fAd K ("Peal", some "names")))
def fx112 : FX := fun K => He.eqO (PySem.W.findIn K (.ref (He.ga K "Peal")) "notch") (some (some (.ref (He.fAd K ("Peal", some "notch")))))
def fx113 : FX := fun K => PySem.W.isFn K (.ref (He.fAd K ("Peal", some "notch")))
def fx114 : FX := fun K => PySem.W.keepIn K (.ref (He.fAd K ("Peal", some "notch")))
def fx115 : FX := fun K => He.eqO (PySem.W.nsIn K mainGlobals "ahead_in") (some (some (.ref (He.fAd K ("ahead_in", none)))))
def fx116 : FX := fun K => PySem.W.keepIn K (.ref (He.fAd K ("ahead_in", none)))
def fx117 : FX := fun K => He.eqO (PySem.W.nsIn K mainGlobals "dials_of") (some (some (.ref (He.fAd K ("dials_of", none)))))
def fx118 : FX := fun K => PySem.W.keepIn K (.ref (He.fAd K ("dials_of", none)))
def fx119 : FX := fun K => He.eqO (PySem.W.nsIn K mainGlobals "swing_of") (some (some (.ref (He.fAd K ("swing_of", none)))))
def fx120 : FX := fun K => PySem.W.keepIn K (.ref (He.fAd K ("swing_of", none)))
def fx121 : FX := fun K => He.eqO (PySem.W.nsIn K mainGlobals "twos") (some (some (.ref (He.fAd K ("twos", none)))))
def fx122 : FX := fun K => PySem.W.keepIn K (.ref (He.fAd K ("twos", none)))
def fx123 : FX := fun K => He.eqO (PySem.W.nsIn K mainGlobals "swings") (some (some (.ref (He.fAd K ("swings", none)))))
def fx124 : FX := fun K => PySem.W.keepIn K (.ref (He.fAd K ("swings", none)))
def fx125 : FX := fun K => He.eqO (PySem.W.nsIn K mainGlobals "shared") (some (some (.ref (He.fAd K ("shared", none)))))
def fx126 : FX := fun K => PySem.W.keepIn K (.ref (He.fAd K ("shared", none)))
def fx127 : FX := fun K => He.eqO (PySem.W.nsIn K mainGlobals "common") (some (some (.ref (He.fAd K ("common", none)))))
def fx128 : FX := fun K => PySem.W.keepIn K (.ref (He.fAd K ("common", none)))
def fx129 : FX := fun K => He.eqO (PySem.W.nsIn K mainGlobals "all_marks") (some (some (.ref (He.fAd K ("all_marks", none)))))
def fx130 : FX := fun K => PySem.W.keepIn K (.ref (He.fAd K ("all_marks", none)))
def fx131 : FX := fun K => He.eqO (PySem.W.nsIn K mainGlobals "comes_whole") (some (some (.ref (He.fAd K ("comes_whole", none)))))
def fx132 : FX := fun K => PySem.W.keepIn K (.ref (He.fAd K ("comes_whole", none)))
def fx133 : FX := fun K => He.eqO (PySem.W.nsIn K mainGlobals "are_weights") (some (some (.ref (He.fAd K ("are_weights", none)))))
def fx134 : FX := fun K => PySem.W.keepIn K (.ref (He.fAd K ("are_weights", none)))
def fx135 : FX := fun K => He.eqO (PySem.W.nsIn K mainGlobals "is_weights") (some (some (.ref (He.fAd K ("is_weights", none)))))
def fx136 : FX := fun K => PySem.W.keepIn K (.ref (He.fAd K ("is_weights", none)))
def fx137 : FX := fun K => He.eqO (PySem.W.nsIn K mainGlobals "_law_opened") (some (some (.ref (He.fAd K ("_law_opened", none)))))
def fx138 : FX := fun K => PySem.W.keepIn K (.ref (He.fAd K ("_law_opened", none)))
def fx139 : FX := fun K => He.eqO (PySem.W.nsIn K mainGlobals "_law_pull") (some (some (.ref (He.fAd K ("_law_pull", none)))))
def fx140 : FX := fun K => PySem.W.keepIn K (.ref (He.fAd K ("_law_pull", none)))
def fx141 : FX := fun K => He.eqO (PySem.W.nsIn K mainGlobals "_law_spelt") (some (some (.ref (He.fAd K ("_law_spelt", none)))))
def fx142 : FX := fun K => PySem.W.keepIn K (.ref (He.fAd K ("_law_spelt", none)))
def fx143 : FX := fun K => He.eqO (PySem.W.nsIn K mainGlobals "_law_calls") (some (some (.ref (He.fAd K ("_law_calls", none)))))
def fx144 : FX := fun K => PySem.W.keepIn K (.ref (He.fAd K ("_law_calls", none)))
def fx145 : FX := fun K => He.eqO (PySem.W.nsIn K mainGlobals "_law_figure") (some (some (.ref (He.fAd K ("_law_figure", none)))))
def fx146 : FX := fun K => PySem.W.keepIn K (.ref (He.fAd K ("_law_figure", none)))
def fx147 : FX := fun K => He.eqO (PySem.W.nsIn K mainGlobals "_law_kit") (some (some (.ref (He.fAd K ("_law_kit", none)))))
def fx148 : FX := fun K => PySem.W.keepIn K (.ref (He.fAd K ("_law_kit", none)))
def fx149 : FX := fun K => He.eqO (PySem.W.nsIn K mainGlobals "_law_table") (some (some (.ref (He.fAd K ("_law_table", none)))))
def fx150 : FX := fun K => PySem.W.keepIn K (.ref (He.fAd K ("_law_table", none)))
def fx151 : FX := fun K => He.eqO (PySem.W.nsIn K mainGlobals "_law_twos") (some (some (.ref (He.fAd K ("_law_twos", none)))))
def fx152 : FX := fun K => PySem.W.keepIn K (.ref (He.fAd K ("_law_twos", none)))
def fx153 : FX := fun K => He.eqO (PySem.W.nsIn K mainGlobals "_law_made") (some (some (.ref (He.fAd K ("_law_made", none)))))
def fx154 : FX := fun K => PySem.W.keepIn K (.ref (He.fAd K ("_law_made", none)))
def fx155 : FX := fun K => He.eqO (PySem.W.nsIn K mainGlobals "_law_shared") (some (some (.ref (He.fAd K ("_law_shared", none)))))
def fx156 : FX := fun K => PySem.W.keepIn K (.ref (He.fAd K ("_law_shared", none)))
def fx157 : FX := fun K => He.eqO (PySem.W.nsIn K mainGlobals "_law_keeps") (some (some (.ref (He.fAd K ("_law_keeps", none)))))
def fx158 : FX := fun K => PySem.W.keepIn K (.ref (He.fAd K ("_law_keeps", none)))
def fx159 : FX := fun K => He.eqO (PySem.W.nsIn K mainGlobals "_law_plain") (some (some (.ref (He.fAd K ("_law_plain", none)))))
def fx160 : FX := fun K => PySem.W.keepIn K (.ref (He.fAd K ("_law_plain", none)))
def fx161 : FX := fun K => He.eqO (PySem.W.nsIn K mainGlobals "_law_whole") (some (some (.ref (He.fAd K ("_law_whole", none)))))
def fx162 : FX := fun K => PySem.W.keepIn K (.ref (He.fAd K ("_law_whole", none)))
def fx163 : FX := fun K => He.eqO (PySem.W.nsIn K mainGlobals "_law_all") (some (some (.ref (He.fAd K ("_law_all", none)))))
def fx164 : FX := fun K => PySem.W.keepIn K (.ref (He.fAd K ("_law_all", none)))
def fx165 : FX := fun K => He.eqO (PySem.W.nsIn K mainGlobals "_law_due") (some (some (.ref (He.fAd K ("_law_due", none)))))
def fx166 : FX := fun K => PySem.W.keepIn K (.ref (He.fAd K ("_law_due", none)))
def fx167 : FX := fun K => He.eqO (PySem.W.nsIn K mainGlobals "_law_odd") (some (some (.ref (He.fAd K ("_law_odd", none)))))
def fx168 : FX := fun K => PySem.W.keepIn K (.ref (He.fAd K ("_law_odd", none)))
def fx169 : FX := fun K => He.eqO (PySem.W.nsIn K mainGlobals "_law_told_right") (some (some (.ref (He.fAd K ("_law_told_right", none)))))
def fx170 : FX := fun K => PySem.W.keepIn K (.ref (He.fAd K ("_law_told_right", none)))
def fx171 : FX := fun K => He.eqO (PySem.W.nsIn K mainGlobals "_law_none_right") (some (some (.ref (He.fAd K ("_law_none_right", none)))))
def fx172 : FX := fun K => PySem.W.keepIn K (.ref (He.fAd K ("_law_none_right", none)))
def fx173 : FX := fun K => He.eqO (PySem.W.nsIn K mainGlobals "_law_great_right") (some (some (.ref (He.fAd K ("_law_great_right", none)))))
def fx174 : FX := fun K => PySem.W.keepIn K (.ref (He.fAd K ("_law_great_right", none)))
def fx175 : FX := fun K => He.eqO (PySem.W.nsIn K mainGlobals "_law_right") (some (some (.ref (He.fAd K ("_law_right", none)))))
def fx176 : FX := fun K => PySem.W.keepIn K (.ref (He.fAd K ("_law_right", none)))
def fx177 : FX := fun K => He.eqO (PySem.W.nsIn K mainGlobals "law") (some (some (.ref (He.fAd K ("law", none)))))
def fx178 : FX := fun K => PySem.W.keepIn K (.ref (He.fAd K ("law", none)))
def fx179 : FX := fun K => He.eqO (PySem.W.nsIn K mainGlobals "int") (some none)
def fx180 : FX := fun K => He.eqO (PySem.W.nsIn K mainGlobals "isinstance") (some none)
def fx181 : FX := fun K => He.eqO (PySem.W.nsIn K mainGlobals "bool") (some none)
def fx182 : FX := fun K => He.eqO (PySem.W.nsIn K mainGlobals "str") (some none)
def fx183 : FX := fun K => He.eqO (PySem.W.nsIn K mainGlobals "len") (some none)
def fx184 : FX := fun K => He.eqO (PySem.W.nsIn K mainGlobals "all") (some none)
def fx185 : FX := fun K => He.eqO (PySem.W.nsIn K mainGlobals "tuple") (some none)
def fx186 : FX := fun K => He.eqO (PySem.W.nsIn K mainGlobals "enumerate") (some none)
def fx187 : FX := fun K => He.eqO (PySem.W.nsIn K mainGlobals "dict") (some none)
def fx188 : FX := fun K => He.eqO (PySem.W.nsIn K mainGlobals "zip") (some none)
def fx189 : FX := fun K => He.eqO (PySem.W.nsIn K mainGlobals "sum") (some none)
def fx190 : FX := fun K => He.eqO (PySem.W.nsIn K mainGlobals "abs") (some none)
def fx191 : FX := fun K => He.eqO (PySem.W.nsIn K mainGlobals "divmod") (some none)
def fx192 : FX := fun K => He.eqO (PySem.W.nsIn K mainGlobals "range") (some none)
def fx193 : FX := fun K => He.eqO (PySem.W.nsIn K mainGlobals "sorted") (some none)
def fx194 : FX := fun K => He.eqO (PySem.W.nsIn K mainGlobals "list") (some none)
def fx195 : FX := fun K => He.eqO (PySem.W.nsIn K mainGlobals "repr") (some none)
def fx196 : FX := fun K => He.eqO (PySem.W.nsIn K mainGlobals "min") (some none)
def fx197 : FX := fun K => He.eqO (PySem.W.nsIn K mainGlobals "max") (some none)
def fx198 : FX := fInt "MOST_LETTERS" (6)
def fx199 : FX := fStr "LETTERS" "abcdefghijklmnopqrstuvwxyz"
def fx200 : FX := fInt "LEAST_MARKS" (2)
def fx201 : FX := fInt "MOST_MARKS" (24)
def fx202 : FX := fInt "MOST_BELLS" (8)
def fx203 : FX := fInt "MOST_NUMBER" (99)
def hx0 : List FX := [fx0, fx1, fx2, fx3, fx4, fx5, fx6, fx7, fx8, fx9, fx10, fx11, fx12, fx13, fx14, fx15, fx16, fx17, fx18, fx19]
def hx1 : List FX := [fx20, fx21, fx22, fx23, fx24, fx25, fx26, fx27, fx28, fx29, fx30, fx31, fx32, fx33, fx34, fx35, fx36, fx37, fx38, fx39]
def hx2 : List FX := [fx40, fx41, fx42, fx43, fx44, fx45, fx46, fx47, fx48, fx49, fx50, fx51, fx52, fx53, fx54, fx55, fx56, fx57, fx58, fx59]
def hx3 : List FX := [fx60, fx61, fx62, fx63, fx64, fx65, fx66, fx67, fx68, fx69, fx70, fx71, fx72, fx73, fx74, fx75, fx76, fx77, fx78, fx79]
def hx4 : List FX := [fx80, fx81, fx82, fx83, fx84, fx85, fx86, fx87, fx88, fx89, fx90, fx91, fx92, fx93, fx94, fx95, fx96, fx97, fx98, fx99]
def hx5 : List FX := [fx100, fx101, fx102, fx103, fx104, fx105, fx106, fx107, fx108, fx109, fx110, fx111, fx112, fx113, fx114, fx115, fx116, fx117, fx118, fx119]
def hx6 : List FX := [fx120, fx121, fx122, fx123, fx124, fx125, fx126, fx127, fx128, fx129, fx130, fx131, fx132, fx133, fx134, fx135, fx136, fx137, fx138, fx139]
def hx7 : List FX := [fx140, fx141, fx142, fx143, fx144, fx145, fx146, fx147, fx148, fx149, fx150, fx151, fx152, fx153, fx154, fx155, fx156, fx157, fx158, fx159]
def hx8 : List FX := [fx160, fx161, fx162, fx163, fx164, fx165, fx166, fx167, fx168, fx169, fx170, fx171, fx172, fx173, fx174, fx175, fx176, fx177, fx178, fx179]
def hx9 : List FX := [fx180, fx181, fx182, fx183, fx184, fx185, fx186, fx187, fx188, fx189, fx190, fx191, fx192, fx193, fx194, fx195, fx196, fx197, fx198, fx199]
def hx10 : List FX := [fx200, fx201, fx202, fx203]
def hxs : List (List FX) := [hx0, hx1, hx2, hx3, hx4, hx5, hx6, hx7, hx8, hx9, hx10]
def hd0 : He.DefD := ⟨("is_whole", none), "is_whole", "is_whole", defArgs s_is_whole, defBody s_is_whole, defScope s_is_whole, [], []⟩
def hd1 : He.DefD := ⟨("is_within", none), "is_within", "is_within", defArgs s_is_within, defBody s_is_within, defScope s_is_within, [], []⟩
def hd2 : He.DefD := ⟨("is_name", none), "is_name", "is_name", defArgs s_is_name, defBody s_is_name, defScope s_is_name, [], []⟩
def hd3 : He.DefD := ⟨("is_bell", none), "is_bell", "is_bell", defArgs s_is_bell, defBody s_is_bell, defScope s_is_bell, [], []⟩
def hd4 : He.DefD := ⟨("check_bells", none), "check_bells", "check_bells", defArgs s_check_bells, defBody s_check_bells, defScope s_check_bells, [], []⟩
def hd5 : He.DefD := ⟨("is_notch", none), "is_notch", "is_notch", defArgs s_is_notch, defBody s_is_notch, defScope s_is_notch, [], []⟩
def hd6 : He.DefD := ⟨("check_notches", none), "check_notches", "check_notches", defArgs s_check_notches, defBody s_check_notches, defScope s_check_notches, [], []⟩
def hd7 : He.DefD := ⟨("Peal", some "__init__"), "__init__", "Peal.__init__", defArgs s_Peal___init__, defBody s_Peal___init__, defScope s_Peal___init__, [.adr (He.dflAt ("Peal", some "__init__") 0)], []⟩
def hd8 : He.DefD := ⟨("check_peal", none), "check_peal", "check_peal", defArgs s_check_peal, defBody s_check_peal, defScope s_check_peal, [], []⟩
def hd9 : He.DefD := ⟨("check_name", none), "check_name", "check_name", defArgs s_check_name, defBody s_check_name, defScope s_check_name, [], []⟩
def hd10 : He.DefD := ⟨("Peal", some "names"), "names", "Peal.names", defArgs s_Peal_names, defBody s_Peal_names, defScope s_Peal_names, [], []⟩
def hd11 : He.DefD := ⟨("Peal", some "notch"), "notch", "Peal.notch", defArgs s_Peal_notch, defBody s_Peal_notch, defScope s_Peal_notch, [], []⟩
def hd12 : He.DefD := ⟨("ahead_in", none), "ahead_in", "ahead_in", defArgs s_ahead_in, defBody s_ahead_in, defScope s_ahead_in, [], []⟩
def hd13 : He.DefD := ⟨("dials_of", none), "dials_of", "dials_of", defArgs s_dials_of, defBody s_dials_of, defScope s_dials_of, [], []⟩
def hd14 : He.DefD := ⟨("swing_of", none), "swing_of", "swing_of", defArgs s_swing_of, defBody s_swing_of, defScope s_swing_of, [], []⟩
def hd15 : He.DefD := ⟨("twos", none), "twos", "twos", defArgs s_twos, defBody s_twos, defScope s_twos, [], []⟩
def hd16 : He.DefD := ⟨("swings", none), "swings", "swings", defArgs s_swings, defBody s_swings, defScope s_swings, [], []⟩
def hd17 : He.DefD := ⟨("shared", none), "shared", "shared", defArgs s_shared, defBody s_shared, defScope s_shared, [], []⟩
def hd18 : He.DefD := ⟨("common", none), "common", "common", defArgs s_common, defBody s_common, defScope s_common, [], []⟩
def hd19 : He.DefD := ⟨("all_marks", none), "all_marks", "all_marks", defArgs s_all_marks, defBody s_all_marks, defScope s_all_marks, [], []⟩
def hd20 : He.DefD := ⟨("comes_whole", none), "comes_whole", "comes_whole", defArgs s_comes_whole, defBody s_comes_whole, defScope s_comes_whole, [], []⟩
def hd21 : He.DefD := ⟨("are_weights", none), "are_weights", "are_weights", defArgs s_are_weights, defBody s_are_weights, defScope s_are_weights, [], []⟩
def hd22 : He.DefD := ⟨("is_weights", none), "is_weights", "is_weights", defArgs s_is_weights, defBody s_is_weights, defScope s_is_weights, [], []⟩
def hd23 : He.DefD := ⟨("_law_opened", none), "_law_opened", "_law_opened", defArgs s__law_opened, defBody s__law_opened, defScope s__law_opened, [], []⟩
def hd24 : He.DefD := ⟨("_law_pull", none), "_law_pull", "_law_pull", defArgs s__law_pull, defBody s__law_pull, defScope s__law_pull, [], []⟩
def hd25 : He.DefD := ⟨("_law_spelt", none), "_law_spelt", "_law_spelt", defArgs s__law_spelt, defBody s__law_spelt, defScope s__law_spelt, [], []⟩
def hd26 : He.DefD := ⟨("_law_calls", none), "_law_calls", "_law_calls", defArgs s__law_calls, defBody s__law_calls, defScope s__law_calls, [], []⟩
def hd27 : He.DefD := ⟨("_law_figure", none), "_law_figure", "_law_figure", defArgs s__law_figure, defBody s__law_figure, defScope s__law_figure, [], []⟩
def hd28 : He.DefD := ⟨("_law_kit", none), "_law_kit", "_law_kit", defArgs s__law_kit, defBody s__law_kit, defScope s__law_kit, [], []⟩
def hd29 : He.DefD := ⟨("_law_table", none), "_law_table", "_law_table", defArgs s__law_table, defBody s__law_table, defScope s__law_table, [], []⟩
def hd30 : He.DefD := ⟨("_law_twos", none), "_law_twos", "_law_twos", defArgs s__law_twos, defBody s__law_twos, defScope s__law_twos, [], []⟩
def hd31 : He.DefD := ⟨("_law_made", none), "_law_made", "_law_made", defArgs s__law_made, defBody s__law_made, defScope s__law_made, [], []⟩
def hd32 : He.DefD := ⟨("_law_shared", none), "_law_shared", "_law_shared", defArgs s__law_shared, defBody s__law_shared, defScope s__law_shared, [], []⟩
def hd33 : He.DefD := ⟨("_law_keeps", none), "_law_keeps", "_law_keeps", defArgs s__law_keeps, defBody s__law_keeps, defScope s__law_keeps, [], []⟩
def hd34 : He.DefD := ⟨("_law_plain", none), "_law_plain", "_law_plain", defArgs s__law_plain, defBody s__law_plain, defScope s__law_plain, [], []⟩
def hd35 : He.DefD := ⟨("_law_whole", none), "_law_whole", "_law_whole", defArgs s__law_whole, defBody s__law_whole, defScope s__law_whole, [], []⟩
def hd36 : He.DefD := ⟨("_law_all", none), "_law_all", "_law_all", defArgs s__law_all, defBody s__law_all, defScope s__law_all, [], []⟩
def hd37 : He.DefD := ⟨("_law_due", none), "_law_due", "_law_due", defArgs s__law_due, defBody s__law_due, defScope s__law_due, [], []⟩
def hd38 : He.DefD := ⟨("_law_odd", none), "_law_odd", "_law_odd", defArgs s__law_odd, defBody s__law_odd, defScope s__law_odd, [], []⟩
def hd39 : He.DefD := ⟨("_law_told_right", none), "_law_told_right", "_law_told_right", defArgs s__law_told_right, defBody s__law_told_right, defScope s__law_told_right, [], []⟩
def hd40 : He.DefD := ⟨("_law_none_right", none), "_law_none_right", "_law_none_right", defArgs s__law_none_right, defBody s__law_none_right, defScope s__law_none_right, [], []⟩
def hd41 : He.DefD := ⟨("_law_great_right", none), "_law_great_right", "_law_great_right", defArgs s__law_great_right, defBody s__law_great_right, defScope s__law_great_right, [], []⟩
def hd42 : He.DefD := ⟨("_law_right", none), "_law_right", "_law_right", defArgs s__law_right, defBody s__law_right, defScope s__law_right, [], []⟩
def hd43 : He.DefD := ⟨("law", none), "law", "law", defArgs s_law, defBody s_law, defScope s_law, [], []⟩
def hfn0 : List He.DefD := [hd0, hd1, hd2, hd3, hd4, hd5, hd6, hd7, hd8, hd9, hd10, hd11, hd12, hd13, hd14, hd15, hd16, hd17, hd18, hd19]
def hfn1 : List He.DefD := [hd20, hd21, hd22, hd23, hd24, hd25, hd26, hd27, hd28, hd29, hd30, hd31, hd32, hd33, hd34, hd35, hd36, hd37, hd38, hd39]
def hfn2 : List He.DefD := [hd40, hd41, hd42, hd43]
abbrev hfn : List He.DefD := hfn0 ++ (hfn1 ++ (hfn2))
abbrev htf : List He.Defn := []
abbrev hts : List He.Tab := []
end H51
namespace H51
open PySem PySem.W PySem.Calls PyProof.Rows
abbrev hR : OpenRow := OpenLaw.row PySem.Challenge.rw_sincerung_k51_weights_of_any_kind
abbrev hqv : Program := view hR.prog [65]
def hn0 : List PySem.Str := ["_wall", "BellError", "LostError", "NoPeal", "NoBells", "NoNotches", "NoNumber", "NoWeights", "NoName", "shared", "MOST_BELLS", "MOST_LETTERS", "LEAST_MARKS", "MOST_MARKS", "MOST_NUMBER", "LETTERS", "is_whole", "is_within", "is_name", "is_bell"]
def hn1 : List PySem.Str := ["check_bells", "is_notch", "check_notches", "Peal", "check_peal", "check_name", "check_two", "ahead_in", "dials_of", "swing_of", "twos", "swings", "common", "all_marks", "comes_whole", "are_weights", "is_weights", "_law_opened", "_law_pull", "_law_spelt"]
def hn2 : List PySem.Str := ["_law_calls", "_law_figure", "_law_kit", "_law_table", "_law_twos", "_law_made", "_law_whole", "_law_shared", "_law_keeps", "_law_all", "_law_plain", "_law_due", "_law_odd", "_law_told_right", "_law_none_right", "_law_great_right", "_law_right"]
abbrev hnames : List PySem.Str := hn0 ++ hn1 ++ hn2
abbrev hhk : Hook := Kx.hookY 5 hfn hts htf (Kx.fxOk hxs)
def hob (s : SharedT) : He.AlX := Kx.obsY 5 hfn hts htf (Kx.fxOk hxs) (HandSHeadRun.getT s)
theorem hob_eq (s : SharedT) : hob s = hhk.obs s.abs := Kx.obsY_eq (HandSHeadRun.getT_eq s)
set_option maxHeartbeats 0 in
theorem hrunA (w : World) : Kx.runA hR hqv hfn hts hob 30000 hnames w := by
  intro os
  kernel_rfl
set_option maxHeartbeats 0 in
theorem hrunB0 (w : World) : Kx.runC hR (Kx.obB 5 [hx0, hx1, hx2]) 30000 w := by
  intro os
  kernel_rfl
set_option maxHeartbeats 0 in
theorem hrunB1 (w : World) : Kx.runC hR (Kx.obB 5 [hx3, hx4, hx5, hx6]) 30000 w := by
  intro os
  kernel_rfl
set_option maxHeartbeats 0 in
theorem hrunB2 (w : World) : Kx.runC hR (Kx.obBT 5 [hx7, hx8, hx9, hx10] htf) 30000 w := by
  intro os
  kernel_rfl
theorem hrunB (w : World) : Kx.runB hR hfn hts hob 30000 w := Kx.runCB (b := Kx.obBT 5 hxs htf) (fun _ => rfl) (Kx.runCC (b := Kx.obBT 5 ([hx0, hx1, hx2] ++ [hx3, hx4, hx5, hx6, hx7, hx8, hx9, hx10]) htf) Kx.obBT_cut (hrunB0 w) (Kx.runCC (b := Kx.obBT 5 ([hx3, hx4, hx5, hx6] ++ [hx7, hx8, hx9, hx10]) htf) Kx.obBT_cut (hrunB1 w) (hrunB2 w)))
theorem hrun (w : World) : HandSHeadRun.RunEq hR hqv hhk hob 30000 hnames w := Kx.runAB (hrunA w) (hrunB w)
end H51
end
section
set_option maxHeartbeats 2000000
namespace Kx
open PySem L2 PySem.Spec PyProof.Rows
/-! ### tuples whose object is known to have no dict of its own: the making rules once more -/
section
variable {X : Cx} {K : PySem.W.Frag}
theorem frz_ok {P : Program} {w : World} {H : Hp} {h : Heap} {xs : List V} {its : List Value} (hz : xs.length ≤ sizeLine) (r : Vals xs its) :
    ObjOk P w H (h.push { cls := .type "tuple", data := .seq its.toArray }) h.objs.size (.frz { cls := .type "tuple", data := .seq its.toArray } (.tup xs)) :=
  ⟨Heap.get?_push_size _ rfl, hz, its, r, ⟨_, Heap.get?_push_size _ rfl, rfl, _, rfl⟩⟩
def tTupF (t : TA) : TE := fun σ H Q => t σ H fun xs H1 => xs.length ≤ sizeLine ∧ ∀ p o, H1 p = none → o.dict = none → Q (.ref p) (upd H1 p (.frz o (.tup xs)))
theorem pe_tupF {es : List Expr} {t : TA} {pos : Pos} {x1} (h : PA X es t) : PE X (.Tuple es x1 pos) (tTupF t) := by
  refine ⟨fun pins s σ H Q I hq => ?_⟩
  refine wpAny_Tuple_spliced (thn (h.run pos pins s σ H _ I hq) fun us s1 ⟨xs, H1, I1, r, z, q⟩ => ⟨by rw [← r.length]; exact z, ?_⟩)
  exact ⟨.ref s1.heap.objs.size, _, I1.laid (t' := s1.toks) (fun b u e => Heap.get?_push_of_some _ e) (Nat.le_refl _) (frz_ok z r), rfl, q _ _ (I1.hok.fresh (Nat.le_refl _)) rfl⟩
def rTupOf (K : PySem.W.Frag) : List V → Hp → VK → Prop := fun xs H Q => ∃ p ys, xs = [.ref p] ∧ ((SqL K H p ys ∧ ∀ l o, H l = none → o.dict = none → Q (.ref l) (upd H l (.frz o (.tup ys)))) ∨ (SqT K H p ys ∧ Q (.ref p) H))
theorem cl_tupleF : CallR X (.type "tuple") (rTupOf X.K) := by
  intro pins s σ H xs us Q I r h
  obtain ⟨p, ys, rfl, h⟩ := h
  obtain ⟨u, rfl, rx⟩ := vals1 r
  cases rx
  rcases h with ⟨hq, q⟩ | ⟨hq, q⟩
  · obtain ⟨its, r1, pl, hz⟩ := I.list hq
    have hl := r1.length
    refine call_tuple_list pl.isList (fun h1 kp => ?_) (by simp only [List.size_toArray] <;> omega)
    have I1 : Inv X pins σ H { s with heap := h1 } := I.kept (t' := s.toks) kp
    exact ⟨.ref h1.objs.size, _, I1.laid (t' := s.toks) (fun b o e => Heap.get?_push_of_some _ e) (Nat.le_refl _) (frz_ok hz r1), rfl, q _ _ (I1.hok.fresh (Nat.le_refl _)) rfl⟩
  · obtain ⟨its, r1, pl, _⟩ := I.tuple hq
    exact call_tuple_same pl ⟨.ref p, H, I, rfl, q⟩
def rCatF (K : PySem.W.Frag) : R2 := fun x y H Q => ∃ a b xs ys, x = .ref a ∧ y = .ref b ∧ SqT K H a xs ∧ SqT K H b ys ∧ xs.length + ys.length ≤ sizeLine ∧
  (xs = [] → Q (.ref b) H) ∧ (xs ≠ [] → ys = [] → Q (.ref a) H) ∧ (xs ≠ [] → ys ≠ [] → ∀ p o, H p = none → o.dict = none → Q (.ref p) (upd H p (.frz o (.tup (xs ++ ys)))))
theorem op_catF : OpR X (binaryOp .Add) (rCatF X.K) := by
  intro pins s σ H x y v u Q I rx ry h
  obtain ⟨a, b, xs, ys, rfl, rfl, ha, hb, hz, q0, q1, q2⟩ := h
  by_cases hx : xs = []
  · exact op_catA pins s σ H _ _ v u Q I rx ry ⟨a, b, xs, ys, rfl, rfl, ha, hb, hz, q0, fun n => absurd hx n, fun n => absurd hx n⟩
  · cases rx
    cases ry
    obtain ⟨its, r1, p1, _⟩ := I.tuple ha
    obtain ⟨its2, r2, p2, _⟩ := I.tuple hb
    refine HT.cat_tup p1 p2 (fun z => hx (r1.nil_iff.mp z)) (fun z => ⟨.ref a, H, I, rfl, q1 hx (r2.nil_iff.mp z)⟩) (fun z => ?_) (by rw [← r1.length, ← r2.length]; exact hz)
    exact ⟨.ref s.heap.objs.size, _, I.laid (t' := s.toks) (fun b ob q => Heap.get?_push_of_some _ q) (Nat.le_refl _) (frz_ok (by rw [List.length_append]; exact hz) (r1.append r2)), rfl, q2 hx (fun w => z (r2.nil_iff.mpr w)) _ _ (I.hok.fresh (Nat.le_refl _)) rfl⟩
def rSlF (K : PySem.W.Frag) : V → Option Int → Option Int → Hp → VK → Prop := fun x lo hi H Q => ∃ a xs, x = .ref a ∧ SqT K H a xs ∧
  (HT.sIx xs.length 0 lo = 0 ∧ HT.sIx xs.length xs.length hi = xs.length → Q (.ref a) H) ∧ (¬ (HT.sIx xs.length 0 lo = 0 ∧ HT.sIx xs.length xs.length hi = xs.length) → ∀ p o, H p = none → o.dict = none → Q (.ref p) (upd H p (.frz o (.tup (cutV xs lo hi)))))
theorem sl_tupF : SlR X (rSlF X.K) := by
  intro pins s σ H x v vl vu lo hi sl Q I rx hs pl pu h
  obtain ⟨a, xs, rfl, hx, q1, q2⟩ := h
  by_cases hw : HT.sIx xs.length 0 lo = 0 ∧ HT.sIx xs.length xs.length hi = xs.length
  · exact sl_tupA pins s σ H _ v vl vu lo hi sl Q I rx hs pl pu ⟨a, xs, rfl, hx, q1, fun n => absurd hw n⟩
  · cases rx
    obtain ⟨its, r, ht, hz⟩ := I.tuple hx
    have hl : its.toArray.size = xs.length := by rw [List.size_toArray]; exact r.length.symm
    refine ⟨"tuple", _, PyProof.Rows.slot_tuple_getitem.lookup, ht.typeIs, ?_⟩
    refine HT.getItem_tuple_cut ht hs pl pu (by rw [hl]; exact hw) ?_ (by rw [hl]; exact hz)
    rw [hl]
    exact ⟨.ref s.heap.objs.size, _, I.laid (t' := s.toks) (fun b ob q => Heap.get?_push_of_some _ q) (Nat.le_refl _) (frz_ok (Nat.le_trans (cutV_length xs lo hi) hz) ((r.drop (HT.sIx xs.length 0 lo)).take (HT.sIx xs.length xs.length hi - HT.sIx xs.length 0 lo))), rfl, q2 hw _ _ (I.hok.fresh (Nat.le_refl _)) rfl⟩
/-- a tuple that is known to have no dict of its own -/
def TupG (K : PySem.W.Frag) (G : Hp) (a : Addr) (xs : List V) : Prop :=
  (∃ o, G a = some (.frz o (.tup xs)) ∧ o.dict = none) ∨ ∃ (o : Obj) (its : Array Value) (n : Nat), K.lookup a = some o ∧ o.cls = .type "tuple" ∧ o.dict = none ∧ o.data = .seq its n ∧ its.size ≤ sizeLine ∧ Vals xs its.toList
theorem TupG.sq {G : Hp} {a : Addr} {xs : List V} (h : TupG K G a xs) : SqT K G a xs := by
  rcases h with ⟨o, h, _⟩ | ⟨o, its, n, h1, h2, _, h4, h5, h6⟩
  · exact .inl (.inr ⟨o, h⟩)
  · exact .inr ⟨o, its, n, h1, h2, h4, h5, h6⟩
theorem TupG.up {G H : Hp} {a : Addr} {xs : List V} (s : Same G H) (h : TupG K G a xs) : TupG K H a xs := by
  rcases h with ⟨o, h, hd⟩ | h
  · exact .inl ⟨o, s _ _ h, hd⟩
  · exact .inr h
/-! the call of a method of such a tuple -/
end
end Kx
end
section
set_option maxHeartbeats 2000000
namespace Kx
open PySem L2
/-! dicts by tuples of tuples -/
def entN (w : World) (x : NestedKey × Addr × Value) : DictEntry := ⟨x.1.hash w, .ref x.2.1, x.2.2⟩
def EnR (p : NestedKey × Addr × V) (q : NestedKey × Addr × Value) : Prop := p.1 = q.1 ∧ p.2.1 = q.2.1 ∧ RelV p.2.2 q.2.2
/-- at a stands a dict of these entries -/
def dnP (w : World) (a : Addr) (es : List (NestedKey × Addr × V)) (h : Heap) : Prop :=
  es.length ≤ sizeLine ∧ (a == sysModules) = false ∧ ∃ xs : List (NestedKey × Addr × Value), Paired EnR es xs ∧
    ∃ o de ep, h.get? a = some o ∧ o.ExactDict ∧ o.data = .dict de ep ∧ de.toList = xs.map (entN w) ∧ (xs.map (·.1)).Nodup
def dnO (w : World) (a : Addr) (es : List (NestedKey × Addr × V)) : HO := .ext (dnP w a es)
def NDx (φ : Heap → Prop) : Prop := ∃ w a es, φ = dnP w a es
theorem codeO_nd {c : Addr} {q : Str} : ¬ NDx (fun h : Heap => ∃ (oc : Obj) (vs : Array Value) (t : Tok), h.get? c = some oc ∧ oc.data = .fields vs ∧ vs[1]? = some (.str q t)) := fun ⟨w, a, es, e⟩ => by
  let ob : Obj := ⟨.none, none, .fields #[.none, .str q 0], #[]⟩
  let h0 : Heap := { objs := Array.replicate (c + 1) ob }
  have hg : ∀ b o, h0.get? b = some o → o = ob := fun b o z => by
    unfold Heap.get? at z
    have hz : ∀ u, h0.objs[b]? = some u → u = ob := fun u hu => by
      rw [Array.getElem?_replicate] at hu
      split at hu
      · exact (Option.some.inj hu).symm
      · cases hu
    cases q2 : h0.objs[b]? with
    | none => rw [q2] at z; cases z
    | some u =>
      have e2 := hz u q2
      rw [q2, e2] at z
      exact (Option.some.inj z).symm
  have h1 : dnP w a es h0 := by
    rw [← e]
    refine ⟨ob, _, 0, ?_, rfl, rfl⟩
    unfold Heap.get?
    rw [show h0.objs[c]? = some ob from by rw [Array.getElem?_replicate, if_pos (Nat.lt_succ_self c)]]
  obtain ⟨_, _, xs, _, o, de, ep, h2, _, h3, _⟩ := h1
  rw [hg _ _ h2] at h3
  cases h3
/-! ### what is known: G stands still, M may be changed, both are tracked in H -/
/-- the tables of code objects that are looked after: each with the name that its code objects bear -/
class Tb where
  t : List (Addr × Str)
/-- no table, nothing of the model's own words -/
def Nt : HO → Prop
  | .tbl _ => False
  | .ext φ => NDx φ
  | _ => True
/-- what may be changed -/
def Mt : Option HO → Prop
  | some (.ext φ) => NDx φ
  | some (.lst _) => True
  | some (.dK _) => True
  | some (.dT _) => True
  | some (.ins _ _ _) => True
  | _ => False
theorem Mt.nt {o : HO} (h : Mt (some o)) : Nt o := by cases o <;> first | exact trivial | exact h | exact h.elim
/-- no table -/
def NoTbl : HO → Prop
  | .tbl _ => False
  | _ => True
theorem Nt.noTbl {o : HO} (h : Nt o) : NoTbl o := by cases o <;> first | exact trivial | exact h.elim
/-- the tables stand in H; none stands in G -/
structure TbG [T : Tb] (G H : Hp) : Prop where
  t : LamX.Tabs T.t H
  n : ∀ a o, G a = some o → NoTbl o
section
variable [Tb] {G H : Hp} {p : Addr} {o u : HO}
theorem tabs_at (h : TbG G H) (hp : ∀ u, H p = some u → Nt u) : LamX.Tabs Tb.t (upd H p o) := fun q hq => by
  obtain ⟨ps, h1, h2, h3⟩ := h.t q hq
  have ne : ∀ {a : Addr} {u : HO}, H a = some u → ¬ Nt u → a ≠ p := fun {a u} e n z => by
    subst z
    exact n (hp u e)
  refine ⟨ps, by rw [upd_ne (ne h1 id)]; exact h1, h2, fun pos cv hc => ?_⟩
  obtain ⟨c, e1, e2⟩ := h3 pos cv hc
  exact ⟨c, e1, by rw [upd_ne (ne e2 fun z => codeO_nd z)]; exact e2⟩
theorem no_upd (h : ∀ a o, G a = some o → NoTbl o) (ho : NoTbl o) : ∀ a u, (upd G p o) a = some u → NoTbl u := fun a u e => by
  by_cases ha : a = p
  · subst ha; rw [upd_same] at e; cases e; exact ho
  · rw [upd_ne ha] at e; exact h a u e
theorem tb_new (h : TbG G H) (hp : H p = none) : TbG G (upd H p o) := ⟨tabs_at h fun u e => (by rw [hp] at e; cases e), h.n⟩
theorem tb_newG (h : TbG G H) (hp : H p = none) (ho : NoTbl o) : TbG (upd G p o) (upd H p o) := ⟨tabs_at h fun u e => (by rw [hp] at e; cases e), no_upd h.n ho⟩
theorem tb_of (h : TbG G H) (hp : H p = some u) (n : Nt u) : TbG G (upd H p o) := ⟨tabs_at h fun v e => (by rw [hp] at e; cases e; exact n), h.n⟩
theorem tb_G (h : TbG G H) (ho : NoTbl o) : TbG (upd G p o) H := ⟨h.t, no_upd h.n ho⟩
end
structure Ok [Tb] (G M H : Hp) : Prop where
  g : Same G H
  m : Same M H
  d : ∀ a o, M a = some o → G a = none
  mu : ∀ a o, M a = some o → Mt (some o)
  tb : TbG G H
theorem Same.new {H : Hp} {p : Addr} {o : HO} (h : H p = none) : Same H (upd H p o) := fun a u e => by
  rw [upd_ne (ne_of_none e h)]
  exact e
theorem Same.none {G H : Hp} (s : Same G H) {p : Addr} (h : H p = none) : G p = none := s.free h
/-- a new object that stands still -/
theorem Ok.newG [Tb] {G M H : Hp} {p : Addr} (o : HO) (k : Ok G M H) (h : H p = none) (hn : NoTbl o := by exact trivial) : Ok (upd G p o) M (upd H p o) := by
  refine ⟨fun a u e => ?_, fun a u e => ?_, fun a u e => ?_, k.mu, tb_newG k.tb h hn⟩
  · by_cases ha : a = p
    · subst ha; rw [upd_same] at e ⊢; exact e
    · rw [upd_ne ha] at e ⊢; exact k.g a u e
  · rw [upd_ne (ne_of_none (k.m a u e) h)]; exact k.m a u e
  · rw [upd_ne (ne_of_none (k.m a u e) h)]; exact k.d a u e
theorem mu_upd {M : Hp} {p : Addr} {o : HO} (k : ∀ a o, M a = some o → Mt (some o)) (hm : Mt (some o)) : ∀ a u, (upd M p o) a = some u → Mt (some u) := fun a u e => by
  by_cases ha : a = p
  · subst ha; rw [upd_same] at e; cases e; exact hm
  · rw [upd_ne ha] at e; exact k a u e
/-- a new object that may be changed -/
theorem Ok.newM [Tb] {G M H : Hp} {p : Addr} (o : HO) (k : Ok G M H) (h : H p = none) (hm : Mt (some o) := by exact trivial) : Ok G (upd M p o) (upd H p o) := by
  refine ⟨fun a u e => ?_, fun a u e => ?_, fun a u e => ?_, mu_upd k.mu hm, tb_new k.tb h⟩
  · rw [upd_ne (ne_of_none (k.g a u e) h)]; exact k.g a u e
  · by_cases ha : a = p
    · subst ha; rw [upd_same] at e ⊢; exact e
    · rw [upd_ne ha] at e ⊢; exact k.m a u e
  · by_cases ha : a = p
    · subst ha; exact Same.none k.g h
    · rw [upd_ne ha] at e; exact k.d a u e
/-- a changed object -/
theorem Ok.chg [Tb] {G M H : Hp} {p : Addr} {u : HO} (o : HO) (k : Ok G M H) (h : M p = some u) (hm : Mt (some o) := by exact trivial) : Ok G (upd M p o) (upd H p o) := by
  have gp : G p = none := k.d p u h
  refine ⟨fun a u e => ?_, fun a u e => ?_, fun a u e => ?_, mu_upd k.mu hm, tb_of k.tb (k.m p u h) (k.mu p u h).nt⟩
  · rw [upd_ne (ne_of_none e gp)]; exact k.g a u e
  · by_cases ha : a = p
    · subst ha; rw [upd_same] at e ⊢; exact e
    · rw [upd_ne ha] at e ⊢; exact k.m a u e
  · by_cases ha : a = p
    · subst ha; exact gp
    · rw [upd_ne ha] at e; exact k.d a u e
/-- what may be changed is let go: it stands still from here on -/
theorem Ok.frz [Tb] {G M H : Hp} {p : Addr} {o : HO} (k : Ok G (upd M p o) H) (h : M p = none) : Ok (upd G p o) M H := by
  refine ⟨fun a u e => ?_, fun a u e => ?_, fun a u e => ?_, fun a u e => k.mu a u (by rw [upd_ne (ne_of_none e h)]; exact e), tb_G k.tb (k.mu p o upd_same).nt.noTbl⟩
  · by_cases ha : a = p
    · subst ha; rw [upd_same] at e; exact k.m a u (by rw [upd_same]; exact e)
    · rw [upd_ne ha] at e; exact k.g a u e
  · exact k.m a u (by rw [upd_ne (ne_of_none e h)]; exact e)
  · have ha := ne_of_none e h
    rw [upd_ne ha]
    exact k.d a u (by rw [upd_ne ha]; exact e)
theorem Ok.less [Tb] {G M M' H : Hp} (k : Ok G M' H) (s : Same M M') : Ok G M H := ⟨k.g, fun a o e => k.m a o (s a o e), fun a o e => k.d a o (s a o e), fun a o e => k.mu a o (s a o e), k.tb⟩
theorem Ok.gp [Tb] {G M H : Hp} {p : Addr} {o : HO} (k : Ok G (upd M p o) H) : G p = none := k.d p o upd_same
theorem upd_back {M : Hp} {p : Addr} {o : HO} (h : M p = some o) : upd M p o = M := by
  funext a
  unfold upd
  split
  · next e => rw [e, h]
  · rfl
theorem upd_comm {M : Hp} {p q : Addr} {o u : HO} (h : p ≠ q) : upd (upd M p o) q u = upd (upd M q u) p o := by
  funext a
  unfold upd
  by_cases h1 : a = q <;> by_cases h2 : a = p
  · subst h1; exact absurd h2.symm h
  · rw [if_pos h1, if_neg h2, if_pos h1]
  · rw [if_neg h1, if_pos h2, if_pos h2]
  · rw [if_neg h1, if_neg h2, if_neg h2, if_neg h1]
theorem rd_up {G H : Hp} {a : Addr} {u : HO} (e : Same G H) (h : Rd G a u) : Rd H a u := by
  rcases h with h | ⟨o, h⟩
  · exact Or.inl (e a _ h)
  · exact Or.inr ⟨o, e a _ h⟩
/-- the class that the top has given this name -/
def clsAt (K : PySem.W.Frag) (n : Str) : Addr := match PySem.W.nsIn K mainGlobals n with
  | some (some (.ref C)) => C
  | _ => 0
theorem clsAt_of {K : PySem.W.Frag} {n : Str} {C : Addr} (h : PySem.W.nsIn K mainGlobals n = some (some (.ref C))) : clsAt K n = C := by
  unfold clsAt
  rw [h]
/-! ### data in the heap: lists are plain tracked ones; texts have code points; dicts and instances stand still -/
mutual
/-- the value is this key -/
inductive NKq (K : PySem.W.Frag) (G : Hp) : V → NestedKey → Prop
  | int (i : Int) : NKq K G (.int i) (.num i)
  | str {x : Str} (h : PyData.strOk x = true) : NKq K G (.str x) (.text x)
  | tup {a : Addr} {xs : List V} {ks : List NestedKey} : TupG K G a xs → NKAll K G xs ks → NKq K G (.ref a) (.tup ks)
inductive NKAll (K : PySem.W.Frag) (G : Hp) : List V → List NestedKey → Prop
  | nil : NKAll K G [] []
  | cons {v : V} {k : NestedKey} {vs : List V} {ks : List NestedKey} : NKq K G v k → NKAll K G vs ks → NKAll K G (v :: vs) (k :: ks)
end
mutual
theorem nkq_up {K : PySem.W.Frag} {G H : Hp} (e : Same G H) : ∀ (k : NestedKey) {v : V}, NKq K G v k → NKq K H v k
  | .none, _, h => by cases h
  | .num i, _, h => by cases h; exact .int i
  | .text x, _, h => by
    cases h with
    | str h => exact .str h
  | .tup ks, _, h => by
    cases h with
    | tup a b => exact .tup (a.up e) (nkAll_up e ks b)
theorem nkAll_up {K : PySem.W.Frag} {G H : Hp} (e : Same G H) : ∀ (ks : List NestedKey) {vs : List V}, NKAll K G vs ks → NKAll K H vs ks
  | [], _, h => by cases h; exact .nil
  | k :: ks, _, h => by
    cases h with
    | cons a b => exact .cons (nkq_up e k a) (nkAll_up e ks b)
end
inductive Dat where
  | none
  | bool (b : Bool)
  | int (i : Int)
  | str (s : Str)
  | list (xs : List Dat)
  | tuple (xs : List Dat)
  /-- a tuple of which no more is known -/
  | rtup (xs : List Dat)
  /-- a dict by ints and texts: its keys, its values -/
  | dK (ks : List Key) (xs : List Dat)
  /-- a dict by tuples of these -/
  | dT (ks : List (List Key)) (xs : List Dat)
  /-- an instance of the class of this name: its fields, their values -/
  | ins (C : Str) (ns : List Str) (xs : List Dat)
  /-- a dict by tuples of tuples: its keys, its values -/
  | dN (w : World) (ks : List NestedKey) (xs : List Dat)
abbrev sok (x : Str) : Bool := PyData.strOk x
def keyOk : Key → Bool
  | .inl _ => true
  | .inr x => sok x
mutual
inductive Dq (K : PySem.W.Frag) (G : Hp) : V → Dat → Prop
  | non : Dq K G .non .none
  | bl (b : Bool) : Dq K G (.bl b) (.bool b)
  | int (i : Int) : Dq K G (.int i) (.int i)
  | str {x : Str} (h : sok x = true) : Dq K G (.str x) (.str x)
  | lst {a : Addr} {xs : List V} {ds : List Dat} : G a = some (.lst xs) → DqAll K G xs ds → Dq K G (.ref a) (.list ds)
  | tup {a : Addr} {xs : List V} {ds : List Dat} : TupG K G a xs → DqAll K G xs ds → Dq K G (.ref a) (.tuple ds)
  | rtup {a : Addr} {xs : List V} {ds : List Dat} : G a = some (.tup xs) → DqAll K G xs ds → Dq K G (.ref a) (.rtup ds)
  | dK {a : Addr} {kvs : List (Key × V)} {ks : List Key} {ds : List Dat} : Rd G a (.dK kvs) → kvs.map (·.1) = ks → ks.all keyOk = true → DqAll K G (kvs.map (·.2)) ds → Dq K G (.ref a) (.dK ks ds)
  | dT {a : Addr} {kvs : List (List Key × V)} {ks : List (List Key)} {ds : List Dat} : Rd G a (.dT kvs) → kvs.map (·.1) = ks → (ks.all fun k => k.all keyOk) = true → DqAll K G (kvs.map (·.2)) ds → Dq K G (.ref a) (.dT ks ds)
  | ins {a dx : Addr} {C : Str} {fs : List (Str × V)} {ns : List Str} {ds : List Dat} : G a = some (.ins (clsAt K C) dx fs) → fs.map (·.1) = ns → DqAll K G (fs.map (·.2)) ds → Dq K G (.ref a) (.ins C ns ds)
  | dN {a : Addr} {w : World} {es : List (NestedKey × Addr × V)} {ks : List NestedKey} {ds : List Dat} : Rd G a (dnO w a es) → es.map (·.1) = ks → NKAll K G (es.map fun e => V.ref e.2.1) ks → DqAll K G (es.map (·.2.2)) ds → Dq K G (.ref a) (.dN w ks ds)
inductive DqAll (K : PySem.W.Frag) (G : Hp) : List V → List Dat → Prop
  | nil : DqAll K G [] []
  | cons {v : V} {d : Dat} {vs : List V} {ds : List Dat} : Dq K G v d → DqAll K G vs ds → DqAll K G (v :: vs) (d :: ds)
end
/-! plain data, as the library has them -/
mutual
def toPy : Dat → PyData
  | .none => .none
  | .bool b => .bool b
  | .int i => .int i
  | .str x => .str x
  | .list xs => .list (toPys xs)
  | .tuple xs => .tuple (toPys xs)
  | .rtup xs => .tuple (toPys xs)
  | .dK _ _ => .none
  | .dT _ _ => .none
  | .ins _ _ _ => .none
  | .dN _ _ _ => .none
def toPys : List Dat → List PyData
  | [] => []
  | x :: xs => toPy x :: toPys xs
def pur : Dat → Bool
  | .none => true
  | .bool _ => true
  | .int _ => true
  | .str _ => true
  | .list xs => purs xs
  | .tuple xs => purs xs
  | .rtup xs => purs xs
  | .dK _ _ => false
  | .dT _ _ => false
  | .ins _ _ _ => false
  | .dN _ _ _ => false
def purs : List Dat → Bool
  | [] => true
  | x :: xs => pur x && purs xs
end
section
variable {K : PySem.W.Frag}
theorem sqT_up {G H : Hp} {a : Addr} {xs : List V} (e : Same G H) (h : SqT K G a xs) : SqT K H a xs := by
  rcases h with h | h
  · exact Or.inl (rd_up e h)
  · exact Or.inr h
mutual
theorem dp_up {G H : Hp} (e : Same G H) : ∀ (d : Dat) {v : V}, Dq K G v d → Dq K H v d
  | .none, _, h => by cases h; exact .non
  | .bool b, _, h => by cases h; exact .bl b
  | .int i, _, h => by cases h; exact .int i
  | .str x, _, h => by
    cases h with
    | str h => exact .str h
  | .list ds, _, h => by
    cases h with
    | lst a b => exact .lst (e _ _ a) (dpAll_up e ds b)
  | .tuple ds, _, h => by
    cases h with
    | tup a b => exact .tup (a.up e) (dpAll_up e ds b)
  | .rtup ds, _, h => by
    cases h with
    | rtup a b => exact .rtup (e _ _ a) (dpAll_up e ds b)
  | .dK ks ds, _, h => by
    cases h with
    | dK a b c d => exact .dK (rd_up e a) b c (dpAll_up e ds d)
  | .dT ks ds, _, h => by
    cases h with
    | dT a b c d => exact .dT (rd_up e a) b c (dpAll_up e ds d)
  | .ins C ns ds, _, h => by
    cases h with
    | ins a b c => exact .ins (e _ _ a) b (dpAll_up e ds c)
  | .dN w ks ds, _, h => by
    cases h with
    | dN a b c d => exact .dN (rd_up e a) b (nkAll_up e _ c) (dpAll_up e ds d)
theorem dpAll_up {G H : Hp} (e : Same G H) : ∀ (ds : List Dat) {vs : List V}, DqAll K G vs ds → DqAll K H vs ds
  | [], _, h => by cases h; exact .nil
  | d :: ds, _, h => by
    cases h with
    | cons a b => exact .cons (dp_up e d a) (dpAll_up e ds b)
end
mutual
theorem dq_dp {G : Hp} : ∀ (d : Dat) {v : V}, pur d = true → Dq K G v d → Dp K G v (toPy d)
  | .none, _, _, h => by cases h; unfold toPy; exact .non
  | .bool b, _, _, h => by cases h; unfold toPy; exact .bl b
  | .int i, _, _, h => by cases h; unfold toPy; exact .int i
  | .str x, _, _, h => by cases h; unfold toPy; exact .str x
  | .list ds, _, p, h => by
    cases h with
    | lst a b => unfold toPy; exact .lst (.inl (.inl a)) (dqAll_dp ds (by unfold pur at p; exact p) b)
  | .tuple ds, _, p, h => by
    cases h with
    | tup a b => unfold toPy; exact .tup a.sq (dqAll_dp ds (by unfold pur at p; exact p) b)
  | .rtup ds, _, p, h => by
    cases h with
    | rtup a b => unfold toPy; exact .tup (.inl (.inl a)) (dqAll_dp ds (by unfold pur at p; exact p) b)
  | .dK _ _, _, p, h => by unfold pur at p; cases p
  | .dT _ _, _, p, h => by unfold pur at p; cases p
  | .ins _ _ _, _, p, h => by unfold pur at p; cases p
  | .dN _ _ _, _, p, h => by unfold pur at p; cases p
theorem dqAll_dp {G : Hp} : ∀ (ds : List Dat) {vs : List V}, purs ds = true → DqAll K G vs ds → DpAll K G vs (toPys ds)
  | [], _, _, h => by cases h; unfold toPys; exact .nil
  | d :: ds, _, p, h => by
    cases h with
    | cons a b =>
      unfold purs at p
      rw [Bool.and_eq_true] at p
      unfold toPys
      exact .cons (dq_dp d p.1 a) (dqAll_dp ds p.2 b)
end
/-! what stands in the heap can be laid -/
mutual
theorem dq_lay {G : Hp} : ∀ (d : Dat) {v : V}, pur d = true → Dq K G v d → (toPy d).canLay0 = true
  | .none, _, _, h => by unfold toPy PyData.canLay0; rfl
  | .bool b, _, _, h => by unfold toPy PyData.canLay0; rfl
  | .int i, _, _, h => by unfold toPy PyData.canLay0; rfl
  | .str x, _, _, h => by
    cases h with
    | str h => unfold toPy PyData.canLay0; exact h
  | .list ds, _, p, h => by
    cases h with
    | lst a b => unfold toPy PyData.canLay0; exact dqAll_lay ds (by unfold pur at p; exact p) b
  | .tuple ds, _, p, h => by
    cases h with
    | tup a b => unfold toPy PyData.canLay0; exact dqAll_lay ds (by unfold pur at p; exact p) b
  | .rtup ds, _, p, h => by
    cases h with
    | rtup a b => unfold toPy PyData.canLay0; exact dqAll_lay ds (by unfold pur at p; exact p) b
  | .dK _ _, _, p, h => by unfold pur at p; cases p
  | .dT _ _, _, p, h => by unfold pur at p; cases p
  | .ins _ _ _, _, p, h => by unfold pur at p; cases p
  | .dN _ _ _, _, p, h => by unfold pur at p; cases p
theorem dqAll_lay {G : Hp} : ∀ (ds : List Dat) {vs : List V}, purs ds = true → DqAll K G vs ds → PyData.canLayAll0 (toPys ds) = true
  | [], _, _, h => by unfold toPys PyData.canLayAll0; rfl
  | d :: ds, _, p, h => by
    cases h with
    | cons a b =>
      unfold purs at p
      rw [Bool.and_eq_true] at p
      unfold toPys PyData.canLayAll0
      rw [dq_lay d p.1 a, dqAll_lay ds p.2 b]
      rfl
end
theorem dpAll_len {G : Hp} : ∀ {ds : List Dat} {vs : List V}, DqAll K G vs ds → vs.length = ds.length
  | _, _, .nil => rfl
  | _, _, .cons _ b => congrArg (· + 1) (dpAll_len b)
theorem dpAll_get {G : Hp} : ∀ {ds : List Dat} {vs : List V} {i : Nat} {d : Dat}, DqAll K G vs ds → ds[i]? = some d → ∃ v, vs[i]? = some v ∧ Dq K G v d
  | _, _, _, _, .nil, h => by simp at h
  | _, _, 0, _, .cons a _, h => by simp at h; subst h; exact ⟨_, rfl, a⟩
  | _, _, i + 1, d, .cons _ b, h => by
    obtain ⟨v, h1, h2⟩ := dpAll_get (i := i) (d := d) b (by simpa using h)
    exact ⟨v, by simpa using h1, h2⟩
theorem dpAll_app {G : Hp} : ∀ {ds es : List Dat} {vs ws : List V}, DqAll K G vs ds → DqAll K G ws es → DqAll K G (vs ++ ws) (ds ++ es)
  | _, _, _, _, .nil, h => h
  | _, _, _, _, .cons a b, h => .cons a (dpAll_app b h)
theorem dpAll_drop {G : Hp} : ∀ {ds : List Dat} {vs : List V} (n : Nat), DqAll K G vs ds → DqAll K G (vs.drop n) (ds.drop n)
  | _, _, 0, h => h
  | _, _, _ + 1, .nil => .nil
  | _, _, n + 1, .cons _ b => dpAll_drop n b
theorem dpAll_take {G : Hp} : ∀ {ds : List Dat} {vs : List V} (n : Nat), DqAll K G vs ds → DqAll K G (vs.take n) (ds.take n)
  | _, _, 0, _ => .nil
  | _, _, _ + 1, .nil => .nil
  | _, _, n + 1, .cons a b => .cons a (dpAll_take n b)
theorem dpAll_ints {G : Hp} : ∀ {ns : List Int} {vs : List V}, DqAll K G vs (ns.map Dat.int) → vs = ns.map V.int
  | [], _, h => by cases h; rfl
  | n :: ns, _, h => by
    cases h with
    | cons a b => cases a; exact congrArg (V.int n :: ·) (dpAll_ints b)
theorem dpAll_bls {G : Hp} : ∀ {ns : List Bool} {vs : List V}, DqAll K G vs (ns.map Dat.bool) → vs = ns.map V.bl
  | [], _, h => by cases h; rfl
  | n :: ns, _, h => by
    cases h with
    | cons a b => cases a; exact congrArg (V.bl n :: ·) (dpAll_bls b)
theorem dpAll_strs {G : Hp} : ∀ {ns : List Str} {vs : List V}, DqAll K G vs (ns.map Dat.str) → vs = ns.map V.str
  | [], _, h => by cases h; rfl
  | n :: ns, _, h => by
    cases h with
    | cons a b => cases a; exact congrArg (V.str n :: ·) (dpAll_strs b)
end
/-! ### what evaluates to what -/
abbrev VP := V → Hp → Prop
def Mo (P : VP) : Prop := ∀ v G G', Same G G' → P v G → P v G'
abbrev DD (K : PySem.W.Frag) (d : Dat) : VP := fun v G => Dq K G v d
abbrev OW (p : Addr) : VP := fun v _ => v = .ref p
theorem mo_dd {K : PySem.W.Frag} {d : Dat} : Mo (DD K d) := fun _ _ _ s h => dp_up s d h
theorem mo_ow {p : Addr} : Mo (OW p) := fun _ _ _ _ h => h
def Ev [Tb] (te : TE) (σ : St) (G M M' : Hp) (P : VP) : Prop :=
  ∀ G0 H, Same G G0 → Ok G0 M H → ∀ Q : VK, (∀ v G' H', Same G0 G' → Ok G' M' H' → P v G' → Q v H') → te σ H Q
def EvA [Tb] (ta : TA) (σ : St) (G M M' : Hp) (P : List V → Hp → Prop) : Prop :=
  ∀ G0 H, Same G G0 → Ok G0 M H → ∀ Q : List V → Hp → Prop, (∀ vs G' H', Same G0 G' → Ok G' M' H' → P vs G' → Q vs H') → ta σ H Q
def EvT [Tb] (tt : TT) (σ : St) (G M M' : Hp) (b : Bool) : Prop :=
  ∀ G0 H, Same G G0 → Ok G0 M H → ∀ Q : Bool → Hp → Prop, (∀ G' H', Same G0 G' → Ok G' M' H' → Q b H') → tt σ H Q
/-- a new list of one's own -/
def EvL [Tb] (K : PySem.W.Frag) (te : TE) (σ : St) (G M M' : Hp) (ds : List Dat) : Prop :=
  ∀ G0 H, Same G G0 → Ok G0 M H → ∀ Q : VK, (∀ p vs G' H', Same G0 G' → Ok G' (upd M' p (.lst vs)) H' → M' p = none → DqAll K G' vs ds → Q (.ref p) H') → te σ H Q
def EvO [Tb] (to : TO) (σ : St) (G M M' : Hp) (o : Option Int) : Prop :=
  ∀ G0 H, Same G G0 → Ok G0 M H → ∀ Q : Option Int → Hp → Prop, (∀ G' H', Same G0 G' → Ok G' M' H' → Q o H') → to σ H Q
/-- a rule on values -/
def RV2 [Tb] (r : R2) (G M M' : Hp) (P1 P2 P : VP) : Prop :=
  ∀ x y G0 H, Same G G0 → Ok G0 M H → P1 x G0 → P2 y G0 → ∀ Q : VK, (∀ v G' H', Same G0 G' → Ok G' M' H' → P v G' → Q v H') → r x y H Q
def RVn [Tb] (r : List V → Hp → VK → Prop) (G M M' : Hp) (Ps : List V → Hp → Prop) (P : VP) : Prop :=
  ∀ xs G0 H, Same G G0 → Ok G0 M H → Ps xs G0 → ∀ Q : VK, (∀ v G' H', Same G0 G' → Ok G' M' H' → P v G' → Q v H') → r xs H Q
def RVnL [Tb] (K : PySem.W.Frag) (r : List V → Hp → VK → Prop) (G M M' : Hp) (Ps : List V → Hp → Prop) (ds : List Dat) : Prop :=
  ∀ xs G0 H, Same G G0 → Ok G0 M H → Ps xs G0 → ∀ Q : VK, (∀ p vs G' H', Same G0 G' → Ok G' (upd M' p (.lst vs)) H' → M' p = none → DqAll K G' vs ds → Q (.ref p) H') → r xs H Q
def RV2L [Tb] (K : PySem.W.Frag) (r : R2) (G M M' : Hp) (P1 P2 : VP) (ds : List Dat) : Prop :=
  ∀ x y G0 H, Same G G0 → Ok G0 M H → P1 x G0 → P2 y G0 → ∀ Q : VK, (∀ p vs G' H', Same G0 G' → Ok G' (upd M' p (.lst vs)) H' → M' p = none → DqAll K G' vs ds → Q (.ref p) H') → r x y H Q
def nilP : List V → Hp → Prop := fun vs _ => vs = []
def conP (P : VP) (R : List V → Hp → Prop) : List V → Hp → Prop := fun vs G => ∃ v r, vs = v :: r ∧ P v G ∧ R r G
section
variable {K : PySem.W.Frag} {σ : St} {G G' M M1 M2 M3 : Hp} {ta tb te tc : TE} {P P1 P2 : VP} {d e : Dat} {ds es : List Dat}
theorem Ev.up [Tb] (s : Same G G') (h : Ev te σ G M M1 P) : Ev te σ G' M M1 P := fun G0 H a => h G0 H (s.trans a)
theorem EvT.up [Tb] {tt : TT} {b : Bool} (s : Same G G') (h : EvT tt σ G M M1 b) : EvT tt σ G' M M1 b := fun G0 H a => h G0 H (s.trans a)
theorem EvL.up [Tb] (s : Same G G') (h : EvL K te σ G M M1 ds) : EvL K te σ G' M M1 ds := fun G0 H a => h G0 H (s.trans a)
theorem EvL.ev [Tb] (h : EvL K te σ G M M1 ds) : Ev te σ G M M1 (DD K (.list ds)) := fun G0 H s k Q q =>
  h G0 H s k Q fun p vs G' H' s' k' hp hd => q _ (upd G' p (.lst vs)) H' (s'.trans (Same.new k'.gp)) (k'.frz hp) (.lst upd_same (dpAll_up (Same.new k'.gp) ds hd))
theorem ev_var [Tb] {i : Nat} {v : V} (h : σ[i]? = some (some v)) (m : Mo P) (hp : P v G) : Ev (tVar i) σ G M M P := fun G0 H s k Q q =>
  ⟨v, h, q v G0 H (Same.refl G0) k (m v G G0 s hp)⟩
theorem ev_d [Tb] {i : Nat} {v : V} (h : σ[i]? = some (some v)) (hp : Dq K G v d) : Ev (tVar i) σ G M M (DD K d) := ev_var h mo_dd hp
theorem ev_own [Tb] {i : Nat} {p : Addr} (h : σ[i]? = some (some (.ref p))) : Ev (tVar i) σ G M M (OW p) := ev_var h mo_ow rfl
theorem ev_c [Tb] {v : V} (hp : ∀ G, Dq K G v d) : Ev (tC v) σ G M M (DD K d) := fun G0 H s k Q q => q v G0 H (Same.refl G0) k (hp G0)
theorem ev_int [Tb] {i : Int} : Ev (tC (.int i)) σ G M M (DD K (.int i)) := ev_c fun _ => .int i
theorem ev_str [Tb] {x : Str} (h : sok x = true) : Ev (tC (.str x)) σ G M M (DD K (.str x)) := ev_c fun _ => .str h
theorem ev_bl [Tb] {b : Bool} : Ev (tC (.bl b)) σ G M M (DD K (.bool b)) := ev_c fun _ => .bl b
theorem ev_non [Tb] : Ev (tC .non) σ G M M (DD K .none) := ev_c fun _ => .non
theorem ev_op [Tb] {r : R2} (m : Mo P1) (ha : Ev ta σ G M M1 P1) (hb : Ev tb σ G M1 M2 P2) (hr : RV2 r G M2 M3 P1 P2 P) : Ev (tOp r ta tb) σ G M M3 P := fun G0 H s k Q q =>
  ha G0 H s k _ fun x G1 H1 s1 k1 hx => hb G1 H1 (s.trans s1) k1 _ fun y G2 H2 s2 k2 hy => hr x y G2 H2 ((s.trans s1).trans s2) k2 (m x G1 G2 s2 hx) hy Q fun v G3 H3 s3 k3 hv => q v G3 H3 ((s1.trans s2).trans s3) k3 hv
theorem el_op [Tb] {r : R2} (m : Mo P1) (ha : Ev ta σ G M M1 P1) (hb : Ev tb σ G M1 M2 P2) (hr : RV2L K r G M2 M3 P1 P2 ds) : EvL K (tOp r ta tb) σ G M M3 ds := fun G0 H s k Q q =>
  ha G0 H s k _ fun x G1 H1 s1 k1 hx => hb G1 H1 (s.trans s1) k1 _ fun y G2 H2 s2 k2 hy => hr x y G2 H2 ((s.trans s1).trans s2) k2 (m x G1 G2 s2 hx) hy Q fun p vs G3 H3 s3 k3 hv => q p vs G3 H3 ((s1.trans s2).trans s3) k3 hv
theorem ea_nil [Tb] : EvA tNil σ G M M nilP := fun G0 H s k Q q => q [] G0 H (Same.refl _) k rfl
theorem ea_cons [Tb] {tr : TA} {R : List V → Hp → Prop} (m : Mo P) (ha : Ev ta σ G M M1 P) (hr : EvA tr σ G M1 M2 R) : EvA (tCons ta tr) σ G M M2 (conP P R) := fun G0 H s k Q q =>
  ha G0 H s k _ fun x G1 H1 s1 k1 hx => hr G1 H1 (s.trans s1) k1 _ fun xs G2 H2 s2 k2 hy => q (x :: xs) G2 H2 (s1.trans s2) k2 ⟨x, xs, rfl, m x G1 G2 s2 hx, hy⟩
theorem ea_d [Tb] {tr : TA} {R : List V → Hp → Prop} (ha : Ev ta σ G M M1 (DD K d)) (hr : EvA tr σ G M1 M2 R) : EvA (tCons ta tr) σ G M M2 (conP (DD K d) R) := ea_cons mo_dd ha hr
theorem ev_cb [Tb] {r : List V → Hp → VK → Prop} {t : TA} {R : List V → Hp → Prop} (ha : EvA t σ G M M1 R) (hr : RVn r G M1 M2 R P) : Ev (tCB r t) σ G M M2 P := fun G0 H s k Q q =>
  ha G0 H s k _ fun xs G1 H1 s1 k1 hx => hr xs G1 H1 (s.trans s1) k1 hx Q fun v G2 H2 s2 k2 hv => q v G2 H2 (s1.trans s2) k2 hv
theorem el_cb [Tb] {r : List V → Hp → VK → Prop} {t : TA} {R : List V → Hp → Prop} (ha : EvA t σ G M M1 R) (hr : RVnL K r G M1 M2 R ds) : EvL K (tCB r t) σ G M M2 ds := fun G0 H s k Q q =>
  ha G0 H s k _ fun xs G1 H1 s1 k1 hx => hr xs G1 H1 (s.trans s1) k1 hx Q fun p vs G2 H2 s2 k2 hv => q p vs G2 H2 (s1.trans s2) k2 hv
/-- values of a list of data -/
def allP (K : PySem.W.Frag) (ds : List Dat) : List V → Hp → Prop := fun vs G => DqAll K G vs ds
theorem ea_nilD [Tb] : EvA tNil σ G M M (allP K []) := fun G0 H s k Q q => q [] G0 H (Same.refl _) k .nil
theorem ea_consD [Tb] {tr : TA} (ha : Ev ta σ G M M1 (DD K d)) (hr : EvA tr σ G M1 M2 (allP K ds)) : EvA (tCons ta tr) σ G M M2 (allP K (d :: ds)) := fun G0 H s k Q q =>
  ha G0 H s k _ fun x G1 H1 s1 k1 hx => hr G1 H1 (s.trans s1) k1 _ fun xs G2 H2 s2 k2 hy => q (x :: xs) G2 H2 (s1.trans s2) k2 (.cons (dp_up s2 d hx) hy)
theorem ev_tup [Tb] {t : TA} (ha : EvA t σ G M M1 (allP K ds)) (hl : ds.length ≤ sizeLine := by simp [sizeLine_eq]) : Ev (tTupF t) σ G M M1 (DD K (.tuple ds)) := fun G0 H s k Q q =>
  ha G0 H s k _ fun xs G1 H1 s1 k1 hx => ⟨by rw [dpAll_len hx]; exact hl, fun p o hp hd => q _ (upd G1 p (.frz o (.tup xs))) _ (s1.trans (Same.new (Same.none k1.g hp))) (k1.newG _ hp) (.tup (.inl ⟨o, upd_same, hd⟩) (dpAll_up (Same.new (Same.none k1.g hp)) ds hx))⟩
theorem newL [Tb] {Q : VK} {G0 G1 H1 M1 : Hp} {xs : List V} (s1 : Same G0 G1) (k1 : Ok G1 M1 H1) (hx : DqAll K G1 xs ds) (q : ∀ p vs G' H', Same G0 G' → Ok G' (upd M1 p (.lst vs)) H' → M1 p = none → DqAll K G' vs ds → Q (.ref p) H') : ∀ p, H1 p = none → Q (.ref p) (upd H1 p (.lst xs)) :=
  fun p hp => q p xs G1 _ s1 (k1.newM _ hp) (Same.none k1.m hp) hx
theorem newT [Tb] {Q : VK} {G0 G1 H1 M1 : Hp} {xs : List V} (s1 : Same G0 G1) (k1 : Ok G1 M1 H1) (hx : DqAll K G1 xs ds) (q : ∀ v G' H', Same G0 G' → Ok G' M1 H' → Dq K G' v (.tuple ds) → Q v H') : ∀ p o, H1 p = none → o.dict = none → Q (.ref p) (upd H1 p (.frz o (.tup xs))) :=
  fun p o hp hd => q _ (upd G1 p (.frz o (.tup xs))) _ (s1.trans (Same.new (Same.none k1.g hp))) (k1.newG _ hp) (.tup (.inl ⟨o, upd_same, hd⟩) (dpAll_up (Same.new (Same.none k1.g hp)) ds hx))
theorem newR [Tb] {Q : VK} {G0 G1 H1 M1 : Hp} {xs : List V} (s1 : Same G0 G1) (k1 : Ok G1 M1 H1) (hx : DqAll K G1 xs ds) (q : ∀ v G' H', Same G0 G' → Ok G' M1 H' → Dq K G' v (.rtup ds) → Q v H') : ∀ p, H1 p = none → Q (.ref p) (upd H1 p (.tup xs)) :=
  fun p hp => q _ (upd G1 p (.tup xs)) _ (s1.trans (Same.new (Same.none k1.g hp))) (k1.newG _ hp) (.rtup upd_same (dpAll_up (Same.new (Same.none k1.g hp)) ds hx))
theorem el_lst [Tb] {t : TA} (ha : EvA t σ G M M1 (allP K ds)) (hl : ds.length ≤ sizeLine := by simp [sizeLine_eq]) : EvL K (tLst t) σ G M M1 ds := fun G0 H s k Q q =>
  ha G0 H s k _ fun xs G1 H1 s1 k1 hx => ⟨by rw [dpAll_len hx]; exact hl, newL s1 k1 hx q⟩
theorem ev_is [Tb] {d' : Dat} (h : Ev te σ G M M1 (DD K d)) (e : d = d') : Ev te σ G M M1 (DD K d') := e ▸ h
/-! ### operators -/
theorem rv_I0 [Tb] {g : Int → Int → V} {f : Int → Int → Dat} {i j : Int} (hg : ∀ i j G, Dq K G (g i j) (f i j)) : RV2 (rI0 g) G M M (DD K (.int i)) (DD K (.int j)) (DD K (f i j)) := fun x y G0 H s k hx hy Q q => by
  cases hx; cases hy
  exact ⟨i, j, rfl, rfl, q _ G0 H (Same.refl _) k (hg i j G0)⟩
theorem rv_I [Tb] {C : Int → Int → Prop} {g : Int → Int → V} {f : Int → Int → Dat} {i j : Int} (hg : ∀ i j G, Dq K G (g i j) (f i j)) (hc : C i j) : RV2 (rI C g) G M M (DD K (.int i)) (DD K (.int j)) (DD K (f i j)) := fun x y G0 H s k hx hy Q q => by
  cases hx; cases hy
  exact ⟨i, j, rfl, rfl, hc, q _ G0 H (Same.refl _) k (hg i j G0)⟩
theorem ev_add [Tb] {i j : Int} (ha : Ev ta σ G M M1 (DD K (.int i))) (hb : Ev tb σ G M1 M2 (DD K (.int j))) : Ev (tOp (rI0 fun i j => .int (i + j)) ta tb) σ G M M2 (DD K (.int (i + j))) := ev_op mo_dd ha hb (rv_I0 (f := fun i j => .int (i + j)) fun i j _ => .int _)
theorem ev_sub [Tb] {i j : Int} (ha : Ev ta σ G M M1 (DD K (.int i))) (hb : Ev tb σ G M1 M2 (DD K (.int j))) : Ev (tOp (rI0 fun i j => .int (i - j)) ta tb) σ G M M2 (DD K (.int (i - j))) := ev_op mo_dd ha hb (rv_I0 (f := fun i j => .int (i - j)) fun i j _ => .int _)
theorem ev_mod [Tb] {i j : Int} (hc : j ≠ 0) (ha : Ev ta σ G M M1 (DD K (.int i))) (hb : Ev tb σ G M1 M2 (DD K (.int j))) : Ev (tOp (rI (fun _ j => j ≠ 0) fun i j => .int (i.fmod j)) ta tb) σ G M M2 (DD K (.int (i.fmod j))) := ev_op mo_dd ha hb (rv_I (f := fun i j => .int (i.fmod j)) (fun i j _ => .int _) hc)
theorem ev_pow [Tb] {i j : Int} (hc : CPow i j) (ha : Ev ta σ G M M1 (DD K (.int i))) (hb : Ev tb σ G M1 M2 (DD K (.int j))) : Ev (tOp (rI CPow fun i j => .int (i ^ j.toNat)) ta tb) σ G M M2 (DD K (.int (i ^ j.toNat))) := ev_op mo_dd ha hb (rv_I (f := fun i j => .int (i ^ j.toNat)) (fun i j _ => .int _) hc)
theorem ev_lt [Tb] {i j : Int} (ha : Ev ta σ G M M1 (DD K (.int i))) (hb : Ev tb σ G M1 M2 (DD K (.int j))) : Ev (tOp (rI0 fun i j => .bl (decide (i < j))) ta tb) σ G M M2 (DD K (.bool (decide (i < j)))) := ev_op mo_dd ha hb (rv_I0 (f := fun i j => .bool (decide (i < j))) fun i j _ => .bl _)
theorem ev_gt [Tb] {i j : Int} (ha : Ev ta σ G M M1 (DD K (.int i))) (hb : Ev tb σ G M1 M2 (DD K (.int j))) : Ev (tOp (rI0 fun i j => .bl (decide (j < i))) ta tb) σ G M M2 (DD K (.bool (decide (j < i)))) := ev_op mo_dd ha hb (rv_I0 (f := fun i j => .bool (decide (j < i))) fun i j _ => .bl _)
theorem ev_eqI [Tb] {i j : Int} (ha : Ev ta σ G M M1 (DD K (.int i))) (hb : Ev tb σ G M1 M2 (DD K (.int j))) : Ev (tOp rEq ta tb) σ G M M2 (DD K (.bool (decide (i = j)))) := ev_op mo_dd ha hb fun x y G0 H s k hx hy Q q => by
  cases hx; cases hy
  refine ⟨rfl, q _ G0 H (Same.refl _) k ?_⟩
  rw [show decide (V.int i = V.int j) = decide (i = j) by simp]
  exact .bl _
theorem ev_neI [Tb] {i j : Int} (ha : Ev ta σ G M M1 (DD K (.int i))) (hb : Ev tb σ G M1 M2 (DD K (.int j))) : Ev (tOp rNe ta tb) σ G M M2 (DD K (.bool (!decide (i = j)))) := ev_op mo_dd ha hb fun x y G0 H s k hx hy Q q => by
  cases hx; cases hy
  refine ⟨rfl, q _ G0 H (Same.refl _) k ?_⟩
  rw [show decide (V.int i = V.int j) = decide (i = j) by simp]
  exact .bl _
theorem ev_eqS [Tb] {i j : Str} (ha : Ev ta σ G M M1 (DD K (.str i))) (hb : Ev tb σ G M1 M2 (DD K (.str j))) : Ev (tOp rEq ta tb) σ G M M2 (DD K (.bool (decide (i = j)))) := ev_op mo_dd ha hb fun x y G0 H s k hx hy Q q => by
  cases hx; cases hy
  refine ⟨rfl, q _ G0 H (Same.refl _) k ?_⟩
  rw [show decide (V.str i = V.str j) = decide (i = j) by simp]
  exact .bl _
theorem ev_neS [Tb] {i j : Str} (ha : Ev ta σ G M M1 (DD K (.str i))) (hb : Ev tb σ G M1 M2 (DD K (.str j))) : Ev (tOp rNe ta tb) σ G M M2 (DD K (.bool (!decide (i = j)))) := ev_op mo_dd ha hb fun x y G0 H s k hx hy Q q => by
  cases hx; cases hy
  refine ⟨rfl, q _ G0 H (Same.refl _) k ?_⟩
  rw [show decide (V.str i = V.str j) = decide (i = j) by simp]
  exact .bl _
theorem shp_of {v : V} {n : Nat} (p : pur d = true) (hn : (toPy d).depth ≤ 64) (h : Dq K G v d) : SeqAt.shaped (toPy d) = true := by
  unfold SeqAt.shaped
  rw [dq_lay d p h]
  simpa using hn
theorem ev_eqD [Tb] (p1 : pur d = true) (p2 : pur e = true) (h1 : (toPy d).depth ≤ 64) (h2 : (toPy e).depth ≤ 64) (ha : Ev ta σ G M M1 (DD K d)) (hb : Ev tb σ G M1 M2 (DD K e)) : Ev (tOp (rEqD K) ta tb) σ G M M2 (DD K (.bool (PyData.eqv (toPy d) (toPy e)))) := ev_op mo_dd ha hb fun x y G0 H s k hx hy Q q =>
  ⟨toPy d, toPy e, dq_dp d p1 (dp_up k.g d hx), dq_dp e p2 (dp_up k.g e hy), shp_of (n := 0) p1 h1 hx, shp_of (n := 0) p2 h2 hy, q _ G0 H (Same.refl _) k (.bl _)⟩
theorem ev_neg [Tb] {i : Int} (ha : Ev ta σ G M M1 (DD K (.int i))) : Ev (tUn (rU fun i => .int (-i)) ta) σ G M M1 (DD K (.int (-i))) := fun G0 H s k Q q =>
  ha G0 H s k _ fun x G1 H1 s1 k1 hx => by
    cases hx
    exact ⟨i, rfl, q _ G1 H1 s1 k1 (.int _)⟩
/-! ### items and slices -/
theorem dp_list {G : Hp} {v : V} (h : Dq K G v (.list ds)) : ∃ a vs, v = .ref a ∧ G a = some (.lst vs) ∧ DqAll K G vs ds := by
  cases h with | lst a b => exact ⟨_, _, rfl, a, b⟩
theorem dp_tuple {G : Hp} {v : V} (h : Dq K G v (.tuple ds)) : ∃ a vs, v = .ref a ∧ SqT K G a vs ∧ DqAll K G vs ds := by
  cases h with | tup a b => exact ⟨_, _, rfl, a.sq, b⟩
theorem dp_rtup {G : Hp} {v : V} (h : Dq K G v (.rtup ds)) : ∃ a vs, v = .ref a ∧ G a = some (.tup vs) ∧ DqAll K G vs ds := by
  cases h with | rtup a b => exact ⟨_, _, rfl, a, b⟩
theorem atI_of {G : Hp} {vs : List V} {i : Int} (h : DqAll K G vs ds) (ha : atI ds i = some d) : ∃ v, atI vs i = some v ∧ Dq K G v d := by
  unfold atI at ha ⊢
  rw [dpAll_len h]
  cases e : ixN ds.length i with
  | none => rw [e] at ha; cases ha
  | some j =>
    rw [e] at ha
    obtain ⟨v, h1, h2⟩ := dpAll_get h ha
    exact ⟨v, h1, h2⟩
theorem ev_ixL [Tb] {i : Int} (hi : atI ds i = some d) (ha : Ev ta σ G M M1 (DD K (.list ds))) (hb : Ev tb σ G M1 M2 (DD K (.int i))) : Ev (tOp (rIxL K) ta tb) σ G M M2 (DD K d) := ev_op mo_dd ha hb fun x y G0 H s k hx hy Q q => by
  obtain ⟨a, vs, rfl, h1, h2⟩ := dp_list hx
  cases hy
  obtain ⟨v, h3, h4⟩ := atI_of h2 hi
  exact ⟨a, vs, i, v, rfl, rfl, .inl (.inl (k.g _ _ h1)), h3, q v G0 H (Same.refl _) k h4⟩
theorem ev_ixT [Tb] {i : Int} (hi : atI ds i = some d) (ha : Ev ta σ G M M1 (DD K (.tuple ds))) (hb : Ev tb σ G M1 M2 (DD K (.int i))) : Ev (tOp (rIxT K) ta tb) σ G M M2 (DD K d) := ev_op mo_dd ha hb fun x y G0 H s k hx hy Q q => by
  obtain ⟨a, vs, rfl, h1, h2⟩ := dp_tuple hx
  cases hy
  obtain ⟨v, h3, h4⟩ := atI_of h2 hi
  exact ⟨a, vs, i, v, rfl, rfl, sqT_up k.g h1, h3, q v G0 H (Same.refl _) k h4⟩
/-- an item of a list of one's own (its values told) -/
theorem ev_ixO [Tb] {i : Int} {p : Addr} {vs : List V} (ha : Ev ta σ G M M1 (OW p)) (hb : Ev tb σ G M1 M2 (DD K (.int i))) (hp : M2 p = some (.lst vs)) (hv : DqAll K G vs ds) (hi : atI ds i = some d) : Ev (tOp (rIxL K) ta tb) σ G M M2 (DD K d) := ev_op mo_ow ha hb fun x y G0 H s k hx hy Q q => by
  cases hx
  cases hy
  obtain ⟨v, h3, h4⟩ := atI_of hv hi
  exact ⟨p, vs, i, v, rfl, rfl, .inl (.inl (k.m _ _ hp)), h3, q v G0 H (Same.refl _) k (dp_up s d h4)⟩
def cut {α : Type} (xs : List α) (lo hi : Option Int) : List α := (xs.drop (HT.sIx xs.length 0 lo)).take (HT.sIx xs.length xs.length hi - HT.sIx xs.length 0 lo)
theorem cut_of {G : Hp} {vs : List V} {lo hi : Option Int} (h : DqAll K G vs ds) : DqAll K G (cutV vs lo hi) (cut ds lo hi) := by
  unfold cutV cut
  rw [dpAll_len h]
  exact dpAll_take _ (dpAll_drop _ h)
theorem cut_map {α β : Type} {f : α → β} {xs : List α} {lo hi : Option Int} : cut (xs.map f) lo hi = (cut xs lo hi).map f := by
  unfold cut
  rw [List.length_map, ← List.map_drop, ← List.map_take]
theorem eo_none [Tb] : EvO tNoPart σ G M M none := fun G0 H _ k Q q => q G0 H (Same.refl _) k
theorem eo_some [Tb] {i : Int} (h : Ev te σ G M M1 (DD K (.int i))) : EvO (tPart te) σ G M M1 (some i) := fun G0 H s k Q q => h G0 H s k _ fun v G1 H1 s1 k1 hv => by
  cases hv
  exact ⟨i, rfl, q G1 H1 s1 k1⟩
theorem el_slL [Tb] {tl th : TO} {lo hi : Option Int} (h : Ev te σ G M M (DD K (.list ds))) (h1 : EvO tl σ G M M lo) (h2 : EvO th σ G M M hi) : EvL K (tSl (rSlL K) te tl th) σ G M M (cut ds lo hi) := fun G0 H s k Q q =>
  h G0 H s k _ fun x G1 H1 s1 k1 hx => h1 G1 H1 (s.trans s1) k1 _ fun G2 H2 s2 k2 => h2 G2 H2 ((s.trans s1).trans s2) k2 _ fun G3 H3 s3 k3 => by
    obtain ⟨a, vs, rfl, ha, hb⟩ := dp_list hx
    have s13 := s2.trans s3
    exact ⟨a, vs, rfl, .inl (.inl ((s13.trans k3.g) _ _ ha)), newL (s1.trans s13) k3 (dpAll_up s13 _ (cut_of hb)) q⟩
end
end Kx
end
section
set_option maxHeartbeats 2000000
namespace Kx
open PySem L2
section
variable {K : PySem.W.Frag} {σ : St} {G G' M M1 M2 M3 : Hp} {ta tb te tc : TE} {P P1 P2 : VP} {d e : Dat} {ds es : List Dat}
theorem ev_slT [Tb] {tl th : TO} {lo hi : Option Int} (h : Ev te σ G M M (DD K (.tuple ds))) (h1 : EvO tl σ G M M lo) (h2 : EvO th σ G M M hi) : Ev (tSl (rSlF K) te tl th) σ G M M (DD K (.tuple (cut ds lo hi))) := fun G0 H s k Q q =>
  h G0 H s k _ fun x G1 H1 s1 k1 hx => h1 G1 H1 (s.trans s1) k1 _ fun G2 H2 s2 k2 => h2 G2 H2 ((s.trans s1).trans s2) k2 _ fun G3 H3 s3 k3 => by
    have s13 := s2.trans s3
    have hx3 := dp_up s13 _ hx
    obtain ⟨a, vs, rfl, ha, hb⟩ := dp_tuple hx3
    refine ⟨a, vs, rfl, sqT_up k3.g ha, fun hw => ?_, fun _ => newT (s1.trans s13) k3 (cut_of hb) q⟩
    have e1 : cut ds lo hi = ds := by
      unfold cut
      rw [← dpAll_len hb, hw.1, hw.2, List.drop_zero, Nat.sub_zero, dpAll_len hb, List.take_length]
    rw [e1] at q
    exact q _ G3 H3 (s1.trans s13) k3 hx3
theorem ev_catT [Tb] (hl : ds.length + es.length ≤ sizeLine) (ha : Ev ta σ G M M1 (DD K (.tuple ds))) (hb : Ev tb σ G M1 M2 (DD K (.tuple es))) : Ev (tOp (rCatF K) ta tb) σ G M M2 (DD K (.tuple (ds ++ es))) := ev_op mo_dd ha hb fun x y G0 H s k hx hy Q q => by
  obtain ⟨a, vs, rfl, ha, hb⟩ := dp_tuple hx
  obtain ⟨b, ws, rfl, hc, hd⟩ := dp_tuple hy
  have l1 := dpAll_len hb
  have l2 := dpAll_len hd
  refine ⟨a, b, vs, ws, rfl, rfl, sqT_up k.g ha, sqT_up k.g hc, by rw [l1, l2]; exact hl, fun z => ?_, fun _ z => ?_, fun _ _ => newT (Same.refl _) k (dpAll_app hb hd) q⟩
  · subst z
    cases hb
    exact q _ G0 H (Same.refl _) k hy
  · subst z
    cases hd
    rw [List.append_nil] at q
    exact q _ G0 H (Same.refl _) k hx
theorem el_cat [Tb] (hl : ds.length + es.length ≤ sizeLine) (ha : Ev ta σ G M M1 (DD K (.list ds))) (hb : Ev tb σ G M1 M2 (DD K (.list es))) : EvL K (tOp rCat ta tb) σ G M M2 (ds ++ es) := el_op mo_dd ha hb fun x y G0 H s k hx hy Q q => by
  obtain ⟨a, vs, rfl, ha, hb⟩ := dp_list hx
  obtain ⟨b, ws, rfl, hc, hd⟩ := dp_list hy
  exact ⟨a, b, vs, ws, rfl, rfl, k.g _ _ ha, k.g _ _ hc, by rw [dpAll_len hb, dpAll_len hd]; exact hl, newL (Same.refl _) k (dpAll_app hb hd) q⟩
def rListOf (K : PySem.W.Frag) : List V → Hp → VK → Prop := fun xs H Q => ∃ p ys, xs = [.ref p] ∧ (SqL K H p ys ∨ SqT K H p ys) ∧ ∀ l, H l = none → Q (.ref l) (upd H l (.lst ys))
def rLen (K : PySem.W.Frag) : List V → Hp → VK → Prop := fun xs H Q => ∃ p ys, xs = [.ref p] ∧ (SqL K H p ys ∨ SqT K H p ys) ∧ Q (.int ys.length) H
theorem one_of {R : List V → Hp → Prop} {xs : List V} {G : Hp} (h : conP P nilP xs G) : ∃ v, xs = [v] ∧ P v G := by
  obtain ⟨v, r, rfl, hp, hr⟩ := h
  cases hr
  exact ⟨v, rfl, hp⟩
theorem el_listT [Tb] (ha : EvA (tCons ta tNil) σ G M M1 (conP (DD K (.tuple ds)) nilP)) : EvL K (tCB (rListOf K) (tCons ta tNil)) σ G M M1 ds := el_cb ha fun xs G0 H s k hx Q q => by
  obtain ⟨v, rfl, hv⟩ := one_of (R := nilP) hx
  obtain ⟨a, vs, rfl, ha, hb⟩ := dp_tuple hv
  exact ⟨a, vs, rfl, .inr (sqT_up k.g ha), newL (Same.refl _) k hb q⟩
theorem ev_tupL [Tb] (ha : EvA (tCons ta tNil) σ G M M1 (conP (DD K (.list ds)) nilP)) : Ev (tCB (rTupOf K) (tCons ta tNil)) σ G M M1 (DD K (.tuple ds)) := ev_cb ha fun xs G0 H s k hx Q q => by
  obtain ⟨v, rfl, hv⟩ := one_of (R := nilP) hx
  obtain ⟨a, vs, rfl, ha, hb⟩ := dp_list hv
  exact ⟨a, vs, rfl, .inl ⟨.inl (.inl (k.g _ _ ha)), newT (Same.refl _) k hb q⟩⟩
theorem ev_tupO [Tb] {p : Addr} {vs : List V} (hp : M1 p = some (.lst vs)) (hd : DqAll K G vs ds) (ha : EvA (tCons ta tNil) σ G M M1 (conP (OW p) nilP)) : Ev (tCB (rTupOf K) (tCons ta tNil)) σ G M M1 (DD K (.tuple ds)) := ev_cb ha fun xs G0 H s k hx Q q => by
  obtain ⟨v, rfl, hv⟩ := one_of (R := nilP) hx
  cases hv
  exact ⟨p, vs, rfl, .inl ⟨.inl (.inl (k.m _ _ hp)), newT (Same.refl _) k (dpAll_up s _ hd) q⟩⟩
theorem ev_lenL [Tb] (ha : EvA (tCons ta tNil) σ G M M1 (conP (DD K (.list ds)) nilP)) : Ev (tCB (rLen K) (tCons ta tNil)) σ G M M1 (DD K (.int (ds.length : Int))) := ev_cb ha fun xs G0 H s k hx Q q => by
  obtain ⟨v, rfl, hv⟩ := one_of (R := nilP) hx
  obtain ⟨a, vs, rfl, ha, hb⟩ := dp_list hv
  refine ⟨a, vs, rfl, .inl (.inl (.inl (k.g _ _ ha))), q _ G0 H (Same.refl _) k ?_⟩
  rw [dpAll_len hb]
  exact .int _
theorem ev_lenT [Tb] (ha : EvA (tCons ta tNil) σ G M M1 (conP (DD K (.tuple ds)) nilP)) : Ev (tCB (rLen K) (tCons ta tNil)) σ G M M1 (DD K (.int (ds.length : Int))) := ev_cb ha fun xs G0 H s k hx Q q => by
  obtain ⟨v, rfl, hv⟩ := one_of (R := nilP) hx
  obtain ⟨a, vs, rfl, ha, hb⟩ := dp_tuple hv
  refine ⟨a, vs, rfl, .inr (sqT_up k.g ha), q _ G0 H (Same.refl _) k ?_⟩
  rw [dpAll_len hb]
  exact .int _
theorem ev_sumL [Tb] {ns : List Int} (ha : EvA (tCons ta tNil) σ G M M1 (conP (DD K (.list (ns.map Dat.int))) nilP)) : Ev (tCB (rSum K) (tCons ta tNil)) σ G M M1 (DD K (.int ns.sum)) := ev_cb ha fun xs G0 H s k hx Q q => by
  obtain ⟨v, rfl, hv⟩ := one_of (R := nilP) hx
  obtain ⟨a, vs, rfl, ha, hb⟩ := dp_list hv
  rw [dpAll_ints hb] at ha
  exact ⟨a, ns, rfl, .inl (.inl (k.g _ _ ha)), q _ G0 H (Same.refl _) k (.int _)⟩
theorem ev_allL [Tb] {bs : List Bool} (ha : EvA (tCons ta tNil) σ G M M1 (conP (DD K (.list (bs.map Dat.bool))) nilP)) : Ev (tCB (rAll K) (tCons ta tNil)) σ G M M1 (DD K (.bool (bs.all id))) := ev_cb ha fun xs G0 H s k hx Q q => by
  obtain ⟨v, rfl, hv⟩ := one_of (R := nilP) hx
  obtain ⟨a, vs, rfl, ha, hb⟩ := dp_list hv
  rw [dpAll_bls hb] at ha
  exact ⟨a, bs, rfl, .inl (.inl (k.g _ _ ha)), q _ G0 H (Same.refl _) k (.bl _)⟩
def rInt1 : List V → Hp → VK → Prop := fun xs H Q => (∃ i, xs = [.int i] ∧ Q (.int i) H) ∨ ∃ k, xs = [.bl k] ∧ Q (.int (if k then 1 else 0)) H
theorem ev_intB [Tb] {b : Bool} (ha : EvA (tCons ta tNil) σ G M M1 (conP (DD K (.bool b)) nilP)) : Ev (tCB rInt1 (tCons ta tNil)) σ G M M1 (DD K (.int (if b then 1 else 0))) := ev_cb ha fun xs G0 H s k hx Q q => by
  obtain ⟨v, rfl, hv⟩ := one_of (R := nilP) hx
  cases hv
  exact .inr ⟨b, rfl, q _ G0 H (Same.refl _) k (.int _)⟩
def rAbs : List V → Hp → VK → Prop := fun xs H Q => ∃ i, xs = [.int i] ∧ Q (.int (if i < 0 then -i else i)) H
theorem ev_abs [Tb] {i : Int} (ha : EvA (tCons ta tNil) σ G M M1 (conP (DD K (.int i)) nilP)) : Ev (tCB rAbs (tCons ta tNil)) σ G M M1 (DD K (.int (if i < 0 then -i else i))) := ev_cb ha fun xs G0 H s k hx Q q => by
  obtain ⟨v, rfl, hv⟩ := one_of (R := nilP) hx
  cases hv
  exact ⟨i, rfl, q _ G0 H (Same.refl _) k (.int _)⟩
def rMaxI : List V → Hp → VK → Prop := fun xs H Q => ∃ i j, xs = [.int i, .int j] ∧ Q (.int (if j > i then j else i)) H
def rMinI : List V → Hp → VK → Prop := fun xs H Q => ∃ i j, xs = [.int i, .int j] ∧ Q (.int (if j < i then j else i)) H
theorem two_of {xs : List V} {G : Hp} (h : conP P (conP P1 nilP) xs G) : ∃ v w, xs = [v, w] ∧ P v G ∧ P1 w G := by
  obtain ⟨v, r, rfl, hp, hr⟩ := h
  obtain ⟨w, r, rfl, hq, hr⟩ := hr
  cases hr
  exact ⟨v, w, rfl, hp, hq⟩
theorem ev_max2 [Tb] {i j : Int} (ha : EvA (tCons ta (tCons tb tNil)) σ G M M1 (conP (DD K (.int i)) (conP (DD K (.int j)) nilP))) : Ev (tCB rMaxI (tCons ta (tCons tb tNil))) σ G M M1 (DD K (.int (if j > i then j else i))) := ev_cb ha fun xs G0 H s k hx Q q => by
  obtain ⟨v, w, rfl, hv, hw⟩ := two_of hx
  cases hv; cases hw
  exact ⟨i, j, rfl, q _ G0 H (Same.refl _) k (.int _)⟩
theorem ev_min2 [Tb] {i j : Int} (ha : EvA (tCons ta (tCons tb tNil)) σ G M M1 (conP (DD K (.int i)) (conP (DD K (.int j)) nilP))) : Ev (tCB rMinI (tCons ta (tCons tb tNil))) σ G M M1 (DD K (.int (if j < i then j else i))) := ev_cb ha fun xs G0 H s k hx Q q => by
  obtain ⟨v, w, rfl, hv, hw⟩ := two_of hx
  cases hv; cases hw
  exact ⟨i, j, rfl, q _ G0 H (Same.refl _) k (.int _)⟩
def rDivmod : List V → Hp → VK → Prop := fun xs H Q => ∃ i j, xs = [.int i, .int j] ∧ CDivW i j ∧ ∀ p, H p = none → Q (.ref p) (upd H p (.tup [.int (i / j), .int (i % j)]))
theorem ev_divmod [Tb] {i j : Int} (hc : CDivW i j) (ha : EvA (tCons ta (tCons tb tNil)) σ G M M1 (conP (DD K (.int i)) (conP (DD K (.int j)) nilP))) : Ev (tCB rDivmod (tCons ta (tCons tb tNil))) σ G M M1 (DD K (.rtup [.int (i / j), .int (i % j)])) := ev_cb ha fun xs G0 H s k hx Q q => by
  obtain ⟨v, w, rfl, hv, hw⟩ := two_of hx
  cases hv; cases hw
  exact ⟨i, j, rfl, hc, newR (Same.refl _) k (.cons (.int _) (.cons (.int _) .nil)) q⟩
/-! ### isinstance -/
def tyD : Dat → String
  | .none => "NoneType"
  | .bool _ => "bool"
  | .int _ => "int"
  | .str _ => "str"
  | .list _ => "list"
  | .tuple _ => "tuple"
  | .rtup _ => "tuple"
  | .dK _ _ => "dict"
  | .dT _ _ => "dict"
  | .ins _ _ _ => "object"
  | .dN _ _ _ => "dict"
def isIns : Dat → Bool
  | .ins _ _ _ => true
  | .dT _ _ => true
  | .dN _ _ _ => true
  | _ => false
/-- what the library asks of an own class -/
structure ClsOk (K : PySem.W.Frag) (C : Addr) : Prop where
  cl : Cls K C
  ha : PySem.W.findIn K (.ref C) "__class__" = some (some (.builtin "object.__class__"))
  hn : PySem.W.specialIn K (.builtin "object.__class__") "__get__" = some (some (.builtin "getset_descriptor.__get__"))
  htk : PySem.W.takesIn K (.builtin "object.__class__") = some true
  hm : PySem.W.mroIn K C (.type "object") = some true
/-- the classes of the instances in d are known -/
def tyV (K : PySem.W.Frag) : Dat → Value
  | .ins C _ _ => .ref (clsAt K C)
  | d => .type (tyD d)
theorem tyx_of {H : Hp} {v : V} (s : Same G H) (hc : ∀ C ns xs, d = .ins C ns xs → ClsOk K (clsAt K C)) (hT : (∀ ks xs, d ≠ .dT ks xs) ∧ ∀ w ks xs, d ≠ .dN w ks xs) (h : Dq K G v d) : TyX K H v (tyV K d) := by
  cases h with
  | non => exact .base .non
  | bl b => exact .base (.bl b)
  | int i => exact .base (.int i)
  | str x => exact .base (.str _)
  | lst a b => exact .base (.lst (s _ _ a))
  | tup a b =>
    rcases a with ⟨o, a, _⟩ | ⟨o, its, n, h1, h2, _⟩
    · exact .fTuple (s _ _ a)
    · exact .kTuple h1 h2
  | rtup a b => exact .base (.tup (s _ _ a))
  | dK a _ _ _ =>
    rcases a with a | ⟨o, a⟩
    · exact .base (.dK (s _ _ a))
    · exact .fDict (s _ _ a)
  | dT a _ _ _ => exact absurd rfl (hT.1 _ _)
  | dN _ _ _ _ => exact absurd rfl (hT.2 _ _ _)
  | ins a b c =>
    have q := hc _ _ _ rfl
    exact .base (.ins (s _ _ a) q.cl q.ha q.hn q.htk q.hm)
theorem tyV_of (h : isIns d = false) : tyV K d = .type (tyD d) := by
  cases d <;> first | rfl | cases h
theorem noDT (h : isIns d = false) : (∀ ks xs, d ≠ .dT ks xs) ∧ ∀ w ks xs, d ≠ .dN w ks xs :=
  ⟨fun ks xs e => (by subst e; cases h), fun w ks xs e => (by subst e; cases h)⟩
theorem noIns (h : isIns d = false) : ∀ C ns xs, d = .ins C ns xs → ClsOk K (clsAt K C) := fun C ns xs e => by subst e; cases h
/-- a class's name among the arguments -/
abbrev CLS (n : String) : VP := fun v _ => v = .ty n
theorem mo_cls {n : String} : Mo (CLS n) := fun _ _ _ _ h => h
theorem ev_cls [Tb] {n : String} : Ev (tC (.ty n)) σ G M M (CLS n) := fun G0 H _ k Q q => q _ G0 H (Same.refl _) k rfl
theorem ev_isi [Tb] {n : String} {b : Bool} (hi : isIns d = false) (hb : kitB (tyD d) n = some b) (ha : EvA (tCons ta (tCons tb tNil)) σ G M M1 (conP (DD K d) (conP (CLS n) nilP))) : Ev (tCB (rIsi K) (tCons ta (tCons tb tNil))) σ G M M1 (DD K (.bool b)) := ev_cb ha fun xs G0 H s k hx Q q => by
  obtain ⟨v, w, rfl, hv, hw⟩ := two_of hx
  cases hw
  exact ⟨v, _, _, _, b, rfl, .ty n, tyV_of hi ▸ tyx_of k.g (noIns hi) (noDT hi) hv, kit_ty hb, q _ G0 H (Same.refl _) k (.bl _)⟩
/-! ### truth -/
theorem et_B [Tb] {b : Bool} (h : Ev te σ G M M1 (DD K (.bool b))) : EvT (tB te) σ G M M1 b := fun G0 H s k Q q => h G0 H s k _ fun v G1 H1 s1 k1 hv => by
  cases hv
  exact ⟨b, rfl, q G1 H1 s1 k1⟩
theorem et_test [Tb] {b : Bool} (h : Ev te σ G M M1 (DD K (.bool b))) : EvT (tTest te) σ G M M1 b := fun G0 H s k Q q => h G0 H s k _ fun v G1 H1 s1 k1 hv => by
  cases hv
  exact ⟨b, rfl, q G1 H1 s1 k1⟩
theorem et_not [Tb] {t : TT} {b : Bool} (h : EvT t σ G M M1 b) : EvT (tNot t) σ G M M1 (!b) := fun G0 H s k Q q => h G0 H s k _ fun G1 H1 s1 k1 => q G1 H1 s1 k1
theorem et_andG [Tb] {t u : TT} {a c : Bool} (h : EvT t σ G M M1 a) (h1 : a = true → EvT u σ G M1 M2 c) (h2 : a = false → c = false ∧ M2 = M1) : EvT (tAnd t u) σ G M M2 c := fun G0 H s k Q q => h G0 H s k _ fun G1 H1 s1 k1 => by
  cases a with
  | true => exact iteT (h1 rfl G1 H1 (s.trans s1) k1 Q fun G2 H2 s2 k2 => q G2 H2 (s1.trans s2) k2)
  | false =>
    obtain ⟨rfl, rfl⟩ := h2 rfl
    exact iteF (q G1 H1 s1 k1)
theorem et_orG [Tb] {t u : TT} {a c : Bool} (h : EvT t σ G M M1 a) (h1 : a = false → EvT u σ G M1 M2 c) (h2 : a = true → c = true ∧ M2 = M1) : EvT (tOr t u) σ G M M2 c := fun G0 H s k Q q => h G0 H s k _ fun G1 H1 s1 k1 => by
  cases a with
  | false => exact iteF (h1 rfl G1 H1 (s.trans s1) k1 Q fun G2 H2 s2 k2 => q G2 H2 (s1.trans s2) k2)
  | true =>
    obtain ⟨rfl, rfl⟩ := h2 rfl
    exact iteT (q G1 H1 s1 k1)
theorem et_and [Tb] {t u : TT} {a b : Bool} (h : EvT t σ G M M1 a) (h1 : a = true → EvT u σ G M1 M1 b) : EvT (tAnd t u) σ G M M1 (a && b) := et_andG h (fun e => by rw [e]; exact h1 e) fun e => by rw [e]; exact ⟨rfl, rfl⟩
theorem et_or [Tb] {t u : TT} {a b : Bool} (h : EvT t σ G M M1 a) (h1 : a = false → EvT u σ G M1 M1 b) : EvT (tOr t u) σ G M M1 (a || b) := et_orG h (fun e => by rw [e]; exact h1 e) fun e => by rw [e]; exact ⟨rfl, rfl⟩
theorem ev_andG [Tb] {a c : Bool} (h : Ev ta σ G M M1 (DD K (.bool a))) (h1 : a = true → Ev tb σ G M1 M2 (DD K (.bool c))) (h2 : a = false → c = false ∧ M2 = M1) : Ev (tAndV ta tb) σ G M M2 (DD K (.bool c)) := fun G0 H s k Q q => h G0 H s k _ fun v G1 H1 s1 k1 hv => by
  cases hv
  refine ⟨a, rfl, ?_⟩
  cases a with
  | true => exact iteT (h1 rfl G1 H1 (s.trans s1) k1 Q fun v G2 H2 s2 k2 => q v G2 H2 (s1.trans s2) k2)
  | false =>
    obtain ⟨rfl, rfl⟩ := h2 rfl
    exact iteF (q _ G1 H1 s1 k1 (.bl _))
theorem ev_orG [Tb] {a c : Bool} (h : Ev ta σ G M M1 (DD K (.bool a))) (h1 : a = false → Ev tb σ G M1 M2 (DD K (.bool c))) (h2 : a = true → c = true ∧ M2 = M1) : Ev (tOrV ta tb) σ G M M2 (DD K (.bool c)) := fun G0 H s k Q q => h G0 H s k _ fun v G1 H1 s1 k1 hv => by
  cases hv
  refine ⟨a, rfl, ?_⟩
  cases a with
  | false => exact iteF (h1 rfl G1 H1 (s.trans s1) k1 Q fun v G2 H2 s2 k2 => q v G2 H2 (s1.trans s2) k2)
  | true =>
    obtain ⟨rfl, rfl⟩ := h2 rfl
    exact iteT (q _ G1 H1 s1 k1 (.bl _))
theorem ev_and [Tb] {a b : Bool} (h : Ev ta σ G M M1 (DD K (.bool a))) (h1 : a = true → Ev tb σ G M1 M1 (DD K (.bool b))) : Ev (tAndV ta tb) σ G M M1 (DD K (.bool (a && b))) := ev_andG h (fun e => by rw [e]; exact h1 e) fun e => by rw [e]; exact ⟨rfl, rfl⟩
theorem ev_not [Tb] {a : Bool} (h : Ev ta σ G M M1 (DD K (.bool a))) : Ev (tNotV ta) σ G M M1 (DD K (.bool (!a))) := fun G0 H s k Q q => h G0 H s k _ fun v G1 H1 s1 k1 hv => by
  cases hv
  exact ⟨a, rfl, q _ G1 H1 s1 k1 (.bl _)⟩
theorem ev_if [Tb] {t : TT} {b : Bool} (h : EvT t σ G M M1 b) (h1 : b = true → Ev ta σ G M1 M2 P) (h2 : b = false → Ev tb σ G M1 M2 P) : Ev (tIf t ta tb) σ G M M2 P := fun G0 H s k Q q => h G0 H s k _ fun G1 H1 s1 k1 => by
  cases b with
  | true => exact iteT (h1 rfl G1 H1 (s.trans s1) k1 Q fun v G2 H2 s2 k2 => q v G2 H2 (s1.trans s2) k2)
  | false => exact iteF (h2 rfl G1 H1 (s.trans s1) k1 Q fun v G2 H2 s2 k2 => q v G2 H2 (s1.trans s2) k2)
/-- a <= b <= c of whole numbers, and its kin -/
theorem ev_chainI [Tb] {g g' : Int → Int → Bool} {i j l : Int} (ha : Ev ta σ G M M1 (DD K (.int i))) (hb : Ev tb σ G M1 M2 (DD K (.int j))) (hc : Ev tc σ G M2 M2 (DD K (.int l))) :
    Ev (tChain (rI0 fun i j => .bl (g i j)) (rI0 fun i j => .bl (g' i j)) ta tb tc) σ G M M2 (DD K (.bool (g i j && g' j l))) := fun G0 H s k Q q =>
  ha G0 H s k _ fun x G1 H1 s1 k1 hx => hb G1 H1 (s.trans s1) k1 _ fun y G2 H2 s2 k2 hy => by
    cases hx; cases hy
    refine ⟨i, j, rfl, rfl, g i j, rfl, ?_⟩
    cases e : g i j with
    | true =>
      refine iteT (hc G2 H2 ((s.trans s1).trans s2) k2 _ fun z G3 H3 s3 k3 hz => ?_)
      cases hz
      refine ⟨j, l, rfl, rfl, ?_⟩
      rw [e] at q
      exact q _ G3 H3 ((s1.trans s2).trans s3) k3 (.bl _)
    | false =>
      rw [e] at q
      exact iteF (q _ G2 H2 (s1.trans s2) k2 (.bl _))
/-! ### calls -/
/-- the promise of a def that leaves all as it is: m tells its value -/
def spP [Tb] {α ρ : Type} (args : α → List V → Hp → Prop) (m : α → Option ρ) (res : ρ → VP) : Sp := fun vs H Q _ =>
  ∃ (G M : Hp) (a : α) (r : ρ), Ok G M H ∧ args a vs G ∧ m a = some r ∧ ∀ v G' H', Same G G' → Ok G' M H' → res r v G' → Q v H'
/-- the store of the draws -/
abbrev Sto := Int × Int × Int
def sto (z : Sto) : HO := .lst [.int z.1, .int z.2.1, .int z.2.2]
/-- the promise of a def that draws from the store -/
def spD [Tb] {α ρ : Type} (args : α → List V → Hp → Prop) (m : α → Sto → Option (ρ × Sto)) (res : ρ → VP) : Sp := fun vs H Q _ =>
  ∃ (G M : Hp) (s : Addr) (z z' : Sto) (a : α) (r : ρ) (ws : List V), vs = .ref s :: ws ∧ Ok G M H ∧ M s = some (sto z) ∧ args a ws G ∧ m a z = some (r, z') ∧ ∀ v G' H', Same G G' → Ok G' (upd M s (sto z')) H' → res r v G' → Q v H'
theorem ev_callP [Tb] {α ρ : Type} {args : α → List V → Hp → Prop} {m : α → Option ρ} {res : ρ → VP} {E : XK} {t : TA} {a : α} {r : ρ} (hm : m a = some r) (ha : EvA t σ G M M1 (args a)) : Ev (tCall (spP args m res) [] E t) σ G M M1 (res r) := fun G0 H s k Q q =>
  ha G0 H s k _ fun vs G1 H1 s1 k1 hv => by
    rw [List.append_nil]
    exact ⟨G1, M1, a, r, k1, hv, hm, fun v G2 H2 s2 k2 hr => q v G2 H2 (s1.trans s2) k2 hr⟩
theorem ev_callD [Tb] {α ρ : Type} {args : α → List V → Hp → Prop} {m : α → Sto → Option (ρ × Sto)} {res : ρ → VP} {E : XK} {t : TA} {a : α} {r : ρ} {s : Addr} {z z' : Sto} (hs : M1 s = some (sto z)) (hm : m a z = some (r, z')) (ha : EvA t σ G M M1 (conP (OW s) (args a))) : Ev (tCall (spD args m res) [] E t) σ G M (upd M1 s (sto z')) (res r) := fun G0 H s k Q q =>
  ha G0 H s k _ fun vs G1 H1 s1 k1 hv => by
    obtain ⟨v, ws, rfl, rfl, hw⟩ := hv
    rw [List.append_nil]
    exact ⟨G1, M1, _, z, z', a, r, ws, rfl, k1, hs, hw, hm, fun v G2 H2 s2 k2 hr => q v G2 H2 (s1.trans s2) k2 hr⟩
end
end Kx
end
section
set_option maxHeartbeats 2000000
namespace Kx
open PySem L2
/-! ### the rules under these names -/
section
variable {X : Cx}
theorem cl_len : CallR X (.builtin "len") (rLen X.K) := call_len_seq
theorem cl_list : CallR X (.type "list") (rListOf X.K) := call_list_of
theorem cl_tuple : CallR X (.type "tuple") (rTupOf X.K) := cl_tupleF
theorem cl_int : CallR X (.type "int") rInt1 := call_int1
theorem cl_abs : CallR X (.builtin "abs") rAbs := call_abs
theorem cl_max2 (h : X.calm = true) : CallR X (.builtin "max") rMaxI := call_max2 h
theorem cl_min2 (h : X.calm = true) : CallR X (.builtin "min") rMinI := call_min2 h
theorem cl_divmod : CallR X (.builtin "divmod") rDivmod := fun pins s σ H xs us Q I r h => by
  obtain ⟨i, j, rfl, hc, q⟩ := h
  exact call_divmodW pins s σ H _ us Q I r ⟨i, j, rfl, ⟨hc.1, PyProof.noPylong_of_log2 hc.2⟩, q⟩
end
section
variable {K : PySem.W.Frag} {σ : St} {G G' M M1 M2 M3 : Hp} {ta tb te tc : TE} {P P1 P2 : VP} {d e : Dat} {ds es : List Dat}
/-! ### what is walked -/
def Walks [Tb] (K : PySem.W.Frag) (J : It) (G : Hp) (ds : List Dat) : Prop :=
  ∃ (Y : Nat → Hp → V → Hp → Prop) (Gd : Hp → Prop), Walk J ds.length Gd Y ∧ (∀ H, Same G H → Gd H) ∧
    ∀ i d H x H' G2 M2, ds[i]? = some d → Same G G2 → Ok G2 M2 H → Y i H x H' → ∃ G3, Same G2 G3 ∧ Ok G3 M2 H' ∧ Dq K G3 x d
def Src [Tb] (K : PySem.W.Frag) (wi : TI) (σ : St) (G M M' : Hp) (ds : List Dat) : Prop :=
  ∀ G0 H, Same G G0 → Ok G0 M H → ∀ R : It → Hp → Prop, (∀ J G' H', Same G0 G' → Ok G' M' H' → Walks K J G' ds → R J H') → wi σ H R
theorem dqAll_at {vs : List V} {i : Nat} {x : V} (h : DqAll K G vs ds) (hx : vs[i]? = some x) (hd : ds[i]? = some d) : Dq K G x d := by
  obtain ⟨v, h1, h2⟩ := dpAll_get h hd
  rw [hx] at h1
  cases h1
  exact h2
theorem src_list [Tb] (h : Ev ta σ G M M1 (DD K (.list ds))) : Src K (iList K ta) σ G M M1 ds := fun G0 H s k R q =>
  h G0 H s k _ fun v G1 H1 s1 k1 hv => by
    obtain ⟨a, vs, rfl, h1, h2⟩ := dp_list hv
    refine ⟨a, rfl, ⟨vs, .inl (.inl (k1.g _ _ h1))⟩, q _ G1 H1 s1 k1 ?_⟩
    refine ⟨_, _, (dpAll_len h2) ▸ (walk_list (K := K) (a := a) (xs := vs)), fun H s => .inl (.inl (s _ _ h1)), fun i d H x H' G2 M2 hd s2 k2 y => ?_⟩
    obtain ⟨rfl, hx⟩ := y
    exact ⟨G2, Same.refl _, k2, dp_up s2 _ (dqAll_at h2 hx hd)⟩
theorem src_tup [Tb] (h : Ev ta σ G M M1 (DD K (.tuple ds))) : Src K (iTup K ta) σ G M M1 ds := fun G0 H s k R q =>
  h G0 H s k _ fun v G1 H1 s1 k1 hv => by
    obtain ⟨a, vs, rfl, h1, h2⟩ := dp_tuple hv
    refine ⟨a, rfl, ⟨vs, sqT_up k1.g h1⟩, q _ G1 H1 s1 k1 ?_⟩
    refine ⟨_, _, (dpAll_len h2) ▸ (walk_tup (K := K) (a := a) (xs := vs)), fun H s => sqT_up s h1, fun i d H x H' G2 M2 hd s2 k2 y => ?_⟩
    obtain ⟨rfl, hx⟩ := y
    exact ⟨G2, Same.refl _, k2, dp_up s2 _ (dqAll_at h2 hx hd)⟩
/-- lo, lo + 1, .. below hi -/
def irange (lo hi : Int) : List Int := (List.range (hi - lo).toNat).map fun k : Nat => lo + (k : Int)
theorem irange_len (lo hi : Int) : (irange lo hi).length = (hi - lo).toNat := by
  unfold irange
  rw [List.length_map, List.length_range]
theorem irange_get {lo hi : Int} {i : Nat} (h : i < (hi - lo).toNat) : (irange lo hi)[i]? = some (lo + (i : Int)) := by
  unfold irange
  rw [List.getElem?_map, List.getElem?_range h]
  rfl
theorem walks_range [Tb] {lo hi : Int} {n : Nat} (e : n = (hi - lo).toNat) : Walks K (Itr lo n) G ((irange lo hi).map Dat.int) := by
  have el : ((irange lo hi).map Dat.int).length = n := by rw [List.length_map, irange_len, e]
  refine ⟨YFn fun i => .int (lo + i), fun _ => True, (by rw [el]; exact walk_range), fun H _ => True.intro, fun i d H x H' G2 M2 hd s2 k2 y => ?_⟩
  obtain ⟨rfl, rfl⟩ := y
  have hi : i < (hi - lo).toNat := by
    rw [← e, ← el]
    exact (List.getElem?_eq_some_iff.mp hd).1
  rw [List.getElem?_map, irange_get hi] at hd
  cases hd
  exact ⟨G2, Same.refl _, k2, .int _⟩
theorem src_range1 [Tb] {ta : TA} {n : Int} (h1 : -(2 ^ 62) ≤ n) (h2 : n < 2 ^ 62) (h : EvA ta σ G M M1 (conP (DD K (.int n)) nilP)) : Src K (iRng1 ta) σ G M M1 ((irange 0 n).map Dat.int) := fun G0 H s k R q =>
  h G0 H s k _ fun vs G1 H1 s1 k1 hv => by
    obtain ⟨v, rfl, hw⟩ := one_of (R := nilP) hv
    cases hw
    exact ⟨n, rfl, h1, h2, q _ G1 H1 s1 k1 (walks_range (by rw [Int.sub_zero]))⟩
theorem sok_sign {z : Str} {c : Nat} (h : sok z = true) (hc : c ∈ z.cps.toList) : sok ⟨#[c]⟩ = true := by
  unfold sok PyData.strOk at h ⊢
  rw [Array.all_eq_true'] at h
  simp only [List.all_toArray, List.all_cons, List.all_nil, Bool.and_true, decide_eq_true_eq]
  have := h c (by simpa using hc)
  simpa using this
theorem src_str [Tb] {z : Str} (h : Ev ta σ G M M1 (DD K (.str z))) : Src K (iStr ta) σ G M M1 (z.cps.toList.map fun c => Dat.str ⟨#[c]⟩) := fun G0 H s k R q =>
  h G0 H s k _ fun v G1 H1 s1 k1 hv => by
    have hs : sok z = true := by
      cases hv with
      | str h => exact h
    cases hv
    refine ⟨z, rfl, q _ G1 H1 s1 k1 ?_⟩
    have el : (z.cps.toList.map fun c => Dat.str ⟨#[c]⟩).length = z.cps.size := by simp
    refine ⟨_, _, el ▸ walk_str, fun H _ => True.intro, fun i d H x H' G2 M2 hd s2 k2 y => ?_⟩
    obtain ⟨rfl, c, hc, rfl⟩ := y
    have e1 : (z.cps.toList)[i]? = some c := by simpa using hc
    rw [List.getElem?_map, e1] at hd
    cases hd
    exact ⟨G2, Same.refl _, k2, .str (sok_sign hs (List.mem_of_getElem? e1))⟩
theorem walks_pair [Tb] {J : It} {n : Nat} {xs ys : Nat → Option V} {Gd : Hp → Prop} (w : Walk J n Gd (YPair xs ys)) (hn : ds.length = n) (hG : ∀ H, Same G H → Gd H)
    (hd : ∀ (i : Nat) (d : Dat) (x y : V), ds[i]? = some d → xs i = some x → ys i = some y → ∃ d1 d2, d = .rtup [d1, d2] ∧ Dq K G x d1 ∧ Dq K G y d2) : Walks K J G ds := by
  refine ⟨_, _, hn ▸ w, hG, fun i d H x H' G2 M2 hi s2 k2 y => ?_⟩
  obtain ⟨T, x, y, rfl, hT, rfl, hx, hy⟩ := y
  obtain ⟨d1, d2, rfl, h1, h2⟩ := hd i d x y hi hx hy
  have gT := Same.none k2.g hT
  have s3 : Same G2 (upd G2 T (.tup [x, y])) := Same.new gT
  exact ⟨upd G2 T (.tup [x, y]), s3, k2.newG _ hT, .rtup upd_same (.cons (dp_up (s2.trans s3) _ h1) (.cons (dp_up (s2.trans s3) _ h2) .nil))⟩
def enumD (ds : List Dat) : List Dat := ds.mapIdx fun i d => .rtup [.int (i : Int), d]
def zipD (ds es : List Dat) : List Dat := List.zipWith (fun a b => .rtup [a, b]) ds es
theorem zipD_get {i : Nat} {p : Dat} (h : (zipD ds es)[i]? = some p) : ∃ a b, p = .rtup [a, b] ∧ ds[i]? = some a ∧ es[i]? = some b := by
  unfold zipD at h
  rw [List.getElem?_zipWith] at h
  cases e1 : ds[i]? with
  | none => rw [e1] at h; cases h
  | some a =>
    cases e2 : es[i]? with
    | none => rw [e1, e2] at h; cases h
    | some b =>
      rw [e1, e2] at h
      cases h
      exact ⟨a, b, rfl, rfl, rfl⟩
/-! ### targets -/
def Tg (g : TG) (v : V) (σ : St) (G : Hp) (F : St → Prop) : Prop := ∀ H Q, Same G H → (∀ σ2, F σ2 → Q σ2 H) → g v σ H Q
def Tgs (g : TGs) (vs : List V) (σ : St) (G : Hp) (F : St → Prop) : Prop := ∀ H Q, Same G H → (∀ σ2, F σ2 → Q σ2 H) → g vs σ H Q
theorem tg_name {i : Nat} {v : V} {F : St → Prop} (h : F (σ.set i (some v))) : Tg (gName i) v σ G F := fun _ _ _ q => q _ h
theorem tgs_nil {F : St → Prop} (h : F σ) : Tgs gNil [] σ G F := fun _ _ _ q => ⟨rfl, q _ h⟩
theorem tgs_cons {g : TG} {gs : TGs} {v : V} {vs : List V} {F : St → Prop} (h : Tg g v σ G fun σ2 => Tgs gs vs σ2 G F) : Tgs (gCons g gs) (v :: vs) σ G F := fun H Q s q =>
  ⟨v, vs, rfl, h H _ s fun σ2 h2 => h2 H _ s q⟩
theorem tg_tup {n : Nat} {gs : TGs} {v : V} {F : St → Prop} (hv : Dq K G v (.tuple ds)) (hn : ds.length = n) (h : ∀ vs, DqAll K G vs ds → Tgs gs vs σ G F) : Tg (gTup K n gs) v σ G F := fun H Q s q => by
  obtain ⟨a, vs, rfl, h1, h2⟩ := dp_tuple hv
  exact ⟨a, vs, rfl, sqT_up s h1, by rw [dpAll_len h2]; exact hn, h vs h2 H Q s q⟩
theorem tg_t2 {g1 g2 : TG} {v : V} {F : St → Prop} {d1 d2 : Dat} (hv : Dq K G v (.tuple [d1, d2])) (h : ∀ v1 v2, Dq K G v1 d1 → Dq K G v2 d2 → Tg g1 v1 σ G fun σ1 => Tg g2 v2 σ1 G F) : Tg (gTup K 2 (gCons g1 (gCons g2 gNil))) v σ G F :=
  tg_tup hv rfl fun vs hs => by
    cases hs with
    | cons a b =>
      cases b with
      | cons b c =>
        cases c
        exact tgs_cons fun H Q s q => h _ _ a b H Q s fun σ1 h1 => q σ1 (tgs_cons fun H' Q' s' q' => h1 H' Q' s' fun σ2 h2 => q' σ2 (tgs_nil h2))
theorem tg_rtup {n : Nat} {gs : TGs} {v : V} {F : St → Prop} (hv : Dq K G v (.rtup ds)) (hn : ds.length = n) (h : ∀ vs, DqAll K G vs ds → Tgs gs vs σ G F) : Tg (gTup K n gs) v σ G F := fun H Q s q => by
  obtain ⟨a, vs, rfl, h1, h2⟩ := dp_rtup hv
  exact ⟨a, vs, rfl, (.inl (.inl (s _ _ h1))), by rw [dpAll_len h2]; exact hn, h vs h2 H Q s q⟩
theorem tg_r2 {g1 g2 : TG} {v : V} {F : St → Prop} {d1 d2 : Dat} (hv : Dq K G v (.rtup [d1, d2])) (h : ∀ v1 v2, Dq K G v1 d1 → Dq K G v2 d2 → Tg g1 v1 σ G fun σ1 => Tg g2 v2 σ1 G F) : Tg (gTup K 2 (gCons g1 (gCons g2 gNil))) v σ G F :=
  tg_rtup hv rfl fun vs hs => by
    cases hs with
    | cons a b =>
      cases b with
      | cons b c =>
        cases c
        exact tgs_cons fun H Q s q => h _ _ a b H Q s fun σ1 h1 => q σ1 (tgs_cons fun H' Q' s' q' => h1 H' Q' s' fun σ2 h2 => q' σ2 (tgs_nil h2))
theorem tg_t3 {g1 g2 g3 : TG} {v : V} {F : St → Prop} {d1 d2 d3 : Dat} (hv : Dq K G v (.tuple [d1, d2, d3])) (h : ∀ v1 v2 v3, Dq K G v1 d1 → Dq K G v2 d2 → Dq K G v3 d3 → Tg g1 v1 σ G fun σ1 => Tg g2 v2 σ1 G fun σ2 => Tg g3 v3 σ2 G F) : Tg (gTup K 3 (gCons g1 (gCons g2 (gCons g3 gNil)))) v σ G F :=
  tg_tup hv rfl fun vs hs => by
    cases hs with
    | cons a b =>
      cases b with
      | cons b c =>
        cases c with
        | cons c d =>
          cases d
          exact tgs_cons fun H Q s q => h _ _ _ a b c H Q s fun σ1 h1 => q σ1 (tgs_cons fun H' Q' s' q' => h1 H' Q' s' fun σ2 h2 => q' σ2 (tgs_cons fun H'' Q'' s'' q'' => h2 H'' Q'' s'' fun σ3 h3 => q'' σ3 (tgs_nil h3)))
/-! ### comprehensions -/
/-- one turn's test and element: b the test's answer, o what is put behind (none: nothing) -/
def LcB [Tb] (K : PySem.W.Frag) (tt : TT) (te : TE) (σ : St) (G M M' : Hp) (o : Option Dat) : Prop :=
  ∃ (M1 : Hp) (b : Bool), EvT tt σ G M M1 b ∧ (b = true → ∃ e, o = some e ∧ Ev te σ G M1 M' (DD K e)) ∧ (b = false → o = none ∧ M' = M1)
theorem lcb_yes [Tb] (h : Ev te σ G M M1 (DD K e)) : LcB K tYes te σ G M M1 (some e) := ⟨M, true, fun G0 H _ k Q q => q G0 H (Same.refl _) k, fun _ => ⟨e, rfl, h⟩, fun z => Bool.noConfusion z⟩
/-- the general form: mm tells what may be changed, by the turn -/
theorem el_lcG [Tb] {wi : TI} {g : TG} {tt : TT} {vs : List Nat} (src : Src K wi σ G M M1 ds) (os : List (Option Dat)) (mm : Nat → Hp) (hm0 : mm 0 = M1) (hmn : mm ds.length = M2) (hdom : ∀ i a, (mm i a).isSome = (M1 a).isSome) (hl : os.length = ds.length) (hz : ds.length ≤ sizeLine)
    (hs : ∀ (i : Nat) (d : Dat) (o : Option Dat) (D : Addr) (acc : List V) (G1 : Hp) (v : V), ds[i]? = some d → os[i]? = some o → M1 D = none → Same G G1 → Dq K G1 v d →
      Tg g v (wipe σ vs) G1 fun σ2 => wipe σ2 vs = wipe σ vs ∧ LcB K tt te σ2 G1 (upd (mm i) D (.lst acc)) (upd (mm (i + 1)) D (.lst acc)) o) :
    EvL K (tLc wi g tt te vs) σ G M M2 (os.filterMap id) := by
  intro G0 H s k Q q
  refine src G0 H s k _ fun J G1 H1 s1 k1 w => ?_
  obtain ⟨Y, Gd, w, hGd, hY⟩ := w
  intro D hD
  have mD : M1 D = none := Same.none k1.m hD
  have none_at : ∀ i, mm i D = none := fun i => by
    have := hdom i D
    rw [mD] at this
    cases e : mm i D with
    | none => rfl
    | some _ => rw [e] at this; cases this
  refine lc_it w (fun i H => ∃ G2 acc, Same G1 G2 ∧ Ok G2 (upd (mm i) D (.lst acc)) H ∧ DqAll K G2 acc ((os.take i).filterMap id)) ?_ ?_ ?_ ?_
  · refine ⟨G1, [], Same.refl _, ?_, .nil⟩
    rw [hm0]
    exact k1.newM _ hD
  · rintro i H2 _ ⟨G2, acc, s2, k2, _⟩
    exact hGd H2 (s2.trans k2.g)
  · rintro i x H2 H3 hi ⟨G2, acc, s2, k2, hacc⟩ y
    obtain ⟨d, hd⟩ : ∃ d, ds[i]? = some d := ⟨ds[i], List.getElem?_eq_getElem hi⟩
    obtain ⟨o, ho⟩ : ∃ o, os[i]? = some o := ⟨os[i]'(by omega), List.getElem?_eq_getElem (by omega)⟩
    obtain ⟨G3, s3, k3, hx⟩ := hY i d H2 x H3 G2 _ hd s2 k2 y
    refine hs i d o D acc G3 x hd ho mD (((s.trans s1).trans s2).trans s3) hx H3 _ k3.g ?_
    rintro σ2 ⟨hw, Mx, b, h1, h2, h3⟩
    refine ⟨hw, h1 G3 H3 (Same.refl _) k3 _ fun G4 H4 s4 k4 => ?_⟩
    have et : (os.take (i + 1)).filterMap id = (os.take i).filterMap id ++ o.toList := by
      rw [List.take_add_one, ho, List.filterMap_append]
      cases o <;> rfl
    cases b with
    | true =>
      obtain ⟨e, rfl, he⟩ := h2 rfl
      refine iteT (he G4 H4 s4 k4 _ fun z G5 H5 s5 k5 hz5 => ?_)
      refine ⟨acc, k5.m _ _ upd_same, ?_, ?_⟩
      · rw [dpAll_len hacc]
        refine Nat.lt_of_le_of_lt (List.length_filterMap_le _ _) ?_
        rw [List.length_take]
        omega
      · refine ⟨G5, acc ++ [z], ((s2.trans s3).trans s4).trans s5, ?_, ?_⟩
        · have := k5.chg (p := D) (u := .lst acc) (.lst (acc ++ [z])) upd_same
          rw [upd_upd] at this
          exact this
        · rw [et]
          exact dpAll_app (dpAll_up ((s3.trans s4).trans s5) _ hacc) (.cons hz5 .nil)
    | false =>
      obtain ⟨rfl, e2⟩ := h3 rfl
      subst e2
      refine iteF ⟨G4, acc, (s2.trans s3).trans s4, k4, ?_⟩
      rw [et, show (none : Option Dat).toList = [] from rfl, List.append_nil]
      exact dpAll_up (s3.trans s4) _ hacc
  · rintro H2 ⟨G2, acc, s2, k2, hacc⟩
    have e1 : os.take ds.length = os := by rw [← hl, List.take_length]
    rw [e1] at hacc
    have := none_at ds.length
    rw [hmn] at k2 this
    exact q D acc G2 H2 (s1.trans s2) k2 this hacc
/-- nothing is changed by the turns, no test -/
theorem el_lc [Tb] {wi : TI} {g : TG} {vs : List Nat} (src : Src K wi σ G M M1 ds) (es : List Dat) (hl : es.length = ds.length) (hz : ds.length ≤ sizeLine)
    (hs : ∀ (i : Nat) (d e : Dat) (Mx G1 : Hp) (v : V), ds[i]? = some d → es[i]? = some e → Same M1 Mx → Same G G1 → Dq K G1 v d → Tg g v (wipe σ vs) G1 fun σ2 => wipe σ2 vs = wipe σ vs ∧ Ev te σ2 G1 Mx Mx (DD K e)) :
    EvL K (tLc wi g tYes te vs) σ G M M1 es := by
  have := el_lcG (tt := tYes) (te := te) (g := g) (vs := vs) (M2 := M1) src (es.map some) (fun _ => M1) rfl rfl (fun _ _ => rfl) (by rw [List.length_map]; exact hl) hz fun i d o D acc G1 v hd ho hD s hv => by
    rw [List.getElem?_map] at ho
    cases e : es[i]? with
    | none => rw [e] at ho; cases ho
    | some e' =>
      rw [e] at ho
      cases ho
      exact fun H Q sg q => hs i d e' (upd M1 D (.lst acc)) G1 v hd e (Same.new hD) s hv H Q sg fun σ2 h2 => q σ2 ⟨h2.1, lcb_yes h2.2⟩
  rw [List.filterMap_map, show (id ∘ some : Dat → Option Dat) = some from rfl, List.filterMap_some] at this
  exact this
/-- the turns draw: zs tells the store ahead of each -/
theorem el_lcD [Tb] {wi : TI} {g : TG} {vs : List Nat} {s : Addr} {zs : Nat → Sto} (src : Src K wi σ G M M1 ds) (es : List Dat) (h0 : M1 s = some (sto (zs 0))) (hl : es.length = ds.length) (hz : ds.length ≤ sizeLine)
    (hs : ∀ (i : Nat) (d e : Dat) (Mx G1 : Hp) (v : V), ds[i]? = some d → es[i]? = some e → (∀ a o, a ≠ s → M1 a = some o → Mx a = some o) → Mx s = some (sto (zs i)) → Same G G1 → Dq K G1 v d → Tg g v (wipe σ vs) G1 fun σ2 => wipe σ2 vs = wipe σ vs ∧ Ev te σ2 G1 Mx (upd Mx s (sto (zs (i + 1)))) (DD K e)) :
    EvL K (tLc wi g tYes te vs) σ G M (upd M1 s (sto (zs ds.length))) es := by
  have := el_lcG (tt := tYes) (te := te) (g := g) (vs := vs) (M2 := upd M1 s (sto (zs ds.length))) src (es.map some) (fun i => upd M1 s (sto (zs i))) (upd_back h0) rfl (fun i a => by
    by_cases ha : a = s
    · subst ha; rw [upd_same, h0]; rfl
    · rw [upd_ne ha]) (by rw [List.length_map]; exact hl) hz fun i d o D acc G1 v hd ho hD sg hv => by
    rw [List.getElem?_map] at ho
    cases e : es[i]? with
    | none => rw [e] at ho; cases ho
    | some e' =>
      rw [e] at ho
      cases ho
      have nD : s ≠ D := ne_of_none h0 hD
      refine fun H Q sgh q => hs i d e' (upd (upd M1 s (sto (zs i))) D (.lst acc)) G1 v hd e (fun a o ha hm => ?_) ?_ sg hv H Q sgh fun σ2 h2 => q σ2 ⟨h2.1, lcb_yes ?_⟩
      · rw [upd_ne (ne_of_none hm hD), upd_ne ha]
        exact hm
      · rw [upd_ne nD, upd_same]
      · have h3 := h2.2
        rw [upd_comm (p := D) nD.symm, upd_upd] at h3
        exact h3
  rw [List.filterMap_map, show (id ∘ some : Dat → Option Dat) = some from rfl, List.filterMap_some] at this
  exact this
/-! ### statements -/
variable {D : Ends} {H : Hp} {u : TS}
theorem q_set [Tb] {i : Nat} {σ' : V → St} (he : Ev te σ G M M1 P) (ok : Ok G M H) (hσ : ∀ v, σ.set i (some v) = σ' v) (k : ∀ v G' H', Same G G' → Ok G' M1 H' → P v G' → u D (σ' v) H') : tSeq (tAsg te (gName i)) u D σ H :=
  he G H (Same.refl _) ok _ fun v G1 H1 s1 k1 hv => by
    show u D (σ.set i (some v)) H1
    rw [hσ v]
    exact k v G1 H1 s1 k1 hv
theorem q_setL [Tb] {i : Nat} {σ' : V → St} (he : EvL K te σ G M M1 ds) (ok : Ok G M H) (hσ : ∀ v, σ.set i (some v) = σ' v) (k : ∀ p vs G' H', Same G G' → Ok G' (upd M1 p (.lst vs)) H' → M1 p = none → DqAll K G' vs ds → u D (σ' (.ref p)) H') : tSeq (tAsg te (gName i)) u D σ H :=
  he G H (Same.refl _) ok _ fun p vs G1 H1 s1 k1 hp hv => by
    show u D (σ.set i (some (.ref p))) H1
    rw [hσ]
    exact k p vs G1 H1 s1 k1 hp hv
theorem q_ret [Tb] (he : Ev te σ G M M1 P) (ok : Ok G M H) (k : ∀ v G' H', Same G G' → Ok G' M1 H' → P v G' → D.rt v H') : tSeq (tRet te) u D σ H :=
  he G H (Same.refl _) ok _ k
theorem q_expr [Tb] (he : Ev te σ G M M1 P) (ok : Ok G M H) (k : ∀ G' H', Same G G' → Ok G' M1 H' → u D σ H') : tSeq (tDrop te) u D σ H :=
  he G H (Same.refl _) ok _ fun v G1 H1 s1 k1 _ => k G1 H1 s1 k1
theorem q_if [Tb] {c : TT} {t t' : TS} {b : Bool} (hc : EvT c σ G M M1 b) (ok : Ok G M H) (h1 : b = true → ∀ G' H', Same G G' → Ok G' M1 H' → t { D with nx := u D } σ H') (h2 : b = false → ∀ G' H', Same G G' → Ok G' M1 H' → t' { D with nx := u D } σ H') : tSeq (tIfS c t t') u D σ H :=
  hc G H (Same.refl _) ok _ fun G1 H1 s1 k1 => by
    cases b with
    | true => exact iteT (h1 rfl G1 H1 s1 k1)
    | false => exact iteF (h2 rfl G1 H1 s1 k1)
/-- behind an if whose ways meet: J tells where -/
theorem q_ifJ [Tb] {c : TT} {t t' : TS} {b : Bool} (J : St → Hp → Hp → Prop) (hc : EvT c σ G M M1 b) (ok : Ok G M H)
    (h1 : b = true → ∀ G' H' D', Same G G' → Ok G' M1 H' → D'.rt = D.rt → D'.bk = D.bk → D'.ct = D.ct → (∀ σ2 G2 M2 H2, Same G' G2 → Ok G2 M2 H2 → J σ2 G2 M2 → D'.nx σ2 H2) → t D' σ H')
    (h2 : b = false → ∀ G' H' D', Same G G' → Ok G' M1 H' → D'.rt = D.rt → D'.bk = D.bk → D'.ct = D.ct → (∀ σ2 G2 M2 H2, Same G' G2 → Ok G2 M2 H2 → J σ2 G2 M2 → D'.nx σ2 H2) → t' D' σ H')
    (k : ∀ σ2 G2 M2 H2, Same G G2 → Ok G2 M2 H2 → J σ2 G2 M2 → u D σ2 H2) : tSeq (tIfS c t t') u D σ H :=
  q_if hc ok (fun e G' H' s' k' => h1 e G' H' { D with nx := u D } s' k' rfl rfl rfl fun σ2 G2 M2 H2 s2 k2 j => k σ2 G2 M2 H2 (s'.trans s2) k2 j)
    (fun e G' H' s' k' => h2 e G' H' { D with nx := u D } s' k' rfl rfl rfl fun σ2 G2 M2 H2 s2 k2 j => k σ2 G2 M2 H2 (s'.trans s2) k2 j)
theorem q_nil (h : D.nx σ H) : tNext D σ H := h
theorem q_par [Tb] {i j : Nat} {ta : TA} {σ' : V → V → St} (he : EvA ta σ G M M1 (conP P1 (conP P2 nilP))) (ok : Ok G M H) (hσ : ∀ v w, (σ.set i (some v)).set j (some w) = σ' v w) (k : ∀ v w G' H', Same G G' → Ok G' M1 H' → P1 v G' → P2 w G' → u D (σ' v w) H') : tSeq (tPar i j ta) u D σ H :=
  he G H (Same.refl _) ok _ fun vs G1 H1 s1 k1 hv => by
    obtain ⟨v, w, rfl, h1, h2⟩ := two_of hv
    refine ⟨v, w, rfl, ?_⟩
    show u D ((σ.set i (some v)).set j (some w)) H1
    rw [hσ]
    exact k v w G1 H1 s1 k1 h1 h2
theorem q_append [Tb] {p : Addr} {vs : List V} (ho : Ev ta σ G M M (OW p)) (ha : EvA (tCons te tNil) σ G M M1 (conP (DD K d) nilP)) (hp0 : M p = some (.lst vs)) (hp : M1 p = some (.lst vs)) (hl : vs.length < sizeLine) (ok : Ok G M H)
    (k : ∀ v G' H', Same G G' → Ok G' (upd M1 p (.lst (vs ++ [v]))) H' → Dq K G' v d → u D σ H') : tSeq (tDrop (tBM K "list" rAppend ta (tCons te tNil))) u D σ H :=
  ho G H (Same.refl _) ok _ fun x G1 H1 s1 k1 hx => by
    cases hx
    refine ⟨.inl ⟨rfl, _, .inl (.inl (k1.m _ _ hp0))⟩, ha G1 H1 s1 k1 _ fun xs G2 H2 s2 k2 hv => ?_⟩
    obtain ⟨v, rfl, hw⟩ := one_of (R := nilP) hv
    exact ⟨p, vs, v, rfl, rfl, k2.m _ _ hp, hl, k v G2 _ (s1.trans s2) (k2.chg _ hp) hw⟩
theorem q_extend [Tb] {p : Addr} {vs : List V} (ho : Ev ta σ G M M (OW p)) (ha : EvA (tCons te tNil) σ G M M1 (conP (DD K (.list ds)) nilP)) (hp0 : M p = some (.lst vs)) (hp : M1 p = some (.lst vs)) (hl : vs.length + ds.length ≤ sizeLine) (ok : Ok G M H)
    (k : ∀ ws G' H', Same G G' → Ok G' (upd M1 p (.lst (vs ++ ws))) H' → DqAll K G' ws ds → u D σ H') : tSeq (tDrop (tBM K "list" rExtend ta (tCons te tNil))) u D σ H :=
  ho G H (Same.refl _) ok _ fun x G1 H1 s1 k1 hx => by
    cases hx
    refine ⟨.inl ⟨rfl, _, .inl (.inl (k1.m _ _ hp0))⟩, ha G1 H1 s1 k1 _ fun xs G2 H2 s2 k2 hv => ?_⟩
    obtain ⟨v, rfl, hw⟩ := one_of (R := nilP) hv
    obtain ⟨a, ws, rfl, h1, h2⟩ := dp_list hw
    exact ⟨p, a, vs, ws, rfl, rfl, k2.m _ _ hp, k2.g _ _ h1, by rw [dpAll_len h2]; exact hl, k ws G2 _ (s1.trans s2) (k2.chg _ hp) h2⟩
/-- xs[i] = e, xs a list of one's own -/
theorem q_setItem [Tb] {p : Addr} {vs : List V} {i : Int} {j : Nat} (he : Ev te σ G M M1 (DD K d)) (ho : Ev ta σ G M1 M1 (OW p)) (hi : Ev tb σ G M1 M2 (DD K (.int i))) (hp : M2 p = some (.lst vs)) (hj : ixN vs.length i = some j) (ok : Ok G M H)
    (k : ∀ v G' H', Same G G' → Ok G' (upd M2 p (.lst (vs.set j v))) H' → Dq K G' v d → u D σ H') : tSeq (tAsg te (gSub ta tb rSetL)) u D σ H :=
  he G H (Same.refl _) ok _ fun v G1 H1 s1 k1 hv => ho G1 H1 s1 k1 _ fun x G2 H2 s2 k2 hx => hi G2 H2 (s1.trans s2) k2 _ fun y G3 H3 s3 k3 hy => by
    cases hx; cases hy
    exact ⟨p, vs, i, j, rfl, rfl, k3.m _ _ hp, hj, k v G3 _ ((s1.trans s2).trans s3) (k3.chg _ hp) (dp_up (s2.trans s3) _ hv)⟩
/-! ### loops -/
theorem q_for [Tb] {wi : TI} {g : TG} {tb : TS} (src : Src K wi σ G M M1 ds) (ok : Ok G M H) (J : Nat → St → Hp → Hp → Prop) (h0 : ∀ G', Same G G' → J 0 σ G' M1)
    (hs : ∀ i d v σ1 G1 M2 H1 (N : St → Hp → Prop), ds[i]? = some d → J i σ1 G1 M2 → Same G G1 → Ok G1 M2 H1 → Dq K G1 v d → (∀ σ2 G2 M3 H2, Same G1 G2 → Ok G2 M3 H2 → J (i + 1) σ2 G2 M3 → N σ2 H2) → g v σ1 H1 fun σ2 H2 => tb { D with nx := N, ct := N, bk := u D } σ2 H2)
    (hJ : ∀ i σ1 G1 G2 M2, J i σ1 G1 M2 → Same G1 G2 → J i σ1 G2 M2)
    (hd : ∀ σ1 G1 M2 H1, Same G G1 → Ok G1 M2 H1 → J ds.length σ1 G1 M2 → u D σ1 H1) : tSeq (tFor wi g tb) u D σ H := by
  refine src G H (Same.refl _) ok _ fun J' G1 H1 s1 k1 w => ?_
  obtain ⟨Y, Gd, w, hGd, hY⟩ := w
  refine for_it w (D := { D with nx := u D }) (fun i σ1 H2 => ∃ G2 M2, Same G1 G2 ∧ Ok G2 M2 H2 ∧ J i σ1 G2 M2) ⟨G1, M1, Same.refl _, k1, h0 G1 s1⟩ ?_ ?_ ?_
  · rintro i σ1 H2 _ ⟨G2, M2, s2, k2, _⟩
    exact hGd H2 (s2.trans k2.g)
  · rintro i x σ1 H2 H3 hi ⟨G2, M2, s2, k2, j⟩ y
    obtain ⟨d, hd'⟩ : ∃ d, ds[i]? = some d := ⟨ds[i], List.getElem?_eq_getElem hi⟩
    obtain ⟨G3, s3, k3, hx⟩ := hY i d H2 x H3 G2 M2 hd' s2 k2 y
    exact hs i d x σ1 G3 M2 H3 _ hd' (hJ i σ1 G2 G3 M2 j s3) ((s1.trans s2).trans s3) k3 hx fun σ2 G4 M4 H4 s4 k4 j4 => ⟨G4, M4, (s2.trans s3).trans s4, k4, j4⟩
  · rintro σ1 H2 ⟨G2, M2, s2, k2, j⟩
    exact hd σ1 G2 M2 H2 (s1.trans s2) k2 j
theorem q_while [Tb] {c : TT} {tb : TS} (ok : Ok G M H) (J : Nat → St → Hp → Hp → Prop) (n : Nat) (h0 : J n σ G M)
    (hs : ∀ m σ1 G1 M2 H1, J m σ1 G1 M2 → Same G G1 → Ok G1 M2 H1 → ∃ (M3 : Hp) (b : Bool), EvT c σ1 G1 M2 M3 b ∧
      (b = true → ∀ G2 H2 (N : St → Hp → Prop), Same G1 G2 → Ok G2 M3 H2 → (∀ m' σ2 G3 M4 H3, m' < m → Same G2 G3 → Ok G3 M4 H3 → J m' σ2 G3 M4 → N σ2 H3) → tb { D with nx := N, ct := N, bk := u D } σ1 H2) ∧
      (b = false → ∀ G2 H2, Same G1 G2 → Ok G2 M3 H2 → u D σ1 H2)) : tSeq (tWhile c tb) u D σ H := by
  refine ⟨fun m σ1 H1 => ∃ G1 M1, Same G G1 ∧ Ok G1 M1 H1 ∧ J m σ1 G1 M1, ⟨n, G, M, Same.refl _, ok, h0⟩, ?_⟩
  rintro m σ1 H1 ⟨G1, M2, s1, k1, j⟩
  obtain ⟨M3, b, hc, ht, hf⟩ := hs m σ1 G1 M2 H1 j s1 k1
  refine hc G1 H1 (Same.refl _) k1 _ fun G2 H2 s2 k2 => ?_
  cases b with
  | true =>
    refine iteT ⟨fun σ' H' => ∃ m', m' < m ∧ ∃ G3 M4, Same G2 G3 ∧ Ok G3 M4 H' ∧ J m' σ' G3 M4, ?_, ?_⟩
    · rintro σ' H' ⟨m', hm', G3, M4, s3, k3, j3⟩
      exact ⟨m', hm', G3, M4, (s1.trans s2).trans s3, k3, j3⟩
    · exact ht rfl G2 H2 _ s2 k2 fun m' σ2 G3 M4 H3 hm' s3 k3 j3 => ⟨m', hm', G3, M4, s3, k3, j3⟩
  | false => exact iteF (hf rfl G2 H2 s2 k2)
end
end Kx
end
section
set_option maxHeartbeats 2000000
namespace Kx
open PySem L2
/-! ### the mirror's own words -/
theorem bs {α β : Type} {x : Option α} {f : α → Option β} {r : β} (h : x.bind f = some r) : ∃ a, x = some a ∧ f a = some r := by
  cases x with
  | none => cases h
  | some a => exact ⟨a, rfl, h⟩
theorem cond_t {α : Type} {b : Bool} {x y : α} {r : α} (e : b = true) (h : cond b x y = r) : x = r := by subst e; exact h
theorem cond_f {α : Type} {b : Bool} {x y : α} {r : α} (e : b = false) (h : cond b x y = r) : y = r := by subst e; exact h
instance (i j : Int) : Decidable (CMul i j) := by unfold CMul; exact inferInstance
instance (i j : Int) : Decidable (CDivN i j) := by unfold CDivN; exact inferInstance
instance (i j : Int) : Decidable (CDiv i j) := by unfold CDiv; exact inferInstance
instance (i j : Int) : Decidable (CPow i j) := by unfold CPow; exact inferInstance
def grd (p : Prop) [Decidable p] : Option Unit := if p then some () else none
theorem grd_of {p : Prop} [Decidable p] {u : Unit} (h : grd p = some u) : p := by
  unfold grd at h
  split at h
  · assumption
  · cases h
theorem grd_yes {p : Prop} [Decidable p] (h : p) : grd p = some () := by
  unfold grd
  rw [if_pos h]
def CMulO (i j : Int) : Prop := CMul i j ∨ CMulX i j
instance (i j : Int) : Decidable (CMulX i j) := by unfold CMulX; exact inferInstance
instance (i j : Int) : Decidable (CMulO i j) := by unfold CMulO; exact inferInstance
theorem op_mulO {X : Cx} : OpR X (binaryOp .Mult) (rI CMulO fun i j => .int (i * j)) := opI fun _ _ _ _ _ _ _ hc q => PyProof.Rows.mul_int q (hc.elim (fun h => h.ok) (fun h => h.ok))
def CDivO (i j : Int) : Prop := CDivN i j ∨ CDivW i j
instance (i j : Int) : Decidable (CDivW i j) := by unfold CDivW; exact inferInstance
instance (i j : Int) : Decidable (CDivO i j) := by unfold CDivO; exact inferInstance
theorem op_fdivO {X : Cx} : OpR X (binaryOp .FloorDiv) (rI CDivO fun i j => .int (i.fdiv j)) := by
  intro pins s σ H x y v u Q I rx ry h
  obtain ⟨i, j, rfl, rfl, hc, q⟩ := h
  rcases hc with hc | hc
  · exact op_fdivN pins s σ H _ _ v u Q I rx ry ⟨i, j, rfl, rfl, hc, q⟩
  · refine op_fdivW pins s σ H _ _ v u Q I rx ry ⟨i, j, rfl, rfl, hc, ?_⟩
    have e : i / j = i.fdiv j := (Int.fdiv_eq_ediv_of_nonneg i (by have := hc.1; omega)).symm
    show Q (.int (i / j)) H
    rw [e]
    exact q
def mulO (i j : Int) : Option Int := (grd (CMulO i j)).bind fun _ => some (i * j)
def fdivO (i j : Int) : Option Int := (grd (CDivO i j)).bind fun _ => some (i.fdiv j)
def modO (i j : Int) : Option Int := (grd (j ≠ 0)).bind fun _ => some (i.fmod j)
def powO (i j : Int) : Option Int := (grd (CPow i j)).bind fun _ => some (i ^ j.toNat)
theorem mulO_of {i j r : Int} (h : mulO i j = some r) : CMulO i j ∧ r = i * j := by
  obtain ⟨_, h1, h2⟩ := bs h
  exact ⟨grd_of h1, (Option.some.inj h2).symm⟩
theorem fdivO_of {i j r : Int} (h : fdivO i j = some r) : CDivO i j ∧ r = i.fdiv j := by
  obtain ⟨_, h1, h2⟩ := bs h
  exact ⟨grd_of h1, (Option.some.inj h2).symm⟩
theorem modO_of {i j r : Int} (h : modO i j = some r) : j ≠ 0 ∧ r = i.fmod j := by
  obtain ⟨_, h1, h2⟩ := bs h
  exact ⟨grd_of h1, (Option.some.inj h2).symm⟩
theorem powO_of {i j r : Int} (h : powO i j = some r) : CPow i j ∧ r = i ^ j.toNat := by
  obtain ⟨_, h1, h2⟩ := bs h
  exact ⟨grd_of h1, (Option.some.inj h2).symm⟩
theorem atI_map {α β : Type} {f : α → β} {xs : List α} {i : Int} {x : α} (h : atI xs i = some x) : atI (xs.map f) i = some (f x) := by
  unfold atI at h ⊢
  rw [List.length_map]
  cases e : ixN xs.length i with
  | none => rw [e] at h; cases h
  | some j =>
    rw [e] at h
    show (xs.map f)[j]? = _
    rw [List.getElem?_map, show xs[j]? = some x from h]
    rfl
/-- the longest that is made in one go -/
def mapO {α β : Type} (f : α → Option β) : List α → Option (List β)
  | [] => some []
  | x :: xs => (f x).bind fun y => (mapO f xs).bind fun ys => some (y :: ys)
theorem mapO_len {α β : Type} {f : α → Option β} : ∀ {xs : List α} {ys : List β}, mapO f xs = some ys → ys.length = xs.length
  | [], ys, h => by cases h; rfl
  | x :: xs, ys, h => by
    obtain ⟨y, _, h⟩ := bs h
    obtain ⟨zs, h2, h⟩ := bs h
    cases h
    exact congrArg (· + 1) (mapO_len h2)
theorem mapO_get {α β : Type} {f : α → Option β} : ∀ {xs : List α} {ys : List β} {i : Nat} {x : α} {y : β}, mapO f xs = some ys → xs[i]? = some x → ys[i]? = some y → f x = some y
  | [], ys, _, _, _, h, h1, _ => by simp at h1
  | a :: xs, ys, i, x, y, h, h1, h2 => by
    obtain ⟨b, hb, h⟩ := bs h
    obtain ⟨zs, hz, h⟩ := bs h
    cases h
    cases i with
    | zero => simp at h1 h2; subst h1; subst h2; exact hb
    | succ i => exact mapO_get hz (by simpa using h1) (by simpa using h2)
def lcO {α β : Type} (f : α → Option β) (xs : List α) : Option (List β) := (grd (xs.length ≤ 16777216)).bind fun _ => mapO f xs
def mapS {α β : Type} (f : α → Sto → Option (β × Sto)) : List α → Sto → Option (List β × Sto)
  | [], z => some ([], z)
  | x :: xs, z => (f x z).bind fun y => (mapS f xs y.2).bind fun ys => some (y.1 :: ys.1, ys.2)
def lcS {α β : Type} (f : α → Sto → Option (β × Sto)) (xs : List α) (z : Sto) : Option (List β × Sto) := (grd (xs.length ≤ 16777216)).bind fun _ => mapS f xs z
theorem mapS_get {α β : Type} {f : α → Sto → Option (β × Sto)} : ∀ {xs : List α} {z : Sto} {r : List β × Sto}, mapS f xs z = some r → r.1.length = xs.length ∧ ∃ zs : Nat → Sto, zs 0 = z ∧ zs xs.length = r.2 ∧
      ∀ (i : Nat) (x : α) (y : β), xs[i]? = some x → r.1[i]? = some y → f x (zs i) = some (y, zs (i + 1))
  | [], z, r, h => by cases h; exact ⟨rfl, fun _ => z, rfl, rfl, fun i x y h => by simp at h⟩
  | a :: xs, z, r, h => by
    obtain ⟨b, hb, h⟩ := bs h
    obtain ⟨r', hz, h⟩ := bs h
    cases h
    obtain ⟨hl, zs, h0, hn, hi⟩ := mapS_get hz
    refine ⟨congrArg (· + 1) hl, fun i => match i with | 0 => z | i + 1 => zs i, rfl, hn, fun i x y h1 h2 => ?_⟩
    cases i with
    | zero =>
      simp at h1 h2
      subst h1; subst h2
      show f a z = some (b.1, zs 0)
      rw [h0]
      exact hb
    | succ i => exact hi i x y (by simpa using h1) (by simpa using h2)
/-- a for over xs; a turn hands on the state (.inl) or returns (.inr) -/
def forO {S α : Type} (f : S → α → Option S) : List α → S → Option S
  | [], s => some s
  | x :: xs, s => (f s x).bind fun s' => forO f xs s'
def forR {S R α : Type} (f : S → α → Option (S ⊕ R)) : List α → S → Option (S ⊕ R)
  | [], s => some (.inl s)
  | x :: xs, s => (f s x).bind fun s' => match s' with
    | .inl s' => forR f xs s'
    | .inr r => some (.inr r)
def whileO {S : Type} (c : S → Option Bool) (f : S → Option S) : Nat → S → Option S
  | 0, _ => none
  | n + 1, s => (c s).bind fun b => cond b ((f s).bind fun s' => whileO c f n s') (some s)
abbrev eL {α : Type} (e : α → Dat) (xs : List α) : Dat := .list (xs.map e)
abbrev eT {α : Type} (e : α → Dat) (xs : List α) : Dat := .tuple (xs.map e)
abbrev eN (_ : Unit) : Dat := .none
abbrev eP2 {α β : Type} (e1 : α → Dat) (e2 : β → Dat) (p : α × β) : Dat := .tuple [e1 p.1, e2 p.2]
abbrev eR2 {α β : Type} (e1 : α → Dat) (e2 : β → Dat) (p : α × β) : Dat := .rtup [e1 p.1, e2 p.2]
abbrev eP3 {α β γ : Type} (e1 : α → Dat) (e2 : β → Dat) (e3 : γ → Dat) (p : α × β × γ) : Dat := .tuple [e1 p.1, e2 p.2.1, e3 p.2.2]
section
variable {K : PySem.W.Frag} {σ : St} {G G' M M1 M2 M3 : Hp} {ta tb te tc : TE} {P P1 P2 : VP} {d e : Dat} {ds es : List Dat}
theorem szl {n : Nat} (h : n ≤ 16777216) : n ≤ sizeLine := by rw [sizeLine_eq]; exact h
theorem szlt {n : Nat} (h : n < 16777216) : n < sizeLine := by rw [sizeLine_eq]; exact h
theorem zipD_map {α β : Type} {ea : α → Dat} {eb : β → Dat} {xs : List α} {ys : List β} : zipD (xs.map ea) (ys.map eb) = (xs.zip ys).map (eR2 ea eb) := by
  unfold zipD
  rw [List.zipWith_map, List.zip, List.map_zipWith]
def enum {α : Type} (xs : List α) : List (Int × α) := xs.mapIdx fun i x => ((i : Int), x)
theorem enumD_map {α : Type} {ea : α → Dat} {xs : List α} : enumD (xs.map ea) = (enum xs).map (eR2 Dat.int ea) := by
  unfold enumD enum
  apply List.ext_getElem?
  intro i
  simp only [List.getElem?_mapIdx, List.getElem?_map, Option.map_map]
  cases xs[i]? <;> rfl
theorem Src.is [Tb] {wi : TI} {ds' : List Dat} (h : Src K wi σ G M M1 ds) (e : ds = ds') : Src K wi σ G M M1 ds' := e ▸ h
/-- a comprehension of data -/
theorem el_lcM [Tb] {α β : Type} {ea : α → Dat} {eb : β → Dat} {f : α → Option β} {xs : List α} {ys : List β} {wi : TI} {g : TG} {vs : List Nat} (src : Src K wi σ G M M1 (xs.map ea)) (hf : lcO f xs = some ys)
    (hs : ∀ (x : α) (y : β) (Mx G1 : Hp) (v : V), f x = some y → Same M1 Mx → Same G G1 → Dq K G1 v (ea x) → Tg g v (wipe σ vs) G1 fun σ2 => wipe σ2 vs = wipe σ vs ∧ Ev te σ2 G1 Mx Mx (DD K (eb y))) :
    EvL K (tLc wi g tYes te vs) σ G M M1 (ys.map eb) := by
  obtain ⟨_, h1, h2⟩ := bs hf
  have hl := mapO_len h2
  refine el_lc src (ys.map eb) (by rw [List.length_map, List.length_map, hl]) (by rw [List.length_map]; exact szl (grd_of h1)) fun i d e Mx G1 v hd he sM sG hv => ?_
  rw [List.getElem?_map] at hd he
  cases e1 : xs[i]? with
  | none => rw [e1] at hd; cases hd
  | some x =>
    cases e2 : ys[i]? with
    | none => rw [e2] at he; cases he
    | some y =>
      rw [e1] at hd; rw [e2] at he
      cases hd; cases he
      exact hs x y Mx G1 v (mapO_get h2 e1 e2) sM sG hv
theorem el_lcMD [Tb] {α β : Type} {ea : α → Dat} {eb : β → Dat} {f : α → Sto → Option (β × Sto)} {xs : List α} {r : List β × Sto} {z : Sto} {s : Addr} {wi : TI} {g : TG} {vs : List Nat} (src : Src K wi σ G M M1 (xs.map ea)) (h0 : M1 s = some (sto z)) (hf : lcS f xs z = some r)
    (hs : ∀ (x : α) (y : β) (z z' : Sto) (Mx G1 : Hp) (v : V), f x z = some (y, z') → (∀ a o, a ≠ s → M1 a = some o → Mx a = some o) → Mx s = some (sto z) → Same G G1 → Dq K G1 v (ea x) → Tg g v (wipe σ vs) G1 fun σ2 => wipe σ2 vs = wipe σ vs ∧ Ev te σ2 G1 Mx (upd Mx s (sto z')) (DD K (eb y))) :
    EvL K (tLc wi g tYes te vs) σ G M (upd M1 s (sto r.2)) (r.1.map eb) := by
  obtain ⟨_, h1, h2⟩ := bs hf
  obtain ⟨hl, zs, e0, en, hi⟩ := mapS_get h2
  subst e0
  rw [← en, ← List.length_map (as := xs) (f := ea)]
  refine el_lcD src (r.1.map eb) h0 (by rw [List.length_map, List.length_map, hl]) (by rw [List.length_map]; exact szl (grd_of h1)) fun i d e Mx G1 v hd he sM hMs sG hv => ?_
  rw [List.getElem?_map] at hd he
  cases e1 : xs[i]? with
  | none => rw [e1] at hd; cases hd
  | some x =>
    cases e2 : r.1[i]? with
    | none => rw [e2] at he; cases he
    | some y =>
      rw [e1] at hd; rw [e2] at he
      cases hd; cases he
      exact hs x y _ _ Mx G1 v (hi i x y e1 e2) sM hMs sG hv
/-! ### a for by its mirror -/
variable {D : Ends} {H : Hp} {u : TS}
theorem drop_cons {α : Type} {xs : List α} {i : Nat} {x : α} (h : xs[i]? = some x) : xs.drop i = x :: xs.drop (i + 1) := by
  obtain ⟨h1, h2⟩ := List.getElem?_eq_some_iff.mp h
  rw [List.drop_eq_getElem_cons h1, h2]
theorem q_forO [Tb] {S α : Type} {ea : α → Dat} {f : S → α → Option S} {xs : List α} {st fin : S} {wi : TI} {g : TG} {tb : TS} (src : Src K wi σ G M M1 (xs.map ea)) (ok : Ok G M H) (J : S → St → Hp → Hp → Prop) (hf : forO f xs st = some fin)
    (h0 : ∀ G', Same G G' → J st σ G' M1) (hJ : ∀ s σ1 G1 G2 M2, J s σ1 G1 M2 → Same G1 G2 → J s σ1 G2 M2)
    (hs : ∀ x v s s' σ1 G1 M2 H1 (N : St → Hp → Prop), f s x = some s' → J s σ1 G1 M2 → Same G G1 → Ok G1 M2 H1 → Dq K G1 v (ea x) → (∀ σ2 G2 M3 H2, Same G1 G2 → Ok G2 M3 H2 → J s' σ2 G2 M3 → N σ2 H2) → g v σ1 H1 fun σ2 H2 => tb { D with nx := N, ct := N, bk := u D } σ2 H2)
    (hd : ∀ σ1 G1 M2 H1, Same G G1 → Ok G1 M2 H1 → J fin σ1 G1 M2 → u D σ1 H1) : tSeq (tFor wi g tb) u D σ H := by
  refine q_for src ok (fun i σ1 G1 M2 => ∃ s, J s σ1 G1 M2 ∧ forO f (xs.drop i) s = some fin) (fun G' s' => ⟨st, h0 G' s', hf⟩) ?_ (fun i σ1 G1 G2 M2 ⟨s, j, e⟩ s2 => ⟨s, hJ s σ1 G1 G2 M2 j s2, e⟩) ?_
  · rintro i d v σ1 G1 M2 H1 N hd ⟨s, j, e⟩ s1 k1 hv hN
    rw [List.getElem?_map] at hd
    cases ex : xs[i]? with
    | none => rw [ex] at hd; cases hd
    | some x =>
      rw [ex] at hd
      cases hd
      rw [drop_cons ex] at e
      obtain ⟨s', e1, e2⟩ := bs e
      exact hs x v s s' σ1 G1 M2 H1 N e1 j s1 k1 hv fun σ2 G2 M3 H2 s2 k2 j2 => hN σ2 G2 M3 H2 s2 k2 ⟨s', j2, e2⟩
  · rintro σ1 G1 M2 H1 s1 k1 ⟨s, j, e⟩
    rw [List.length_map, List.drop_length] at e
    cases e
    exact hd σ1 G1 M2 H1 s1 k1 j
theorem q_forR [Tb] {S R α : Type} {ea : α → Dat} {f : S → α → Option (S ⊕ R)} {xs : List α} {st : S} {fin : S ⊕ R} {wi : TI} {g : TG} {tb : TS} (src : Src K wi σ G M M1 (xs.map ea)) (ok : Ok G M H) (J : S → St → Hp → Hp → Prop) (hf : forR f xs st = some fin)
    (h0 : ∀ G', Same G G' → J st σ G' M1) (hJ : ∀ s σ1 G1 G2 M2, J s σ1 G1 M2 → Same G1 G2 → J s σ1 G2 M2)
    (hs : ∀ x v s s' σ1 G1 M2 H1 (N : St → Hp → Prop), f s x = some s' → (∀ r, s' = .inr r → fin = .inr r) → J s σ1 G1 M2 → Same G G1 → Ok G1 M2 H1 → Dq K G1 v (ea x) → (∀ s2 σ2 G2 M3 H2, s' = .inl s2 → Same G1 G2 → Ok G2 M3 H2 → J s2 σ2 G2 M3 → N σ2 H2) → g v σ1 H1 fun σ2 H2 => tb { D with nx := N, ct := N, bk := u D } σ2 H2)
    (hd : ∀ s σ1 G1 M2 H1, fin = .inl s → Same G G1 → Ok G1 M2 H1 → J s σ1 G1 M2 → u D σ1 H1) : tSeq (tFor wi g tb) u D σ H := by
  refine q_for src ok (fun i σ1 G1 M2 => ∃ s, J s σ1 G1 M2 ∧ forR f (xs.drop i) s = some fin) (fun G' s' => ⟨st, h0 G' s', hf⟩) ?_ (fun i σ1 G1 G2 M2 ⟨s, j, e⟩ s2 => ⟨s, hJ s σ1 G1 G2 M2 j s2, e⟩) ?_
  · rintro i d v σ1 G1 M2 H1 N hd ⟨s, j, e⟩ s1 k1 hv hN
    rw [List.getElem?_map] at hd
    cases ex : xs[i]? with
    | none => rw [ex] at hd; cases hd
    | some x =>
      rw [ex] at hd
      cases hd
      rw [drop_cons ex] at e
      obtain ⟨s', e1, e2⟩ := bs e
      refine hs x v s s' σ1 G1 M2 H1 N e1 (fun r er => ?_) j s1 k1 hv fun s2 σ2 G2 M3 H2 es s2' k2 j2 => ?_
      · subst er
        exact (Option.some.inj e2).symm
      · subst es
        exact hN σ2 G2 M3 H2 s2' k2 ⟨s2, j2, e2⟩
  · rintro σ1 G1 M2 H1 s1 k1 ⟨s, j, e⟩
    rw [List.length_map, List.drop_length] at e
    exact hd s σ1 G1 M2 H1 (Option.some.inj e).symm s1 k1 j
theorem q_whileO [Tb] {S : Type} {c : S → Option Bool} {f : S → Option S} {st fin : S} {n : Nat} {tc : TT} {tb : TS} (ok : Ok G M H) (J : S → St → Hp → Hp → Prop) (hf : whileO c f n st = some fin) (h0 : J st σ G M)
    (hc : ∀ s b σ1 G1 M2 H1, c s = some b → J s σ1 G1 M2 → Same G G1 → Ok G1 M2 H1 → EvT tc σ1 G1 M2 M2 b)
    (hJ : ∀ s σ1 G1 G2 M2, J s σ1 G1 M2 → Same G1 G2 → J s σ1 G2 M2)
    (hs : ∀ s s' σ1 G1 M2 H1 (N : St → Hp → Prop), c s = some true → f s = some s' → J s σ1 G1 M2 → Same G G1 → Ok G1 M2 H1 → (∀ σ2 G2 M3 H2, Same G1 G2 → Ok G2 M3 H2 → J s' σ2 G2 M3 → N σ2 H2) → tb { D with nx := N, ct := N, bk := u D } σ1 H1)
    (hd : ∀ σ1 G1 M2 H1, c fin = some false → Same G G1 → Ok G1 M2 H1 → J fin σ1 G1 M2 → u D σ1 H1) : tSeq (tWhile tc tb) u D σ H := by
  refine q_while ok (fun m σ1 G1 M2 => ∃ s, J s σ1 G1 M2 ∧ whileO c f m s = some fin) n ⟨st, h0, hf⟩ ?_
  rintro m σ1 G1 M2 H1 ⟨s, j, e⟩ s1 k1
  cases m with
  | zero => cases e
  | succ m =>
    obtain ⟨b, e1, e2⟩ := bs e
    refine ⟨M2, b, hc s b σ1 G1 M2 H1 e1 j s1 k1, fun eb G2 H2 N s2 k2 hN => ?_, fun eb G2 H2 s2 k2 => ?_⟩
    · subst eb
      obtain ⟨s', e3, e4⟩ := bs e2
      exact hs s s' σ1 G2 M2 H2 N e1 e3 (hJ s σ1 G1 G2 M2 j s2) (s1.trans s2) k2 fun σ2 G3 M3 H3 s3 k3 j3 => hN m σ2 G3 M3 H3 (Nat.lt_succ_self m) s3 k3 ⟨s', j3, e4⟩
    · subst eb
      cases e2
      exact hd σ1 G2 M2 H2 e1 (s1.trans s2) k2 (hJ _ σ1 G1 G2 M2 j s2)
/-! ### a def's end -/
theorem same_fin {M0 M : Hp} {s : Addr} {o : HO} (hB : ∀ a u, a ≠ s → M0 a = some u → M a = some u) (hs : M s = some o) : Same (upd M0 s o) M := fun a u e => by
  by_cases ha : a = s
  · subst ha; rw [upd_same] at e; rw [hs]; exact e
  · rw [upd_ne ha] at e; exact hB a u ha e
theorem Ok.giveL [Tb] {G M M0 H : Hp} {p : Addr} {o : HO} (k : Ok G M H) (hp : M p = some o) (h0 : M0 p = none) (hB : Same M0 M) : Ok (upd G p o) M0 H := by
  refine ⟨fun a u e => ?_, fun a u e => k.m a u (hB a u e), fun a u e => ?_, fun a u e => k.mu a u (hB a u e), tb_G k.tb (k.mu p o hp).nt.noTbl⟩
  · by_cases ha : a = p
    · subst ha; rw [upd_same] at e; exact k.m a u (hp.trans e)
    · rw [upd_ne ha] at e; exact k.g a u e
  · rw [upd_ne (ne_of_none e h0)]
    exact k.d a u (hB a u e)
end
end Kx
end
section
set_option maxHeartbeats 2000000
namespace Kx
open PySem L2
section
variable {K : PySem.W.Frag} {σ σ' : St} {G G' M M1 M2 M3 : Hp} {ta tb te tc : TE} {P P1 P2 : VP} {d e : Dat} {ds es : List Dat} {D : Ends} {H : Hp} {u : TS}
theorem nrm {F : St → Hp → Prop} (e : σ = σ') (h : F σ' H) : F σ H := e ▸ h
theorem gn {i : Nat} {v : V} {Q : St → Hp → Prop} (h : Q (σ.set i (some v)) H) : gName i v σ H Q := h
theorem gNil_eq {Q : St → Hp → Prop} : (fun σ' H' => gNil [] σ' H' Q) = Q := by
  funext σ' H'
  exact propext ⟨fun h => h.2, fun h => ⟨rfl, h⟩⟩
theorem gOne_eq {g : TG} {v : V} {Q : St → Hp → Prop} : (fun σ' H' => gCons g gNil [v] σ' H' Q) = fun σ' H' => g v σ' H' Q := by
  funext σ' H'
  refine propext ⟨fun ⟨w, r, e, z⟩ => ?_, fun z => ⟨v, [], rfl, ?_⟩⟩
  · cases e
    rw [gNil_eq] at z
    exact z
  · rw [gNil_eq]
    exact z
theorem gt2 {g1 g2 : TG} {v : V} {Q : St → Hp → Prop} {d1 d2 : Dat} (hv : Dq K G v (.tuple [d1, d2])) (s : Same G H) (h : ∀ v1 v2, Dq K G v1 d1 → Dq K G v2 d2 → g1 v1 σ H fun σ1 H1 => g2 v2 σ1 H1 Q) : gTup K 2 (gCons g1 (gCons g2 gNil)) v σ H Q := by
  obtain ⟨a, vs, rfl, h1, h2⟩ := dp_tuple hv
  cases h2 with
  | cons a1 b1 =>
    cases b1 with
    | cons a2 b2 =>
      cases b2
      refine ⟨a, _, rfl, sqT_up s h1, rfl, _, _, rfl, ?_⟩
      rw [gOne_eq]
      exact h _ _ a1 a2
theorem gr2 {g1 g2 : TG} {v : V} {Q : St → Hp → Prop} {d1 d2 : Dat} (hv : Dq K G v (.rtup [d1, d2])) (s : Same G H) (h : ∀ v1 v2, Dq K G v1 d1 → Dq K G v2 d2 → g1 v1 σ H fun σ1 H1 => g2 v2 σ1 H1 Q) : gTup K 2 (gCons g1 (gCons g2 gNil)) v σ H Q := by
  obtain ⟨a, vs, rfl, h1, h2⟩ := dp_rtup hv
  cases h2 with
  | cons a1 b1 =>
    cases b1 with
    | cons a2 b2 =>
      cases b2
      refine ⟨a, _, rfl, (.inl (.inl (s _ _ h1))), rfl, _, _, rfl, ?_⟩
      rw [gOne_eq]
      exact h _ _ a1 a2
/-- x = e with any target: the target's own reading is left -/
theorem q_asgG [Tb] {g : TG} (he : Ev te σ G M M1 P) (ok : Ok G M H) (k : ∀ v G' H', Same G G' → Ok G' M1 H' → P v G' → g v σ H' (u D)) : tSeq (tAsg te g) u D σ H :=
  he G H (Same.refl _) ok _ k
/-- a store into a list of one's own, as a target -/
theorem gs_list [Tb] {p : Addr} {vs : List V} {i : Int} {j : Nat} {v : V} {Q : St → Hp → Prop} (ho : Ev ta σ G M M (OW p)) (hi : Ev tb σ G M M1 (DD K (.int i))) (hp : M1 p = some (.lst vs)) (hj : ixN vs.length i = some j) (ok : Ok G M H)
    (k : ∀ G' H', Same G G' → Ok G' (upd M1 p (.lst (vs.set j v))) H' → Q σ H') : gSub ta tb rSetL v σ H Q :=
  ho G H (Same.refl _) ok _ fun x G2 H2 s2 k2 hx => hi G2 H2 s2 k2 _ fun y G3 H3 s3 k3 hy => by
    cases hx; cases hy
    exact ⟨p, vs, i, j, rfl, rfl, k3.m _ _ hp, hj, k G3 _ (s2.trans s3) (k3.chg _ hp)⟩
end
end Kx
end
section
set_option maxHeartbeats 2000000
namespace Kx
open PySem L2
def catO {α : Type} (xs ys : List α) : Option (List α) := (grd (xs.length + ys.length ≤ 16777216)).bind fun _ => some (xs ++ ys)
theorem catO_of {α : Type} {xs ys r : List α} (h : catO xs ys = some r) : xs.length + ys.length ≤ 16777216 ∧ r = xs ++ ys := by
  obtain ⟨_, h1, h2⟩ := bs h
  exact ⟨grd_of h1, (Option.some.inj h2).symm⟩
def appO {α : Type} (xs : List α) (x : α) : Option (List α) := (grd (xs.length < 16777216)).bind fun _ => some (xs ++ [x])
theorem appO_of {α : Type} {xs r : List α} {x : α} (h : appO xs x = some r) : xs.length < 16777216 ∧ r = xs ++ [x] := by
  obtain ⟨_, h1, h2⟩ := bs h
  exact ⟨grd_of h1, (Option.some.inj h2).symm⟩
def rngO (n : Int) : Option (List Int) := (grd (-(2 ^ 62) ≤ n ∧ n < 2 ^ 62)).bind fun _ => some (irange 0 n)
def dmO (i j : Int) : Option (Int × Int) := (grd (CDivW i j)).bind fun _ => some (i / j, i % j)
theorem dmO_of {i j : Int} {r : Int × Int} (h : dmO i j = some r) : CDivW i j ∧ r = (i / j, i % j) := by
  obtain ⟨_, h1, h2⟩ := bs h
  exact ⟨grd_of h1, (Option.some.inj h2).symm⟩
def orR {S R T : Type} (x : S ⊕ R) (f : S → Option T) (g : R → Option T) : Option T := match x with
  | .inl s => f s
  | .inr r => g r
/-! ### encodings that == reads -/
structure EqE {α : Type} [DecidableEq α] (e : α → Dat) (n : Nat) : Prop where
  pur : ∀ x, pur (e x) = true
  dep : ∀ x, (toPy (e x)).depth ≤ n
  eqv : ∀ x y, PyData.eqv (toPy (e x)) (toPy (e y)) = decide (x = y)
theorem beq_dec {α : Type} [DecidableEq α] [BEq α] [LawfulBEq α] (x y : α) : (x == y) = decide (x = y) := by
  by_cases h : x = y <;> simp [h]
theorem eqe_bool : EqE Dat.bool 0 := ⟨fun _ => by unfold Kx.pur; rfl, fun _ => by unfold toPy PyData.depth; exact Nat.le_refl _, fun x y => by unfold toPy PyData.eqv; exact beq_dec x y⟩
theorem toPys_map : ∀ ds : List Dat, toPys ds = ds.map toPy
  | [] => by unfold toPys; rfl
  | d :: ds => by unfold toPys; rw [toPys_map ds]; rfl
theorem purs_all : ∀ {ds : List Dat}, (∀ d ∈ ds, pur d = true) → purs ds = true
  | [], _ => by unfold purs; rfl
  | d :: ds, h => by
    unfold purs
    rw [h d List.mem_cons_self, purs_all fun x hx => h x (List.mem_cons_of_mem _ hx)]
    rfl
theorem toPy_list {ds : List Dat} : toPy (.list ds) = .list (ds.map toPy) := by unfold toPy; rw [toPys_map]
theorem toPy_tuple {ds : List Dat} : toPy (.tuple ds) = .tuple (ds.map toPy) := by unfold toPy; rw [toPys_map]
theorem pur_list {ds : List Dat} (h : ∀ d ∈ ds, pur d = true) : pur (.list ds) = true := by unfold pur; exact purs_all h
theorem pur_tuple {ds : List Dat} (h : ∀ d ∈ ds, pur d = true) : pur (.tuple ds) = true := by unfold pur; exact purs_all h
section
variable {α β γ : Type} [DecidableEq α] {e : α → Dat} {n : Nat} {K : PySem.W.Frag} {σ : St} {G G' M M1 M2 M3 : Hp} {ta tb te tc : TE} {ds es : List Dat}
theorem ev_eqE [Tb] {x y : α} (h : EqE e n) (hn : n ≤ 63) (ha : Ev ta σ G M M1 (DD K (e x))) (hb : Ev tb σ G M1 M2 (DD K (e y))) : Ev (tOp (rEqD K) ta tb) σ G M M2 (DD K (.bool (decide (x = y)))) := by
  have := ev_eqD (h.pur x) (h.pur y) (Nat.le_trans (h.dep x) (by omega)) (Nat.le_trans (h.dep y) (by omega)) ha hb
  rw [h.eqv] at this
  exact this
def memB {α : Type} [DecidableEq α] (x : α) (xs : List α) : Bool := decide (x ∈ xs)
theorem el_catO [Tb] {xs ys zs : List β} {e : β → Dat} (h : catO xs ys = some zs) (ha : Ev ta σ G M M1 (DD K (.list (xs.map e)))) (hb : Ev tb σ G M1 M2 (DD K (.list (ys.map e)))) : EvL K (tOp rCat ta tb) σ G M M2 (zs.map e) := by
  obtain ⟨h1, rfl⟩ := catO_of h
  rw [List.map_append]
  exact el_cat (by rw [List.length_map, List.length_map]; exact szl h1) ha hb
theorem ev_catTO [Tb] {xs ys zs : List β} {e : β → Dat} (h : catO xs ys = some zs) (ha : Ev ta σ G M M1 (DD K (.tuple (xs.map e)))) (hb : Ev tb σ G M1 M2 (DD K (.tuple (ys.map e)))) : Ev (tOp (rCatF K) ta tb) σ G M M2 (DD K (.tuple (zs.map e))) := by
  obtain ⟨h1, rfl⟩ := catO_of h
  rw [List.map_append]
  exact ev_catT (by rw [List.length_map, List.length_map]; exact szl h1) ha hb
theorem src_rngO [Tb] {ta : TA} {k : Int} {xs : List Int} (h : rngO k = some xs) (ha : EvA ta σ G M M1 (conP (DD K (.int k)) nilP)) : Src K (iRng1 ta) σ G M M1 (xs.map Dat.int) := by
  obtain ⟨_, h1, h2⟩ := bs h
  cases h2
  exact src_range1 (grd_of h1).1 (grd_of h1).2 ha
theorem el_slLM [Tb] {xs : List β} {e : β → Dat} {tl th : TO} {lo hi : Option Int} (h : Ev te σ G M M (DD K (.list (xs.map e)))) (h1 : EvO tl σ G M M lo) (h2 : EvO th σ G M M hi) : EvL K (tSl (rSlL K) te tl th) σ G M M ((cut xs lo hi).map e) := cut_map ▸ el_slL h h1 h2
theorem ev_slTM [Tb] {xs : List β} {e : β → Dat} {tl th : TO} {lo hi : Option Int} (h : Ev te σ G M M (DD K (.tuple (xs.map e)))) (h1 : EvO tl σ G M M lo) (h2 : EvO th σ G M M hi) : Ev (tSl (rSlF K) te tl th) σ G M M (DD K (.tuple ((cut xs lo hi).map e))) := cut_map ▸ ev_slT h h1 h2
theorem ev_mulO [Tb] {i j r : Int} (hc : mulO i j = some r) (ha : Ev ta σ G M M1 (DD K (.int i))) (hb : Ev tb σ G M1 M2 (DD K (.int j))) : Ev (tOp (rI CMulO fun i j => .int (i * j)) ta tb) σ G M M2 (DD K (.int r)) := by
  obtain ⟨h, rfl⟩ := mulO_of hc
  exact ev_op mo_dd ha hb (rv_I (f := fun i j => .int (i * j)) (fun i j _ => .int _) h)
theorem ev_fdivO [Tb] {i j r : Int} (hc : fdivO i j = some r) (ha : Ev ta σ G M M1 (DD K (.int i))) (hb : Ev tb σ G M1 M2 (DD K (.int j))) : Ev (tOp (rI CDivO fun i j => .int (i.fdiv j)) ta tb) σ G M M2 (DD K (.int r)) := by
  obtain ⟨h, rfl⟩ := fdivO_of hc
  exact ev_op mo_dd ha hb (rv_I (f := fun i j => .int (i.fdiv j)) (fun i j _ => .int _) h)
theorem ev_modO [Tb] {i j r : Int} (hc : modO i j = some r) (ha : Ev ta σ G M M1 (DD K (.int i))) (hb : Ev tb σ G M1 M2 (DD K (.int j))) : Ev (tOp (rI (fun _ j => j ≠ 0) fun i j => .int (i.fmod j)) ta tb) σ G M M2 (DD K (.int r)) := by
  obtain ⟨h, rfl⟩ := modO_of hc
  exact ev_mod h ha hb
theorem ev_powO [Tb] {i j r : Int} (hc : powO i j = some r) (ha : Ev ta σ G M M1 (DD K (.int i))) (hb : Ev tb σ G M1 M2 (DD K (.int j))) : Ev (tOp (rI CPow fun i j => .int (i ^ j.toNat)) ta tb) σ G M M2 (DD K (.int r)) := by
  obtain ⟨h, rfl⟩ := powO_of hc
  exact ev_pow h ha hb
theorem ev_dmO [Tb] {i j : Int} {r : Int × Int} (hc : dmO i j = some r) (ha : EvA (tCons ta (tCons tb tNil)) σ G M M1 (conP (DD K (.int i)) (conP (DD K (.int j)) nilP))) : Ev (tCB rDivmod (tCons ta (tCons tb tNil))) σ G M M1 (DD K (eR2 Dat.int Dat.int r)) := by
  obtain ⟨h, rfl⟩ := dmO_of hc
  exact ev_divmod h ha
theorem ev_ixLM [Tb] {xs : List β} {e : β → Dat} {i : Int} {x : β} (hi : atI xs i = some x) (ha : Ev ta σ G M M1 (DD K (.list (xs.map e)))) (hb : Ev tb σ G M1 M2 (DD K (.int i))) : Ev (tOp (rIxL K) ta tb) σ G M M2 (DD K (e x)) := ev_ixL (atI_map hi) ha hb
theorem ev_ixTM [Tb] {xs : List β} {e : β → Dat} {i : Int} {x : β} (hi : atI xs i = some x) (ha : Ev ta σ G M M1 (DD K (.tuple (xs.map e)))) (hb : Ev tb σ G M1 M2 (DD K (.int i))) : Ev (tOp (rIxT K) ta tb) σ G M M2 (DD K (e x)) := ev_ixT (atI_map hi) ha hb
theorem ev_ixOM [Tb] {xs : List β} {e : β → Dat} {i : Int} {x : β} {p : Addr} {vs : List V} (hi : atI xs i = some x) (hp : M2 p = some (.lst vs)) (hv : DqAll K G vs (xs.map e)) (ha : Ev ta σ G M M1 (OW p)) (hb : Ev tb σ G M1 M2 (DD K (.int i))) : Ev (tOp (rIxL K) ta tb) σ G M M2 (DD K (e x)) := ev_ixO ha hb hp hv (atI_map hi)
/-- an owned list read as a whole: it is lent -/
theorem ev_lenLM [Tb] {xs : List β} {e : β → Dat} (ha : EvA (tCons ta tNil) σ G M M1 (conP (DD K (.list (xs.map e))) nilP)) : Ev (tCB (rLen K) (tCons ta tNil)) σ G M M1 (DD K (.int (xs.length : Int))) := ev_is (ev_lenL ha) (by rw [List.length_map])
theorem ev_lenTM [Tb] {xs : List β} {e : β → Dat} (ha : EvA (tCons ta tNil) σ G M M1 (conP (DD K (.tuple (xs.map e))) nilP)) : Ev (tCB (rLen K) (tCons ta tNil)) σ G M M1 (DD K (.int (xs.length : Int))) := ev_is (ev_lenT ha) (by rw [List.length_map])
end
/-! ### the part that may be changed, kept -/
theorem up_ne {M : Hp} {p q : Addr} {o u : HO} (n : q ≠ p) (h : M q = some o) : (upd M p u) q = some o := (upd_ne n).trans h
theorem hB_draw {M0 M : Hp} {s : Addr} {o : HO} (hB : ∀ a u, a ≠ s → M0 a = some u → M a = some u) : ∀ a u, a ≠ s → M0 a = some u → (upd M s o) a = some u := fun a u h1 h2 => (upd_ne h1).trans (hB a u h1 h2)
theorem hB_own {M0 M : Hp} {s p : Addr} {o : HO} (hB : ∀ a u, a ≠ s → M0 a = some u → M a = some u) (h0 : M0 p = none) : ∀ a u, a ≠ s → M0 a = some u → (upd M p o) a = some u := fun a u h1 h2 => (upd_ne (ne_of_none h2 h0)).trans (hB a u h1 h2)
theorem sB_own {M0 M : Hp} {p : Addr} {o : HO} (hB : Same M0 M) (h0 : M0 p = none) : Same M0 (upd M p o) := fun a u h2 => (upd_ne (ne_of_none h2 h0)).trans (hB a u h2)
theorem hB_none {M0 M : Hp} {s p : Addr} {o : HO} (hB : ∀ a u, a ≠ s → M0 a = some u → M a = some u) (hs : M s = some o) (h : M p = none) : M0 p = none := by
  cases e : M0 p with
  | none => rfl
  | some u =>
    have n : p ≠ s := fun z => by rw [z, hs] at h; cases h
    rw [hB p u n e] at h
    cases h
theorem sB_none {M0 M : Hp} {p : Addr} (hB : Same M0 M) (h : M p = none) : M0 p = none := hB.free h
end Kx
end
section
set_option maxHeartbeats 2000000
namespace Kx
open PySem L2
section
variable {K : PySem.W.Frag} {σ σ' : St} {G G' M M1 M2 M3 : Hp} {ta tb te tc : TE} {P P1 P2 : VP} {d e : Dat} {ds es : List Dat} {D : Ends} {H : Hp} {u : TS}
/-! ### a, b = e1, e2 -/
/-! the same where a tuple is made on the way -/
theorem tup_go [Tb] {i j : Nat} {v w : V} (k : Ok G M H) (h : ∀ G' H', Same G G' → Ok G' M H' → u D ((σ.set i (some v)).set j (some w)) H') (t : V) : [v, w].length ≤ sizeLine ∧ ∀ p, H p = none → gTup K 2 (gCons (gName i) (gCons (gName j) gNil)) (.ref p) σ (upd H p (.tup [v, w])) (u D) := by
  refine ⟨by show 2 ≤ sizeLine; decide, fun p hp => ?_⟩
  have sp : Same G (upd G p (.tup [v, w])) := Same.new (Same.none k.g hp)
  exact ⟨p, [v, w], rfl, .inl (.inl upd_same), rfl, v, [w], rfl, w, [], rfl, rfl, h _ _ sp (k.newG _ hp)⟩
theorem q_tupDD [Tb] {i j : Nat} {σ' : V → V → St} (ha : Ev ta σ G M M1 P1) (m1 : Mo P1) (hb : Ev tb σ G M1 M2 P2) (m2 : Mo P2) (ok : Ok G M H) (hσ : ∀ v w, (σ.set i (some v)).set j (some w) = σ' v w)
    (k : ∀ v w G' H', Same G G' → Ok G' M2 H' → P1 v G' → P2 w G' → u D (σ' v w) H') : tSeq (tAsg (tTup (tCons ta (tCons tb tNil))) (gTup K 2 (gCons (gName i) (gCons (gName j) gNil)))) u D σ H :=
  ha G H (Same.refl _) ok _ fun v G1 H1 s1 k1 hv => hb G1 H1 s1 k1 _ fun w G2 H2 s2 k2 hw => tup_go (K := K) k2 (fun G3 H3 s3 k3 => by
    rw [hσ]
    exact k v w G3 H3 ((s1.trans s2).trans s3) k3 (m1 _ _ _ (s2.trans s3) hv) (m2 _ _ _ s3 hw)) v
theorem q_tupDL [Tb] {i j : Nat} {σ' : V → V → St} (ha : Ev ta σ G M M1 P1) (m : Mo P1) (hb : EvL K tb σ G M1 M2 ds) (ok : Ok G M H) (hσ : ∀ v w, (σ.set i (some v)).set j (some w) = σ' v w)
    (k : ∀ v p vs G' H', Same G G' → Ok G' (upd M2 p (.lst vs)) H' → M2 p = none → P1 v G' → DqAll K G' vs ds → u D (σ' v (.ref p)) H') : tSeq (tAsg (tTup (tCons ta (tCons tb tNil))) (gTup K 2 (gCons (gName i) (gCons (gName j) gNil)))) u D σ H :=
  ha G H (Same.refl _) ok _ fun v G1 H1 s1 k1 hv => hb G1 H1 s1 k1 _ fun p vs G2 H2 s2 k2 hp hd => tup_go (K := K) k2 (fun G3 H3 s3 k3 => by
    rw [hσ]
    exact k v p vs G3 H3 ((s1.trans s2).trans s3) k3 hp (m _ _ _ (s2.trans s3) hv) (dpAll_up s3 _ hd)) v
theorem q_nilU (h : u D σ H) : tNext { D with nx := u D } σ H := h
theorem orR_l {S R T : Type} {s : S} {f : S → Option T} {g : R → Option T} {r : Option T} (h : orR (.inl s) f g = r) : f s = r := h
end
end Kx
end
section
set_option maxHeartbeats 2000000
namespace Kx
open PySem L2
/-! ### enumerate of a tuple, zip of lists and tuples -/
def SqB (K : PySem.W.Frag) : Bool → Hp → Addr → List V → Prop
  | true => SqT K
  | false => SqL K
def IteT (K : PySem.W.Frag) (a : Addr) : It :=
  ⟨fun i H => ∃ (xs : List V) (x : V), SqT K H a xs ∧ xs[i]? = some x, fun i H v H' => ∃ T x, v = .ref T ∧ H T = none ∧ H' = upd H T (.tup [.int (i : Nat), x]) ∧ ∀ xs, SqT K H a xs → xs[i]? = some x, fun i H => ∃ xs : List V, SqT K H a xs ∧ xs.length = i⟩
def ItzB (K : PySem.W.Frag) (ka kb : Bool) (a b : Addr) : It :=
  ⟨fun i H => ∃ (xs ys : List V) (x y : V), SqB K ka H a xs ∧ SqB K kb H b ys ∧ xs[i]? = some x ∧ ys[i]? = some y,
    fun i H v H' => ∃ T x y, v = .ref T ∧ H T = none ∧ H' = upd H T (.tup [x, y]) ∧ (∀ xs, SqB K ka H a xs → xs[i]? = some x) ∧ ∀ ys, SqB K kb H b ys → ys[i]? = some y,
    fun i H => ∃ xs ys : List V, SqB K ka H a xs ∧ SqB K kb H b ys ∧ min xs.length ys.length = i⟩
def iEnumT (K : PySem.W.Frag) (ta : TA) : TI := fun σ H R => ta σ H fun vs H1 => ∃ a xs, vs = [.ref a] ∧ SqT K H1 a xs ∧ R (IteT K a) H1
def iZipB (K : PySem.W.Frag) (ka kb : Bool) (ta : TA) : TI := fun σ H R => ta σ H fun vs H1 => ∃ a b xs ys, vs = [.ref a, .ref b] ∧ SqB K ka H1 a xs ∧ SqB K kb H1 b ys ∧ R (ItzB K ka kb a b) H1
def IterB : Bool → Heap → Addr → Addr → Nat → Prop
  | true => fun h it a i => h.IsTupleIter it a i
  | false => fun h it a i => h.IsListIter it a i
def SeqB : Bool → Heap → Addr → Array Value → Prop
  | true => fun h a its => h.IsTuple a its
  | false => fun h a its => h.IsList a its
theorem IterB.at {k : Bool} {h h' : Heap} {it a : Addr} {i : Nat} (x : IterB k h it a i) (e : ∀ o, h.get? it = some o → h'.get? it = some o) : IterB k h' it a i := by
  cases k with
  | true => exact Heap.IsTupleIter.at x e
  | false => exact Heap.IsListIter.at x e
theorem IterB.obj {k : Bool} {h : Heap} {it a : Addr} {i : Nat} (x : IterB k h it a i) : ∃ o, h.get? it = some o ∧ ∀ v, o.data ≠ .cell v := by
  cases k with
  | true =>
    obtain ⟨o, ho, _, hd⟩ := (show h.IsTupleIter it a i from x)
    exact ⟨o, ho, fun v q => by rw [hd] at q; cases q⟩
  | false =>
    obtain ⟨o, ho, _, hd⟩ := (show h.IsListIter it a i from x)
    exact ⟨o, ho, fun v q => by rw [hd] at q; cases q⟩
def itName : Bool → String
  | true => "tuple_iterator"
  | false => "list_iterator"
theorem begins_B (k : Bool) (a : Addr) (items : Array Value) : Begins (.ref a) { cls := .type (itName k), data := .fields #[.ref a, .int 0 0] } fun h => SeqB k h a items := by
  cases k with
  | true => exact begins_tuple a items
  | false => exact begins_list a items
theorem iterB_new {k : Bool} {h : Heap} {it a : Addr} (e : h.get? it = some { cls := .type (itName k), data := .fields #[.ref a, .int 0 0] }) : IterB k h it a 0 := by
  cases k with
  | true => exact ⟨_, e, rfl, rfl⟩
  | false => exact ⟨_, e, rfl, rfl⟩
theorem drawsB {prog : Program} {w : World} {A : Around} (k : Bool) (hh : A.handled = none) (it a : Addr) (hne : a ≠ it) (items : Array Value) : Draws prog w A it [it, a] items.size (fun i v => items[i]? = some v) (fun i h => IterB k h it a i ∧ SeqB k h a items) := by
  cases k with
  | true => exact Draws.tuple hh it a hne items
  | false => exact Draws.list hh it a hne items
section
variable {X : Cx} {pins : List (Addr × Obj)} {σ : St} {H : Hp} {s : Shared}
theorem seqB_of {k : Bool} {a : Addr} {xs : List V} (I : Inv X pins σ H s) (h : SqB X.K k H a xs) : ∃ its, Vals xs its ∧ SeqB k s.heap a its.toArray ∧ a < s.heap.objs.size := by
  cases k with
  | true =>
    obtain ⟨its, rv, p, _⟩ := I.tuple h
    obtain ⟨o, ho, _⟩ := id p
    exact ⟨its, rv, p, Heap.lt_size ho⟩
  | false =>
    obtain ⟨its, rv, p, _⟩ := I.list h
    exact ⟨its, rv, p.isList, p.lt⟩
theorem sqB_inj {k : Bool} {a : Addr} {xs ys : List V} (I : Inv X pins σ H s) (h : SqB X.K k H a xs) (h' : SqB X.K k H a ys) : xs = ys := by
  cases k with
  | true => exact I.tuple_inj h h'
  | false => exact I.list_inj h h'
end
theorem turn_enumT {P : Program} {w : World} {K : PySem.W.Frag} {elts : List Expr} {kk : Nat} {tpos : Pos} (a e it : Addr) :
    Turn P w K (.Tuple elts kk tpos) (IteT K a) [e, it] e (fun i h => (∃ old, IsEnum h e it ((i : Nat) : Int) old) ∧ IterB true h it a i ∧ e ≠ it ∧ a ≠ it ∧ a ≠ e) where
  mem := by simp
  obj := fun i h st b hb => by
    obtain ⟨⟨old, he⟩, hi, _⟩ := st
    have e' : b = e ∨ b = it := by simpa using hb
    rcases e' with z | z
    · rw [z]; exact ⟨_, he, fun v q => nomatch q⟩
    · rw [z]; exact hi.obj
  keep := fun i h h' st k => let ⟨⟨old, he⟩, hi, hne⟩ := st; ⟨⟨old, k e (by simp) _ he⟩, hi.at fun o q => k it (by simp) o q, hne⟩
  item := by
    intro X hP hw hK hc i pins s σ H E I hf st hg
    subst hP hw hK
    obtain ⟨⟨old, he⟩, hit, hne, hai, hae⟩ := st
    obtain ⟨xs, x, hq, hx⟩ := hg
    obtain ⟨its, rv, p, hz⟩ := seqB_of (k := true) I hq
    have hlen := rv.length
    have hil' : i < xs.length := (List.getElem?_eq_some_iff.mp hx).1
    have hel : e < s.heap.objs.size := Heap.lt_size he
    have hil : it < s.heap.objs.size := by obtain ⟨_, q, _⟩ := hit.obj; exact Heap.lt_size q
    refine wpAny_pyNext_enum_itemD (drawsB (A := X.A.in1) true (show X.A.in1.handled = none from I.ok.hd hc) it a hai its.toArray) he ⟨hit, p⟩ (by simp; omega) hne (by simp [hne, Ne.symm hae]) fun u h' tk hu ho hit' hT hsz hk => ?_
    obtain ⟨u', hu', ru⟩ := rv.get hx
    have eu : u = u' := by
      have : its.toArray[i]? = some u' := by simpa using hu'
      rw [hu] at this
      exact Option.some.inj this
    subst eu
    refine ⟨_, rfl, wpAny_letOwnedTupleGo_enum (s := { s with heap := h', toks := tk + 1 }) ho fun h'' he' sb => ?_⟩
    have hT2 : h''.get? s.heap.objs.size = some { cls := .type "tuple", data := .seq #[.int i tk, u] } := (sb.2 _ (Nat.ne_of_gt hel)).trans hT
    have new : ObjOk X.prog X.w (upd H s.heap.objs.size (.tup [.int (i : Nat), x])) h'' s.heap.objs.size (.tup [.int (i : Nat), x]) :=
      ⟨by show 2 ≤ sizeLine; decide, [.int i tk, u], .cons ⟨_, rfl⟩ (.cons ru .nil), ⟨_, hT2, rfl, _, rfl⟩⟩
    have I1 : Inv X pins σ (upd H s.heap.objs.size (.tup [.int (i : Nat), x])) { s with heap := h'', toks := tk + 1 } :=
      I.turnedNew (ch := [e, it]) (fun b ob hb q => (sb.2 b (fun z => hb (by simp [z]))).trans (hk b ob (fun z => hb (by simp [z])) (fun z => hb (by simp [z])) q)) hf (Nat.le_refl _) new
    refine ⟨.ref s.heap.objs.size, _, I1, rfl, ⟨_, x, rfl, I.hok.fresh (Nat.le_refl _), rfl, fun ys hy => by rw [I.tuple_inj hy hq]; exact hx⟩, ⟨⟨u, ?_⟩, hit'.1.at fun o q => (sb.2 it (Ne.symm hne)).trans q, hne, hai, hae⟩, fun b hb => ?_⟩
    · have e1 : ((i + 1 : Nat) : Int) = (i : Int) + 1 := by omega
      rw [e1]; exact he'
    · have hb' : b < s.heap.objs.size := by
        have e' : b = e ∨ b = it := by simpa using hb
        rcases e' with z | z
        · rw [z]; exact hel
        · rw [z]; exact hil
      rw [upd_ne (Nat.ne_of_lt hb')]
      exact (hf b hb).1
  done := by
    intro X hP hw hK hc i pins s σ H E I hf st hg
    subst hP hw hK
    obtain ⟨⟨old, he⟩, hit, hne, hai, hae⟩ := st
    obtain ⟨xs, hq, hx⟩ := hg
    obtain ⟨its, rv, p, hz⟩ := seqB_of (k := true) I hq
    obtain ⟨f0, f1, f2, f3, f4, f5⟩ := hf it (by simp)
    have hl := rv.length
    have en : its.toArray.size = i := by simp; omega
    exact wpAny_pyNext_enum_endD (drawsB (A := X.A.in1) true (show X.A.in1.handled = none from I.ok.hd hc) it a hai its.toArray) he (by rw [en]; exact ⟨hit, p⟩) fun h' eb => ⟨rfl, I.turned (t' := s.toks) (fun b o hb q => eb b o hb q) f0 f1 f3 f4 f5⟩
  self := fun A i s Q E st h => let ⟨⟨_, he⟩, _⟩ := st; wpAny_pyIter_enum he h
end Kx
namespace PySem
theorem meets_enumerate_newB1 {v : Value} {o : Obj} {H : Heap → Prop} (B : Begins v o H) :
    Meets (Builtin.«enumerate.__new__» ⟨[.type "enumerate", v], []⟩) (fun _ R s => H s.heap ∧
      R (.ok (.ret (.ref (s.heap.push o).objs.size))) { s with heap := (s.heap.push o).push { cls := .type "enumerate", data := .fields #[.none, .bool false, .ref s.heap.objs.size, rawInt 0, .none, .none] } }) :=
  .of_wp fun prog w A R s h => by
    obtain ⟨hp, g, d, tk, os⟩ := s; obtain ⟨h1, h⟩ := h
    have hsub := sub_enumerate
    have q1 : ∀ {A' : Around} {E : Value → Shared → Prop} {Q : Value → Shared → Prop}, Q (.ref hp.objs.size) ⟨hp.push o, g, d, tk, os⟩ → wpAny (model prog w) A' (pyIter v) Q E ⟨hp, g, d, tk, os⟩ :=
      fun q => B.iter prog w _ _ ⟨hp, g, d, tk, os⟩ _ h1 q
    wp_walk using q1
    refine wpAny_stack_any fun st => wpAny_pure ?_
    split
    · rename_i c _ _ _ _ _
      cases (c == Value.type "enumerate")
      · wp_walk using q1
        exact ⟨_, rfl, h⟩
      · wp_walk using q1
        exact ⟨_, rfl, h⟩
    · wp_walk using q1
      exact ⟨_, rfl, h⟩
theorem enum_begins1 {prog : Program} {w : World} {A : Around} {E : Value → Shared → Prop} {s : Shared} {v : Value} {o : Obj} {H : Heap → Prop} {Q : Value → Shared → Prop} (B : Begins v o H) (h1 : H s.heap)
    (h : ∀ h', IsEnum h' (s.heap.objs.size + 1) s.heap.objs.size 0 .none → h'.get? s.heap.objs.size = some o → h'.objs.size = s.heap.objs.size + 2 →
      (∀ b o, s.heap.get? b = some o → h'.get? b = some o) → Q (.ref (s.heap.objs.size + 1)) { s with heap := h' }) :
    wpAny (model prog w) A (call (.type "enumerate") [v]) Q E s := by
  refine callType_new F.called_enumerate (by decide) (F.typeCall_enumerate_1 _) (F.newCall_enumerate_1 _) (fun obj => F.args_object_init_2 obj _) F.entry_enumerate_new
    (meets_enumerate_newB1 B) ⟨h1, ?_⟩
  have hz : (s.heap.push o).objs.size = s.heap.objs.size + 1 := Heap.size_push ..
  show _ ∧ _
  rw [hz]
  have he : IsEnum ((s.heap.push o).push { cls := .type "enumerate", data := .fields #[.none, .bool false, .ref s.heap.objs.size, rawInt 0, .none, .none] }) (s.heap.objs.size + 1) s.heap.objs.size 0 .none := by
    have := Heap.get?_push_size (s.heap.push o) (o := { cls := .type "enumerate", data := .fields #[.none, .bool false, .ref s.heap.objs.size, rawInt 0, .none, .none] }) rfl
    rw [hz] at this; exact this
  refine ⟨⟨_, he, rfl⟩, h _ he (Heap.get?_push_of_some _ (Heap.get?_push_size _ B.free)) (by rw [Heap.size_push, hz]) fun b o x => Heap.get?_push_of_some _ (Heap.get?_push_of_some _ x)⟩
end PySem
namespace Kx
open PySem L2
theorem pi_enumT {X : Cx} {e : Expr} {ta : TA} {p pos tpos : Pos} {elts : List Expr} {kk : Nat} (hg : Gl X "enumerate") (hm : X.mg "enumerate" = none) (ha : PA X [e] ta) (hs : starEach [e] X.env = [(false, eval e X.env)] := by rfl) :
    PI X (.Tuple elts kk tpos) (.Call (.Name "enumerate" p) [e] [] pos) (iEnumT X.K ta) := by
  refine ⟨fun pins s σ H R I h => ?_⟩
  refine PyProof.Rows.Call_ (ld_blt I hg hm PyProof.Rows.boot_enumerate (PyProof.Rows.callWith_type1 (thn (ha.run pos pins s σ H _ I h) fun us s1 ⟨vs, H1, I1, r1, q1⟩ => ?_) hs rfl))
  obtain ⟨a, xs, ex, hq, q⟩ := q1
  subst ex
  cases r1 with
  | cons r rr =>
    cases rr
    cases r
    obtain ⟨its, rv, p', hz⟩ := seqB_of (k := true) I1 hq
    refine enum_begins1 (begins_B true a its.toArray) p' fun h' he hit hsz hk => wpAny_pyIter_enum he ?_
    have I2 : Inv X pins σ H1 { s1 with heap := h' } := I1.kept (t' := s1.toks) hk
    refine ⟨s1.heap.objs.size + 1, [s1.heap.objs.size + 1, s1.heap.objs.size], _, _, H1, rfl, I2, turn_enumT a (s1.heap.objs.size + 1) s1.heap.objs.size, ⟨⟨.none, he⟩, iterB_new hit, Nat.succ_ne_self _, Nat.ne_of_lt hz, Nat.ne_of_lt (Nat.lt_succ_of_lt hz)⟩, fun b hb => ?_, q⟩
    have e' : b = s1.heap.objs.size + 1 ∨ b = s1.heap.objs.size := by simpa using hb
    have hle : s1.heap.objs.size ≤ b := by
      rcases e' with z | z
      · rw [z]; exact Nat.le_add_right _ _
      · rw [z]; exact Nat.le_refl _
    exact I1.fpOk hle (I1.hok.fresh hle)
theorem turn_zipB {P : Program} {w : World} {K : PySem.W.Frag} {ka kb : Bool} {elts : List Expr} {kk : Nat} {tpos : Pos} {a b z TI TO i1 i2 : Addr} (D : ZipSep2 z TI TO i1 i2 [i1, a] [i2, b]) (ha : a ≠ i1) (hb : b ≠ i2) :
    Turn P w K (.Tuple elts kk tpos) (ItzB K ka kb a b) [z, TI, TO, i1, i2] z (fun i h => IsZip h z TI TO .none ∧ IsTupOf2 h TI (.ref i1) (.ref i2) ∧ (∃ x y, IsTupOf2 h TO x y) ∧ IterB ka h i1 a i ∧ IterB kb h i2 b i) where
  mem := by simp
  obj := fun i h st c hc => by
    obtain ⟨hz, hTI, ⟨x, y, hTO⟩, h1, h2⟩ := st
    have e' : c = z ∨ c = TI ∨ c = TO ∨ c = i1 ∨ c = i2 := by simpa using hc
    rcases e' with q | q | q | q | q
    · rw [q]; exact ⟨_, hz, fun v q => nomatch q⟩
    · rw [q]; exact ⟨_, hTI, fun v q => nomatch q⟩
    · rw [q]; exact ⟨_, hTO, fun v q => nomatch q⟩
    · rw [q]; exact h1.obj
    · rw [q]; exact h2.obj
  keep := fun i h h' st k => by
    obtain ⟨hz, hTI, ⟨x, y, hTO⟩, h1, h2⟩ := st
    exact ⟨k z (by simp) _ hz, k TI (by simp) _ hTI, ⟨x, y, k TO (by simp) _ hTO⟩, h1.at fun o q => k i1 (by simp) o q, h2.at fun o q => k i2 (by simp) o q⟩
  item := by
    intro X hP hw hK hc i pins s σ H E I hf st hg
    subst hP hw hK
    obtain ⟨hz, hTI, ⟨x0, y0, hTO⟩, h1, h2⟩ := st
    obtain ⟨xs, ys, x, y, hqx, hqy, hx, hy⟩ := hg
    obtain ⟨its, rv, p, _⟩ := seqB_of I hqx
    obtain ⟨its2, rv2, p2, _⟩ := seqB_of I hqy
    have l1 := rv.length
    have l2 := rv2.length
    have g1 : i < xs.length := (List.getElem?_eq_some_iff.mp hx).1
    have g2 : i < ys.length := (List.getElem?_eq_some_iff.mp hy).1
    have hzl : z < s.heap.objs.size := Heap.lt_size hz
    have hh : X.A.in1.handled = none := I.ok.hd hc
    refine wpAny_pyNext_zipD2_item D (drawsB (A := X.A.in1) ka hh i1 a ha its.toArray) (drawsB (A := X.A.in1) kb hh i2 b hb its2.toArray) hz hTI hTO ⟨h1, p⟩ ⟨h2, p2⟩ (by simp; omega) (by simp; omega) fun u u2 h' tk hu hu2 z' TO' h1' h2' hT hsz hk => ?_
    have ru : RelV x u := by
      obtain ⟨w, hw, r⟩ := rv.get hx
      have e : its.toArray[i]? = some w := by simpa using hw
      rw [hu] at e
      cases e
      exact r
    have ru2 : RelV y u2 := by
      obtain ⟨w, hw, r⟩ := rv2.get hy
      have e : its2.toArray[i]? = some w := by simpa using hw
      rw [hu2] at e
      cases e
      exact r
    refine ⟨_, rfl, wpAny_letOwnedTupleGo_zip (s := { s with heap := h', toks := tk }) z' fun h'' z'' sb => ?_⟩
    have hT2 : h''.get? s.heap.objs.size = some { cls := .type "tuple", data := .seq #[u, u2] } := (sb.2 _ (Nat.ne_of_gt hzl)).trans hT
    have new : ObjOk X.prog X.w (upd H s.heap.objs.size (.tup [x, y])) h'' s.heap.objs.size (.tup [x, y]) :=
      ⟨by show 2 ≤ sizeLine; decide, [u, u2], .cons ru (.cons ru2 .nil), ⟨_, hT2, rfl, _, rfl⟩⟩
    have I1 : Inv X pins σ (upd H s.heap.objs.size (.tup [x, y])) { s with heap := h'', toks := tk } :=
      I.turnedNew (t' := tk) (ch := [z, TI, TO, i1, i2]) (fun c o hb q => (sb.2 c (fun q' => hb (by simp [q']))).trans (hk c o (fun q' => hb (by simp [q'])) (fun q' => hb (by simp [q'])) (fun q' => hb (by simp [q'])) (fun q' => hb (by simp [q'])) q)) hf (Nat.le_refl _) new
    refine ⟨.ref s.heap.objs.size, _, I1, rfl, ⟨_, x, y, rfl, I.hok.fresh (Nat.le_refl _), rfl, fun l hl => by rw [sqB_inj I hl hqx]; exact hx, fun l hl => by rw [sqB_inj I hl hqy]; exact hy⟩, ⟨z'', ?_, ⟨u, u2, ?_⟩, ?_, ?_⟩, fun c hcm => ?_⟩
    · exact (sb.2 _ D.TIz).trans (hk _ _ D.TIz D.TITO D.TIi1 D.TIi2 hTI)
    · exact (sb.2 _ D.TOz).trans TO'
    · exact h1'.1.at fun o q => (sb.2 _ (Ne.symm D.zi1)).trans q
    · exact h2'.1.at fun o q => (sb.2 _ (Ne.symm D.zi2)).trans q
    · have hlt : c < s.heap.objs.size := by
        have e' : c = z ∨ c = TI ∨ c = TO ∨ c = i1 ∨ c = i2 := by simpa using hcm
        rcases e' with q | q | q | q | q
        · rw [q]; exact hzl
        · rw [q]; exact Heap.lt_size hTI
        · rw [q]; exact Heap.lt_size hTO
        · rw [q]; obtain ⟨_, e1, _⟩ := h1.obj; exact Heap.lt_size e1
        · rw [q]; obtain ⟨_, e2, _⟩ := h2.obj; exact Heap.lt_size e2
      rw [upd_ne (Nat.ne_of_lt hlt)]
      exact (hf c hcm).1
  done := by
    intro X hP hw hK hc i pins s σ H E I hf st hg
    subst hP hw hK
    obtain ⟨hz, hTI, ⟨x0, y0, hTO⟩, h1, h2⟩ := st
    obtain ⟨xs, ys, hqx, hqy, hend⟩ := hg
    obtain ⟨its, rv, p, _⟩ := seqB_of I hqx
    obtain ⟨its2, rv2, p2, _⟩ := seqB_of I hqy
    have l1 := rv.length
    have l2 := rv2.length
    have hh : X.A.in1.handled = none := I.ok.hd hc
    exact wpAny_pyNext_zipD2_end D (drawsB (A := X.A.in1) ka hh i1 a ha its.toArray) (drawsB (A := X.A.in1) kb hh i2 b hb its2.toArray) hz hTI hTO ⟨h1, p⟩ ⟨h2, p2⟩ (by simp; omega) (by simp; omega) (by simp; omega) fun h' tk hk => ⟨rfl, I.turnedL (t' := tk) (ch := [z, TI, TO, i1, i2]) (fun c o hb q =>
      hk c o (fun q' => hb (by simp [q'])) (fun q' => hb (by simp [q'])) (fun q' => hb (by simp [q'])) (fun q' => hb (by simp [q'])) q) hf⟩
  self := fun A i s Q E st h => wpAny_pyIter_zip st.1 h
theorem pi_zipB (ka kb : Bool) {X : Cx} {e e2 : Expr} {ta : TA} {p pos tpos : Pos} {elts : List Expr} {kk : Nat} (hg : Gl X "zip") (hm : X.mg "zip" = none) (ha : PA X [e, e2] ta)
    (hs : starEach [e, e2] X.env = (false, eval e X.env) :: starEach [e2] X.env := by rfl) (hpl : (backTo pos (starEach [e2] X.env)).any (·.1) = false := by rfl) :
    PI X (.Tuple elts kk tpos) (.Call (.Name "zip" p) [e, e2] [] pos) (iZipB X.K ka kb ta) := by
  refine ⟨fun pins s σ H R I h => ?_⟩
  refine PyProof.Rows.Call_ (ld_blt I hg hm PyProof.Rows.boot_zip (PyProof.Rows.callWith_type1 (thn (ha.run pos pins s σ H _ I h) fun us s1 ⟨vs, H1, I1, r1, q1⟩ => ?_) hs hpl))
  obtain ⟨a, b, xs, ys, ex, hqx, hqy, q⟩ := q1
  subst ex
  cases r1 with
  | cons r rr =>
    cases rr with
    | cons r' rr =>
      cases rr
      cases r
      cases r'
      have fresh5 : ∀ c, c ∈ [s1.heap.objs.size + 4, s1.heap.objs.size + 2, s1.heap.objs.size + 3, s1.heap.objs.size, s1.heap.objs.size + 1] → FpOk X pins H1 c := fun c hcm => by
        have e' : c = s1.heap.objs.size + 4 ∨ c = s1.heap.objs.size + 2 ∨ c = s1.heap.objs.size + 3 ∨ c = s1.heap.objs.size ∨ c = s1.heap.objs.size + 1 := by simpa using hcm
        have hle : s1.heap.objs.size ≤ c := by
          rcases e' with z | z | z | z | z
          · rw [z]; exact Nat.le_add_right _ _
          · rw [z]; exact Nat.le_add_right _ _
          · rw [z]; exact Nat.le_add_right _ _
          · rw [z]; exact Nat.le_refl _
          · rw [z]; exact Nat.le_add_right _ _
        exact I1.fpOk hle (I1.hok.fresh hle)
      obtain ⟨its, rv, p1, la⟩ := seqB_of I1 hqx
      obtain ⟨its2, rv2, p2, lb⟩ := seqB_of I1 hqy
      refine zip_begins2 (begins_B ka a its.toArray) (begins_B kb b its2.toArray) p1 p2 fun h' hz hTI hTO h1 h2 hsz hk => wpAny_pyIter_zip hz ?_
      have I2 : Inv X pins σ H1 { s1 with heap := h' } := I1.kept (t' := s1.toks) hk
      exact ⟨s1.heap.objs.size + 4, [s1.heap.objs.size + 4, s1.heap.objs.size + 2, s1.heap.objs.size + 3, s1.heap.objs.size, s1.heap.objs.size + 1], _, _, H1, rfl, I2, turn_zipB (zip_sep2 (fp1 := [a]) (fp2 := [b]) (by simpa using la) (by simpa using lb)) (Nat.ne_of_lt la) (Nat.ne_of_lt (Nat.lt_succ_of_lt lb)), ⟨hz, hTI, ⟨_, _, hTO⟩, iterB_new h1, iterB_new h2⟩, fresh5, q⟩
section
variable {K : PySem.W.Frag} {σ : St} {G G' M M1 M2 M3 : Hp} {ta tb te tc : TE} {P P1 P2 : VP} {d e : Dat} {ds es : List Dat}
def seqD : Bool → List Dat → Dat
  | true => .tuple
  | false => .list
theorem sqB_of {k : Bool} {v : V} {G : Hp} (h : Dq K G v (seqD k ds)) : ∃ a vs, v = .ref a ∧ (∀ H, Same G H → SqB K k H a vs) ∧ DqAll K G vs ds := by
  cases k with
  | true =>
    obtain ⟨a, vs, rfl, h1, h2⟩ := dp_tuple h
    exact ⟨a, vs, rfl, fun H s => sqT_up s h1, h2⟩
  | false =>
    obtain ⟨a, vs, rfl, h1, h2⟩ := dp_list h
    exact ⟨a, vs, rfl, fun H s => .inl (.inl (s _ _ h1)), h2⟩
theorem src_enumT [Tb] {ta : TA} (h : EvA ta σ G M M1 (conP (DD K (.tuple ds)) nilP)) : Src K (iEnumT K ta) σ G M M1 (enumD ds) := fun G0 H s k R q =>
  h G0 H s k _ fun vs G1 H1 s1 k1 hv => by
    obtain ⟨v, rfl, hw⟩ := one_of (R := nilP) hv
    obtain ⟨a, vs, rfl, h1, h2⟩ := dp_tuple hw
    refine ⟨a, vs, rfl, sqT_up k1.g h1, q _ G1 H1 s1 k1 ?_⟩
    have w : Walk (IteT K a) vs.length (fun H => SqT K H a vs) (YPair (fun i => some (.int (i : Nat))) (fun i => vs[i]?)) := by
      refine ⟨fun i _ hi q => ⟨vs, vs[i], q, by simp [hi]⟩, fun _ q => ⟨vs, q, rfl⟩, fun i H v H' _ q y => ?_⟩
      obtain ⟨T, x, h1, h2, h3, h4⟩ := y
      exact ⟨T, .int (i : Nat), x, h1, h2, h3, rfl, h4 vs q⟩
    refine walks_pair w (by simp [enumD, dpAll_len h2]) (fun H s => sqT_up s h1) fun i d x y hd hx hy => ?_
    cases hx
    unfold enumD at hd
    rw [List.getElem?_mapIdx] at hd
    cases e : ds[i]? with
    | none => rw [e] at hd; cases hd
    | some d' =>
      rw [e] at hd
      cases hd
      exact ⟨_, _, rfl, .int _, dqAll_at h2 hy e⟩
theorem src_zipB [Tb] {ka kb : Bool} {ta : TA} (h : EvA ta σ G M M1 (conP (DD K (seqD ka ds)) (conP (DD K (seqD kb es)) nilP))) : Src K (iZipB K ka kb ta) σ G M M1 (zipD ds es) := fun G0 H s k R q =>
  h G0 H s k _ fun vs G1 H1 s1 k1 hv => by
    obtain ⟨v, w, rfl, hv1, hw1⟩ := two_of hv
    obtain ⟨a, vs, rfl, h1, h2⟩ := sqB_of hv1
    obtain ⟨b, ws, rfl, h3, h4⟩ := sqB_of hw1
    refine ⟨a, b, vs, ws, rfl, h1 _ k1.g, h3 _ k1.g, q _ G1 H1 s1 k1 ?_⟩
    have w : Walk (ItzB K ka kb a b) (min vs.length ws.length) (fun H => SqB K ka H a vs ∧ SqB K kb H b ws) (YPair (fun i => vs[i]?) (fun i => ws[i]?)) := by
      refine ⟨fun i _ hi q => ?_, fun _ q => ⟨vs, ws, q.1, q.2, rfl⟩, fun i H v H' _ q y => ?_⟩
      · have h1 : i < vs.length := by omega
        have h2 : i < ws.length := by omega
        exact ⟨vs, ws, vs[i], ws[i], q.1, q.2, by simp [h1], by simp [h2]⟩
      · obtain ⟨T, x, z, h1, h2, h3, h4, h5⟩ := y
        exact ⟨T, x, z, h1, h2, h3, h4 vs q.1, h5 ws q.2⟩
    refine walks_pair w (by simp [zipD, dpAll_len h2, dpAll_len h4]) (fun H s => ⟨h1 _ s, h3 _ s⟩) fun i d x y hd hx hy => ?_
    obtain ⟨p, q, rfl, e1, e2⟩ := zipD_get hd
    exact ⟨p, q, rfl, dqAll_at h2 hx e1, dqAll_at h4 hy e2⟩
end
end Kx
end
section
set_option maxHeartbeats 2000000
namespace Kx
open PySem L2
section
variable {X : Cx} {K : PySem.W.Frag}
theorem ix_listK (h : X.K = K := by rfl) : IxR X (rIxL K) := h ▸ ix_list
theorem ix_tupK (h : X.K = K := by rfl) : IxR X (rIxT K) := h ▸ ix_tup
theorem sl_listK (h : X.K = K := by rfl) : SlR X (rSlL K) := h ▸ sl_list
theorem sl_tupK (h : X.K = K := by rfl) : SlR X (rSlF K) := h ▸ sl_tupF
theorem cl_lenK (h : X.K = K := by rfl) : CallR X (.builtin "len") (rLen K) := h ▸ cl_len
theorem cl_listK (h : X.K = K := by rfl) : CallR X (.type "list") (rListOf K) := h ▸ cl_list
theorem cl_tupleK (h : X.K = K := by rfl) : CallR X (.type "tuple") (rTupOf K) := h ▸ cl_tuple
theorem call_isiKK (h : X.K = K := by rfl) : CallR X (.builtin "isinstance") (rIsi K) := h ▸ call_isi
theorem cr_sumK (hc : X.calm = true) (h : X.K = K := by rfl) : CallR X (.builtin "sum") (rSum K) := h ▸ cr_sum hc
theorem cr_allK (hc : X.calm = true) (h : X.K = K := by rfl) : CallR X (.builtin "all") (rAll K) := h ▸ cr_all hc
theorem op_eqDK (hu : X.A.units + 64 < cLine) (h : X.K = K := by rfl) : OpR X (compareOp .Eq) (rEqD K) := h ▸ op_eqD hu
theorem op_catAK (h : X.K = K := by rfl) : OpR X (binaryOp .Add) (rCatF K) := h ▸ op_catF
theorem pi_listK {tg l : Expr} {tl : TE} (hl : PE X l tl) (h : X.K = K := by rfl) : PI X tg l (iList K tl) := h ▸ pi_list hl
theorem pi_tupK {tg l : Expr} {tl : TE} (hl : PE X l tl) (h : X.K = K := by rfl) : PI X tg l (iTup K tl) := h ▸ pi_tup hl
theorem pi_enumTK {e : Expr} {ta : TA} {p pos tpos : Pos} {elts : List Expr} {kk : Nat} (hg : Gl X "enumerate") (hm : X.mg "enumerate" = none) (ha : PA X [e] ta) (h : X.K = K := by rfl) (hs : starEach [e] X.env = [(false, eval e X.env)] := by rfl) :
    PI X (.Tuple elts kk tpos) (.Call (.Name "enumerate" p) [e] [] pos) (iEnumT K ta) := h ▸ pi_enumT hg hm ha hs
theorem pi_zipBK (ka kb : Bool) {e e2 : Expr} {ta : TA} {p pos tpos : Pos} {elts : List Expr} {kk : Nat} (hg : Gl X "zip") (hm : X.mg "zip" = none) (ha : PA X [e, e2] ta) (h : X.K = K := by rfl)
    (hs : starEach [e, e2] X.env = (false, eval e X.env) :: starEach [e2] X.env := by rfl) (hpl : (backTo pos (starEach [e2] X.env)).any (·.1) = false := by rfl) :
    PI X (.Tuple elts kk tpos) (.Call (.Name "zip" p) [e, e2] [] pos) (iZipB K ka kb ta) := h ▸ pi_zipB ka kb hg hm ha hs hpl
end
end Kx
end
section
set_option maxHeartbeats 2000000
namespace Kx
open PySem L2
/-! ### a call by names alone -/
structure KBw (K : PySem.W.Frag) (fd : FuncData) (ps ks : List Str) (g : {α : Type} → List α → List α) : Prop where
  to : ∀ (s : Shared) (ws : List Value), K.In s.heap → ws.length = ks.length → BindsTo s fd ⟨[], ks.zip ws⟩ (ps.zip (g ws))
  rel : ∀ {zs : List V} {ws : List Value}, Vals zs ws → Vals (g zs) (g ws)
def tCallKw (n : Nat) (sp : Sp) (gV : List V → List V) (E : XK) (tk : TA) : TE := fun σ H Q => tk σ H fun zs H2 => zs.length = n ∧ sp (gV zs) H2 Q E
theorem pe_callKw {X : Cx} {CX : CXT} {k : Nat} {f : Addr} {fd : FuncData} {ps ks : List Str} {sp : Sp} {E : XK} {x : Str} {p pos : Pos} {kws : List Keyword} {tk : TA} {g : {α : Type} → List α → List α}
    (F : FnOk X.prog X.w X.K X.mg X.base CX k f fd ps sp) (hr : Room k X.A) (hg : Gl X x) (hm : X.mg x = some (.ref f)) (hk : PySem.W.keepIn X.K (.ref f) = true) (hb : KBw X.K fd ps ks g) (hx : Passes CX X E)
    (hkw : PK X kws tk) (hall : (backToKw pos (keywordEach kws X.env)).all (·.1.isSome) = true := by rfl) (hks : (backToKw pos (keywordEach kws X.env)).filterMap (·.1) = ks := by rfl)
    (hdb : (x == ("__debug__" : Str)) = false := by decide)
    (hpl : ((backTo pos (starEach [] X.env)).any (·.1) || (backToKw pos (keywordEach kws X.env)).any (·.1.isNone)) = false := by rfl) :
    PE X (.Call (.Name x p) [] kws pos) (tCallKw ks.length sp g E tk) := by
  refine ⟨fun pins s σ H Q I h => ?_⟩
  refine wpAny_Call_Name_kw (ld_glob I hg hm ?_ hdb)
  refine PySem.W.callWith_KW0 (h₀ := X.base) I.ok.mod.kin hk hall (thn (hkw.run pos pins s σ H _ I h) fun ws s2 ⟨zs, H2, I2, rz, l2, q2⟩ => ⟨I2.kIn, ?_⟩) hpl
  rw [hks]
  have r2 := hb.rel rz
  refine wpAny_call (codeAny_mono (F.run X.A X.stack s2 H2 ⟨[], ks.zip ws⟩ (g ws) (g zs) Q E hr I2.env0 (hb.to s2 ws I2.kIn (rz.length.symm.trans l2)) r2 q2) fun r s' hq => ?_)
  cases r with
  | error e => exact hx pins σ H2 s2 e s' I2 hq
  | ok fl =>
    cases fl with
    | ret u => exact I2.after hq
    | next => exact False.elim hq
    | brk => exact False.elim hq
    | cont => exact False.elim hq
theorem kbw_of {K : PySem.W.Frag} {x qual : Str} {st : Stmt} {f : Addr} {fd : FuncData} {ps ks : List Str} {g : {α : Type} → List α → List α} (F : Fun K x qual st f fd)
    (h : ∀ (kV doc pm : Value) (an : Option Addr) (cdv ct : Value) (ws : List Value), ws.length = ks.length → bindArgs (PySem.W.fnOf x qual (defArgs st) (defBody st) (defScope st) .none kV doc pm an cdv ct) ⟨[], ks.zip ws⟩ = pure (ps.zip (g ws)))
    (hr : ∀ {zs : List V} {ws : List Value}, Vals zs ws → Vals (g zs) (g ws)) : KBw K fd ps ks g := by
  obtain ⟨oc, od, kV, doc, pm, an, cdv, ct, osl, rfl, lk, hcd⟩ := F.ex
  exact ⟨fun s ws _ hl => .of_eq (h kV doc pm an cdv ct ws hl), hr⟩
section
variable {K : PySem.W.Frag} {σ : St} {G G' M M1 M2 M3 : Hp} {ta tb te tc : TE} {P P1 P2 : VP} {d e : Dat} {ds es : List Dat} {D : Ends} {H : Hp} {u : TS}
/-- the values by names, put in the def's own order -/
theorem ev_callKP [Tb] {α ρ : Type} {args : α → List V → Hp → Prop} {m : α → Option ρ} {res : ρ → VP} {E : XK} {t : TA} {a : α} {r : ρ} {n : Nat} {gV : List V → List V} {Ps : List V → Hp → Prop} (hm : m a = some r) (hg : ∀ vs G, Ps vs G → vs.length = n ∧ args a (gV vs) G) (ha : EvA t σ G M M1 Ps) : Ev (tCallKw n (spP args m res) gV E t) σ G M M1 (res r) := fun G0 H s k Q q =>
  ha G0 H s k _ fun vs G1 H1 s1 k1 hv => ⟨(hg vs G1 hv).1, G1, M1, a, r, k1, (hg vs G1 hv).2, hm, fun v G2 H2 s2 k2 hr => q v G2 H2 (s1.trans s2) k2 hr⟩
/-! ### a list or a tuple -/
theorem ix_seqK {X : Cx} (h : X.K = K := by rfl) : IxR X (rIx K) := h ▸ ix_seq
/-! ### what may be None, and isn't -/
/-! ### the script -/
def SCP (K : PySem.W.Frag) (ns : List Int) : VP := fun v G => ∃ a, v = .ref a ∧ SqL K G a (ns.map V.int)
theorem mo_scp {ns : List Int} : Mo (SCP K ns) := fun _ _ _ s ⟨a, e, h⟩ => ⟨a, e, s.seq h⟩
theorem ev_lenScr [Tb] {ns : List Int} (ha : EvA (tCons ta tNil) σ G M M1 (conP (SCP K ns) nilP)) : Ev (tCB (rLen K) (tCons ta tNil)) σ G M M1 (DD K (.int (ns.length : Int))) := ev_cb ha fun xs G0 H s k hx Q q => by
  obtain ⟨v, rfl, a, rfl, ha⟩ := one_of (R := nilP) hx
  refine ⟨a, _, rfl, .inl (k.g.seq ha), q _ G0 H (Same.refl _) k ?_⟩
  rw [List.length_map]
  exact .int _
theorem ev_ixScr [Tb] {ns : List Int} {i x : Int} (hi : atI ns i = some x) (ha : Ev ta σ G M M1 (SCP K ns)) (hb : Ev tb σ G M1 M2 (DD K (.int i))) : Ev (tOp (rIxL K) ta tb) σ G M M2 (DD K (.int x)) := ev_op mo_scp ha hb fun x' y G0 H s k hx hy Q q => by
  obtain ⟨a, rfl, ha⟩ := hx
  cases hy
  exact ⟨a, _, i, .int x, rfl, rfl, k.g.seq ha, atI_map hi, q _ G0 H (Same.refl _) k (.int _)⟩
/-! ### a def that makes a store -/
def spO [Tb] {α : Type} (args : α → List V → Hp → Prop) (m : α → Option Sto) : Sp := fun vs H Q _ =>
  ∃ (G M : Hp) (a : α) (z : Sto), Ok G M H ∧ args a vs G ∧ m a = some z ∧ ∀ p G' H', Same G G' → Ok G' (upd M p (sto z)) H' → M p = none → Q (.ref p) H'
theorem q_retL [Tb] (he : EvL K te σ G M M1 ds) (ok : Ok G M H) (k : ∀ p vs G' H', Same G G' → Ok G' (upd M1 p (.lst vs)) H' → M1 p = none → DqAll K G' vs ds → D.rt (.ref p) H') : tSeq (tRet te) u D σ H := he G H (Same.refl _) ok _ k
theorem vs_sto {G : Hp} {vs : List V} {x y z : Int} (h : DqAll K G vs [.int x, .int y, .int z]) : vs = [.int x, .int y, .int z] := by
  cases h with
  | cons a b => cases a; cases b with
    | cons a b => cases a; cases b with
      | cons a b => cases a; cases b; rfl
/-- f(g(..)): the store that g makes is handed on to f -/
theorem ev_open [Tb] {α ρ : Type} {ao : α → List V → Hp → Prop} {mo : α → Option Sto} {args : Unit → List V → Hp → Prop} {m : Unit → Sto → Option (ρ × Sto)} {res : ρ → VP} {E E' : XK} {t : TA} {a : α} {z : Sto} {r : ρ × Sto} (h1 : mo a = some z) (h2 : m () z = some r) (hn : ∀ G, args () [] G) (ha : EvA t σ G M M1 (ao a)) :
    Ev (tCall (spD args m res) [] E (tCons (tCall (spO ao mo) [] E' t) tNil)) σ G M M1 (res r.1) := fun G0 H s k Q q =>
  ha G0 H s k _ fun vs G1 H1 s1 k1 hv => by
    rw [List.append_nil]
    refine ⟨G1, M1, a, z, k1, hv, h1, fun p G2 H2 s2 k2 hp => ?_⟩
    refine ⟨G2, upd M1 p (sto z), p, z, r.2, (), r.1, [], rfl, k2, upd_same, hn G2, h2, fun v G3 H3 s3 k3 hr => ?_⟩
    rw [upd_upd] at k3
    exact q v G3 H3 ((s1.trans s2).trans s3) (k3.less (Same.new hp)) hr
end
end Kx
end
section
namespace Kx
open PySem L2
/-- one draw -/
def pullM (a : Int) (z : Sto) : Option (Int × Sto) :=
  cond (decide ((0 : Int) < z.1)) ((dmO z.1 a).bind fun t1 => some (t1.2, (t1.1, z.2.1, z.2.2 + 1)))
    ((modO z.2.1 40961).bind fun t1 => (mulO z.2.1 (t1 + 20011)).bind fun t2 => (mulO 50021 (z.2.2 + 1)).bind fun t3 => (modO (t2 + t3 + 3) 1000000433).bind fun t4 => (fdivO t4 48).bind fun t5 => (modO t5 a).bind fun t6 => some (t6, (z.1, t4, z.2.2 + 1)))
end Kx
namespace Kx
open PySem L2
theorem same_upd2 {M0 M : Hp} {p : Addr} {o : HO} (h : Same M0 M) : Same (upd M0 p o) (upd M p o) := fun a u e => by
  by_cases ha : a = p
  · subst ha; rw [upd_same] at e ⊢; exact e
  · rw [upd_ne ha] at e ⊢; exact h a u e
end Kx
end
section
set_option maxHeartbeats 2000000
namespace Kx
open PySem L2
end Kx
end
section
set_option maxHeartbeats 2000000
namespace Kx
open PySem L2
section
variable {K : PySem.W.Frag} {σ σ' : St} {G G' M M1 M2 M3 : Hp} {ta tb te tc : TE} {P P1 P2 : VP} {d e : Dat} {ds es : List Dat} {D : Ends} {H : Hp} {u : TS}
/-! ### several targets at once -/
/-! the same where a tuple is made on the way -/
/-! ### things of any kind -/
def isT : Dat → Bool
  | .tuple _ => true
  | .rtup _ => true
  | _ => false
def isI : Dat → Bool
  | .int _ => true
  | .bool _ => true
  | _ => false
def isB : Dat → Bool
  | .bool _ => true
  | _ => false
def isS : Dat → Bool
  | .str _ => true
  | _ => false
/-- isinstance of a thing that is no instance of an own class -/
def isO (f : Dat → Bool) (d : Dat) : Option Bool := cond (isIns d) none (some (f d))
theorem isO_of {f : Dat → Bool} {b : Bool} (h : isO f d = some b) : isIns d = false ∧ f d = b := by
  unfold isO at h
  cases e : isIns d with
  | true => rw [e] at h; cases h
  | false => rw [e] at h; exact ⟨rfl, Option.some.inj h⟩
def IsC (n : String) (f : Dat → Bool) : Prop := ∀ d : Dat, isIns d = false → kitB (tyD d) n = some (f d)
theorem isc_T : IsC "tuple" isT := fun d h => by
  cases d with
  | none => exact (show kitB "NoneType" "tuple" = some false by decide +kernel)
  | bool _ => exact (show kitB "bool" "tuple" = some false by decide +kernel)
  | int _ => exact (show kitB "int" "tuple" = some false by decide +kernel)
  | str _ => exact (show kitB "str" "tuple" = some false by decide +kernel)
  | list _ => exact (show kitB "list" "tuple" = some false by decide +kernel)
  | tuple _ => exact (show kitB "tuple" "tuple" = some true by decide +kernel)
  | rtup _ => exact (show kitB "tuple" "tuple" = some true by decide +kernel)
  | dK _ _ => exact (show kitB "dict" "tuple" = some false by decide +kernel)
  | dT _ _ => exact (show kitB "dict" "tuple" = some false by decide +kernel)
  | ins _ _ _ => cases h
  | dN _ _ _ => cases h
theorem isc_I : IsC "int" isI := fun d h => by
  cases d with
  | none => exact (show kitB "NoneType" "int" = some false by decide +kernel)
  | bool _ => exact (show kitB "bool" "int" = some true by decide +kernel)
  | int _ => exact (show kitB "int" "int" = some true by decide +kernel)
  | str _ => exact (show kitB "str" "int" = some false by decide +kernel)
  | list _ => exact (show kitB "list" "int" = some false by decide +kernel)
  | tuple _ => exact (show kitB "tuple" "int" = some false by decide +kernel)
  | rtup _ => exact (show kitB "tuple" "int" = some false by decide +kernel)
  | dK _ _ => exact (show kitB "dict" "int" = some false by decide +kernel)
  | dT _ _ => exact (show kitB "dict" "int" = some false by decide +kernel)
  | ins _ _ _ => cases h
  | dN _ _ _ => cases h
theorem isc_B : IsC "bool" isB := fun d h => by
  cases d with
  | none => exact (show kitB "NoneType" "bool" = some false by decide +kernel)
  | bool _ => exact (show kitB "bool" "bool" = some true by decide +kernel)
  | int _ => exact (show kitB "int" "bool" = some false by decide +kernel)
  | str _ => exact (show kitB "str" "bool" = some false by decide +kernel)
  | list _ => exact (show kitB "list" "bool" = some false by decide +kernel)
  | tuple _ => exact (show kitB "tuple" "bool" = some false by decide +kernel)
  | rtup _ => exact (show kitB "tuple" "bool" = some false by decide +kernel)
  | dK _ _ => exact (show kitB "dict" "bool" = some false by decide +kernel)
  | dT _ _ => exact (show kitB "dict" "bool" = some false by decide +kernel)
  | ins _ _ _ => cases h
  | dN _ _ _ => cases h
theorem isc_S : IsC "str" isS := fun d h => by
  cases d with
  | none => exact (show kitB "NoneType" "str" = some false by decide +kernel)
  | bool _ => exact (show kitB "bool" "str" = some false by decide +kernel)
  | int _ => exact (show kitB "int" "str" = some false by decide +kernel)
  | str _ => exact (show kitB "str" "str" = some true by decide +kernel)
  | list _ => exact (show kitB "list" "str" = some false by decide +kernel)
  | tuple _ => exact (show kitB "tuple" "str" = some false by decide +kernel)
  | rtup _ => exact (show kitB "tuple" "str" = some false by decide +kernel)
  | dK _ _ => exact (show kitB "dict" "str" = some false by decide +kernel)
  | dT _ _ => exact (show kitB "dict" "str" = some false by decide +kernel)
  | ins _ _ _ => cases h
  | dN _ _ _ => cases h
theorem ev_isiD [Tb] {n : String} {f : Dat → Bool} {b : Bool} (hc : IsC n f) (h : isO f d = some b) (ha : EvA (tCons ta (tCons tb tNil)) σ G M M1 (conP (DD K d) (conP (CLS n) nilP))) : Ev (tCB (rIsi K) (tCons ta (tCons tb tNil))) σ G M M1 (DD K (.bool b)) := by
  obtain ⟨h1, h2⟩ := isO_of h
  exact ev_isi h1 (h2 ▸ hc d h1) ha
def lenD : Dat → Option Int
  | .tuple xs => some (xs.length : Int)
  | .list xs => some (xs.length : Int)
  | _ => none
theorem ev_lenD [Tb] {n : Int} (h : lenD d = some n) (ha : EvA (tCons ta tNil) σ G M M1 (conP (DD K d) nilP)) : Ev (tCB (rLen K) (tCons ta tNil)) σ G M M1 (DD K (.int n)) := by
  cases d with
  | tuple xs => cases h; exact ev_lenT ha
  | list xs => cases h; exact ev_lenL ha
  | _ => cases h
def atD : Dat → Int → Option Dat
  | .tuple xs, i => atI xs i
  | .list xs, i => atI xs i
  | _, _ => none
theorem ev_ixD [Tb] {i : Int} {x : Dat} (h : atD d i = some x) (ha : Ev ta σ G M M1 (DD K d)) (hb : Ev tb σ G M1 M2 (DD K (.int i))) : Ev (tOp (rIx K) ta tb) σ G M M2 (DD K x) := ev_op mo_dd ha hb fun v w G0 H s k hx hy Q q => by
  cases d with
  | tuple xs =>
    obtain ⟨a, vs, rfl, h1, h2⟩ := dp_tuple hx
    cases hy
    obtain ⟨v, h3, h4⟩ := atI_of h2 h
    exact .inr (.inl ⟨a, vs, i, v, rfl, rfl, sqT_up k.g h1, h3, q v G0 H (Same.refl _) k h4⟩)
  | list xs =>
    obtain ⟨a, vs, rfl, h1, h2⟩ := dp_list hx
    cases hy
    obtain ⟨v, h3, h4⟩ := atI_of h2 h
    exact .inl ⟨a, vs, i, v, rfl, rfl, .inl (.inl (k.g _ _ h1)), h3, q v G0 H (Same.refl _) k h4⟩
  | _ => cases h
def intD : Dat → Option Int
  | .int i => some i
  | _ => none
def strD : Dat → Option Str
  | .str x => some x
  | _ => none
def tupD : Dat → Option (List Dat)
  | .tuple x => some x
  | _ => none
theorem ev_intD [Tb] {i : Int} (h : intD d = some i) (ha : Ev ta σ G M M1 (DD K d)) : Ev ta σ G M M1 (DD K (.int i)) := by
  cases d with
  | int j => cases h; exact ha
  | _ => cases h
theorem ev_strD [Tb] {i : Str} (h : strD d = some i) (ha : Ev ta σ G M M1 (DD K d)) : Ev ta σ G M M1 (DD K (.str i)) := by
  cases d with
  | str j => cases h; exact ha
  | _ => cases h
theorem ev_tupD [Tb] {i : List Dat} (h : tupD d = some i) (ha : Ev ta σ G M M1 (DD K d)) : Ev ta σ G M M1 (DD K (.tuple (i.map id))) := by
  rw [List.map_id]
  cases d with
  | tuple j => cases h; exact ha
  | _ => cases h
/-! ### least and greatest of a list of ints -/
end
end Kx
namespace Kx
open PySem L2
end Kx
end
section
set_option maxHeartbeats 2000000
namespace Kx
open PySem L2
/-! ### min(rows): a walk whose comparison reads the heap -/
end Kx
namespace Kx
open PySem L2
end Kx
namespace Kx
open PySem L2
end Kx
end
section
set_option maxHeartbeats 2000000
namespace Kx
open PySem L2
/-! ### texts -/
theorem sok_iff {z : Str} : sok z = true ↔ ∀ c ∈ z.cps.toList, c < 0x110000 := by
  unfold sok PyData.strOk
  rw [Array.all_eq_true']
  simp
theorem sok_app {a b : Str} (ha : sok a = true) (hb : sok b = true) : sok (a ++ b) = true := by
  rw [sok_iff] at *
  intro c hc
  have e : (a ++ b).cps.toList = a.cps.toList ++ b.cps.toList := by
    show (a.cps ++ b.cps).toList = _
    simp
  rw [e] at hc
  rcases List.mem_append.mp hc with h | h
  · exact ha c h
  · exact hb c h
def lenS (z : Str) : Option Int := (grd (z.length ≤ 16777216)).bind fun _ => some (z.length : Int)
def atS (z : Str) (i : Int) : Option Str := (grd (z.length ≤ 16777216)).bind fun _ => (atI z.cps.toList i).bind fun c => some ⟨#[c]⟩
def addS (a b : Str) : Option Str := (grd (a.length + b.length ≤ 16777216)).bind fun _ => some (a ++ b)
def inSign (x z : Str) : Option Bool := match x.cps.toList with
  | [c] => some (decide (c ∈ z.cps.toList))
  | _ => none
def sLt (a b : Str) : Bool := decide (a.cps.toList < b.cps.toList)
section
variable {K : PySem.W.Frag} {σ σ' : St} {G G' M M1 M2 M3 : Hp} {ta tb te tc : TE} {P P1 P2 : VP} {d e : Dat} {ds es : List Dat} {D : Ends} {H : Hp} {u : TS}
theorem dq_str {G : Hp} {v : V} {z : Str} (h : Dq K G v (.str z)) : v = .str z ∧ sok z = true := by
  cases h with
  | str h => exact ⟨rfl, h⟩
def rLenS : List V → Hp → VK → Prop := fun xs H Q => ∃ z, xs = [.str z] ∧ z.length ≤ sizeLine ∧ Q (.int z.length) H
theorem ev_lenS [Tb] {z : Str} {n : Int} (h : lenS z = some n) (ha : EvA (tCons ta tNil) σ G M M1 (conP (DD K (.str z)) nilP)) : Ev (tCB rLenS (tCons ta tNil)) σ G M M1 (DD K (.int n)) := ev_cb ha fun xs G0 H s k hx Q q => by
  obtain ⟨v, rfl, hv⟩ := one_of (R := nilP) hx
  obtain ⟨rfl, _⟩ := dq_str hv
  obtain ⟨_, h1, h2⟩ := bs h
  cases h2
  exact ⟨z, rfl, szl (grd_of h1), q _ G0 H (Same.refl _) k (.int _)⟩
theorem ev_ixS [Tb] {z y : Str} {i : Int} (h : atS z i = some y) (ha : Ev ta σ G M M1 (DD K (.str z))) (hb : Ev tb σ G M1 M2 (DD K (.int i))) : Ev (tOp rIxS ta tb) σ G M M2 (DD K (.str y)) := ev_op mo_dd ha hb fun v w G0 H s k hx hy Q q => by
  obtain ⟨rfl, hz⟩ := dq_str hx
  cases hy
  obtain ⟨_, h1, h2⟩ := bs h
  obtain ⟨c, h3, h4⟩ := bs h2
  cases h4
  refine ⟨z, i, c, rfl, rfl, szl (grd_of h1), h3, q _ G0 H (Same.refl _) k (.str (sok_sign hz ?_))⟩
  unfold atI at h3
  obtain ⟨j, _, h5⟩ := bs h3
  exact List.mem_of_getElem? h5
theorem ev_addS [Tb] {a b c : Str} (h : addS a b = some c) (ha : Ev ta σ G M M1 (DD K (.str a))) (hb : Ev tb σ G M1 M2 (DD K (.str b))) : Ev (tOp (fun x y H Q => ∃ i j, x = V.str i ∧ y = .str j ∧ i.length + j.length ≤ sizeLine ∧ Q (.str (i ++ j)) H) ta tb) σ G M M2 (DD K (.str c)) := ev_op mo_dd ha hb fun v w G0 H s k hx hy Q q => by
  obtain ⟨rfl, h1⟩ := dq_str hx
  obtain ⟨rfl, h2⟩ := dq_str hy
  obtain ⟨_, h3, h4⟩ := bs h
  cases h4
  exact ⟨a, b, rfl, rfl, szl (grd_of h3), q _ G0 H (Same.refl _) k (.str (sok_app h1 h2))⟩
theorem inSign_of {x z : Str} {b : Bool} (h : inSign x z = some b) : ∃ c, x = ⟨#[c]⟩ ∧ b = decide (c ∈ z.cps.toList) := by
  unfold inSign at h
  split at h
  · next c e =>
    refine ⟨c, ?_, (Option.some.inj h).symm⟩
    cases x with
    | mk cps =>
      congr 1
      apply Array.toList_inj.mp
      exact e
  · cases h
theorem ev_inSign [Tb] {x z : Str} {b : Bool} (h : inSign x z = some b) (ha : Ev ta σ G M M1 (DD K (.str x))) (hb : Ev tb σ G M1 M2 (DD K (.str z))) : Ev (tOp (fun x y H Q => ∃ (c : Nat) (z : Str), x = V.str ⟨#[c]⟩ ∧ y = .str z ∧ Q (.bl (decide (c ∈ z.cps.toList))) H) ta tb) σ G M M2 (DD K (.bool b)) := ev_op mo_dd ha hb fun v w G0 H s k hx hy Q q => by
  obtain ⟨rfl, _⟩ := dq_str hx
  obtain ⟨rfl, _⟩ := dq_str hy
  obtain ⟨c, rfl, rfl⟩ := inSign_of h
  exact ⟨c, z, rfl, rfl, q _ G0 H (Same.refl _) k (.bl _)⟩
theorem ev_leS [Tb] {a b : Str} (ha : Ev ta σ G M M1 (DD K (.str a))) (hb : Ev tb σ G M1 M2 (DD K (.str b))) : Ev (tOp (fun x y H Q => ∃ i j, x = V.str i ∧ y = .str j ∧ Q (.bl (!decide (j.cps.toList < i.cps.toList))) H) ta tb) σ G M M2 (DD K (.bool (!sLt b a))) := ev_op mo_dd ha hb fun v w G0 H s k hx hy Q q => by
  obtain ⟨rfl, _⟩ := dq_str hx
  obtain ⟨rfl, _⟩ := dq_str hy
  exact ⟨a, b, rfl, rfl, q _ G0 H (Same.refl _) k (.bl _)⟩
theorem cl_lenS {X : Cx} : CallR X (.builtin "len") rLenS := call_len_str
/-! ### a text among texts -/
theorem strs_flat : ∀ (xs : List Str), (xs.map V.str).all flatV = true
  | [] => rfl
  | x :: xs => by
    rw [List.map_cons, List.all_cons, strs_flat xs]; rfl
theorem inV_strs (x : Str) : ∀ (xs : List Str), inV (.str x) (xs.map V.str) = memB x xs
  | [] => by simp [inV, memB]
  | y :: ys => by
    have ih := inV_strs x ys
    unfold inV at ih ⊢
    rw [List.map_cons, List.any_cons, ih]
    have e : eqV (.str y) (.str x) = decide (y = x) := by unfold eqV; exact beq_dec y x
    rw [e]
    unfold memB
    by_cases h : x = y
    · simp [h]
    · simp [h, Ne.symm h]
theorem op_inSK {X : Cx} (h : X.K = K := by rfl) : OpR X (compareOp .In) (rIn K false) := h ▸ op_in_seq
theorem ev_inS [Tb] {x : Str} {xs : List Str} {k : Bool} (ha : Ev ta σ G M M1 (DD K (.str x))) (hb : Ev tb σ G M1 M2 (DD K (seqD k (xs.map Dat.str)))) : Ev (tOp (rIn K false) ta tb) σ G M M2 (DD K (.bool (memB x xs))) := ev_op mo_dd ha hb fun v w G0 H s kk hx hy Q q => by
  obtain ⟨rfl, _⟩ := dq_str hx
  cases k with
  | true =>
    obtain ⟨a, vs, rfl, h1, h2⟩ := dp_tuple (show Dq K G0 w (.tuple (xs.map Dat.str)) from hy)
    rw [dpAll_strs h2] at h1
    refine ⟨a, _, rfl, .inr (sqT_up kk.g h1), rfl, strs_flat xs, ?_⟩
    rw [if_neg (by decide), inV_strs]
    exact q _ G0 H (Same.refl _) kk (.bl _)
  | false =>
    obtain ⟨a, vs, rfl, h1, h2⟩ := dp_list (show Dq K G0 w (.list (xs.map Dat.str)) from hy)
    rw [dpAll_strs h2] at h1
    refine ⟨a, _, rfl, .inl (.inl (.inl (kk.g _ _ h1))), rfl, strs_flat xs, ?_⟩
    rw [if_neg (by decide), inV_strs]
    exact q _ G0 H (Same.refl _) kk (.bl _)
end
end Kx
end
section
set_option maxHeartbeats 2000000
namespace Kx
open PySem L2
/-! ### the order of texts -/
theorem sLt_irr (a : Str) : sLt a a = false := decide_eq_false (List.lt_irrefl _)
theorem sLt_trans {a b c : Str} (h1 : sLt a b = true) (h2 : sLt b c = true) : sLt a c = true := decide_eq_true (List.lt_trans (of_decide_eq_true h1) (of_decide_eq_true h2))
theorem str_ext {a b : Str} (h : a.cps.toList = b.cps.toList) : a = b := by
  cases a with
  | mk x =>
    cases b with
    | mk y =>
      congr 1
      exact Array.toList_inj.mp h
theorem sLt_tri {a b : Str} (h1 : sLt a b = false) (h2 : sLt b a = false) : a = b := by
  have l1 : ¬ a.cps.toList < b.cps.toList := of_decide_eq_false h1
  have l2 : ¬ b.cps.toList < a.cps.toList := of_decide_eq_false h2
  exact str_ext (List.le_antisymm (List.not_lt.mp l2) (List.not_lt.mp l1))
def sLe (a b : Str) : Bool := !sLt b a
theorem sLe_trans (a b c : Str) (h1 : sLe a b = true) (h2 : sLe b c = true) : sLe a c = true := by
  unfold sLe at *
  cases e : sLt c a with
  | false => rfl
  | true =>
    cases e1 : sLt b a with
    | true => rw [e1] at h1; cases h1
    | false =>
      cases e2 : sLt a b with
      | true => have := sLt_trans e e2; rw [this] at h2; cases h2
      | false => rw [sLt_tri e2 e1] at e; rw [e] at h2; cases h2
theorem sLe_total (a b : Str) : (sLe a b || sLe b a) = true := by
  unfold sLe
  cases e : sLt b a with
  | false => rfl
  | true =>
    cases e2 : sLt a b with
    | false => rfl
    | true => have := sLt_trans e e2; rw [sLt_irr] at this; cases this
theorem sLe_anti {a b : Str} (h1 : sLe a b = true) (h2 : sLe b a = true) : a = b := by
  unfold sLe at *
  exact sLt_tri (by simpa using h2) (by simpa using h1)
/-- two rows in order with the same items are one -/
theorem perm_sorted {α : Type} {le : α → α → Prop} (anti : ∀ a b, le a b → le b a → a = b) : ∀ {l m : List α}, l.Perm m → l.Pairwise le → m.Pairwise le → l = m
  | [], m, p, _, _ => by rw [List.nil_perm.mp p]
  | x :: l, [], p, _, _ => by have := p.length_eq; simp at this
  | x :: l, y :: m, p, h1, h2 => by
    have e : x = y := by
      have hx : x ∈ y :: m := p.mem_iff.mp List.mem_cons_self
      have hy : y ∈ x :: l := p.mem_iff.mpr List.mem_cons_self
      rcases List.mem_cons.mp hx with e | hx
      · exact e
      · rcases List.mem_cons.mp hy with e | hy
        · exact e.symm
        · exact anti _ _ (List.rel_of_pairwise_cons h1 hy) (List.rel_of_pairwise_cons h2 hx)
    subst e
    rw [perm_sorted anti ((List.perm_cons x).mp p) (List.pairwise_cons.mp h1).2 (List.pairwise_cons.mp h2).2]
def srt (xs : List Str) : List Str := xs.mergeSort sLe
def sortS (xs : List Str) : Option (List Str) := (grd (xs.length < 64)).bind fun _ => some (srt xs)
theorem srt_perm (xs : List Str) : (srt xs).Perm xs := List.mergeSort_perm _ _
theorem srt_sorted (xs : List Str) : (srt xs).Pairwise fun a b => sLe a b = true := List.pairwise_mergeSort sLe_trans sLe_total xs
theorem rising_pairwise : ∀ {p : Str} {l : List Str}, PyProof.Rows.risingS p l = true → (p :: l).Pairwise fun a b => sLe a b = true
  | p, [], _ => by simp
  | p, x :: r, h => by
    unfold PyProof.Rows.risingS at h
    rw [Bool.and_eq_true] at h
    have ih := rising_pairwise h.2
    have e : sLe p x = true := by
      unfold sLe sLt
      rw [← PyProof.Rows.ltCps_eq]
      exact h.1
    refine List.pairwise_cons.mpr ⟨fun y hy => ?_, ih⟩
    rcases List.mem_cons.mp hy with e2 | hy
    · rw [e2]; exact e
    · exact sLe_trans _ _ _ e (List.rel_of_pairwise_cons ih hy)
theorem srt_is {xs ys : List Str} (p : ys.Perm xs) (h : PyProof.Rows.sortedS ys = true) : ys = srt xs := by
  refine perm_sorted (le := fun a b => sLe a b = true) (fun a b => sLe_anti) (p.trans (srt_perm xs).symm) ?_ (srt_sorted xs)
  cases ys with
  | nil => exact .nil
  | cons y l => exact rising_pairwise h
section
variable {K : PySem.W.Frag} {σ σ' : St} {G G' M M1 M2 M3 : Hp} {ta tb te tc : TE} {P P1 P2 : VP} {d e : Dat} {ds es : List Dat} {D : Ends} {H : Hp} {u : TS}
theorem cr_sortedSK {X : Cx} (h : X.K = K := by rfl) : CallR X (.builtin "sorted") (rSortedS K) := h ▸ cr_sortedS
theorem dqAll_strs {G : Hp} : ∀ {xs : List Str} , (∀ x ∈ xs, sok x = true) → DqAll K G (xs.map V.str) (xs.map Dat.str)
  | [], _ => .nil
  | x :: xs, h => .cons (.str (h x List.mem_cons_self)) (dqAll_strs fun y hy => h y (List.mem_cons_of_mem _ hy))
theorem strs_sok {G : Hp} : ∀ {xs : List Str} {vs : List V}, DqAll K G vs (xs.map Dat.str) → ∀ x ∈ xs, sok x = true
  | [], _, _, x, hx => by simp at hx
  | y :: ys, _, .cons a b, x, hx => by
    rcases List.mem_cons.mp hx with e | hx
    · rw [e]; exact (dq_str a).2
    · exact strs_sok b x hx
theorem el_sortedS [Tb] {xs ys : List Str} (h : sortS xs = some ys) (ha : EvA (tCons ta tNil) σ G M M1 (conP (DD K (.list (xs.map Dat.str))) nilP)) : EvL K (tCB (rSortedS K) (tCons ta tNil)) σ G M M1 (ys.map Dat.str) := el_cb ha fun vs G0 H s k hx Q q => by
  obtain ⟨v, rfl, hv⟩ := one_of (R := nilP) hx
  obtain ⟨a, ws, rfl, h1, h2⟩ := dp_list hv
  obtain ⟨_, h3, h4⟩ := bs h
  cases h4
  have so := strs_sok h2
  rw [dpAll_strs h2] at h1
  refine ⟨a, xs, rfl, .inl (.inl (k.g _ _ h1)), grd_of h3, fun zs p pz sz hp => ?_⟩
  have e := srt_is pz sz
  subst e
  exact newL (Same.refl _) k (dqAll_strs fun x hx => so x ((srt_perm xs).mem_iff.mp hx)) q p hp
end
end Kx
end
section
set_option maxHeartbeats 2000000
namespace Kx
open PySem L2 PySem.Spec PyProof.Rows
/-! ### a dict filled by a comprehension: keys of either kind -/
theorem dictSet2 {X : Cx} {pins : List (Addr × Obj)} {σ : L2.St} {H H' : Hp} {s : Shared} {E : Value → Shared → Prop} {D : Addr} {y v : V} {u r : Value} {Q : Unit → Shared → Prop} (hu : X.A.units + 1 < cLine) (I : Inv X pins σ H s) (g : DPut H D y v H') (ry : RelV y u) (rv : RelV v r)
    (h : ∀ s', Inv X pins σ H' s' → Q () s') : wpAny (model X.prog X.w) X.A (dictSet D u r) Q E s := by
  rcases g with ⟨kvs, k, e, rfl, l, rfl⟩ | ⟨kvs, k, b, e, rfl, eb, l, rfl⟩
  · exact d_dictSet I e l ry rv h
  · cases (show u = Value.ref b from ry)
    obtain ⟨z, hd, xs, rel, dd⟩ := dt_of I.hok e
    have hz : xs.length ≤ sizeLine := by rw [← Paired.length rel]; exact z
    have hl : (putK kvs k v).length ≤ sizeLine := by have := length_putK kvs k v; omega
    refine wpAny_dictSet_heap (hsz := hz) (show (tupleKind (mixKind X.prog X.w)).room X.A from Nat.lt_of_succ_lt hu) (key_of I.hok eb) dd fun g1 dd1 hs => h _ ?_
    obtain ⟨q, es, ep, hq, h2, h3, h4, _, h5⟩ := dd1
    refine d_write I (by rw [e]; exact True.intro) hs ⟨q, hq⟩ ⟨hl, hd, _, (rel.put k eb rv).keeps fun c ys ec => ?_, q, es, ep, hq, h2, h3, h4, h5⟩
    rw [upd_ne (ne_of ec e (fun z => nomatch z))]
    exact ec
/-- the empty one, by its kind -/
def d0 : Bool → HO
  | true => .dT []
  | false => .dK []
def tDcB (kd : Bool) (wi : TI) (g : TG) (tt : TT) (tk tv : TE) (vs : List Nat) : TE := fun σ H Q => wi σ H fun J H1 => ∀ D, H1 D = none → ∃ W : Nat → Nat → Hp → Prop, (∃ m, W 0 m (upd H1 D (d0 kd))) ∧ ∀ i m H, W i m H →
  (J.stop i H ∧ Q (.ref D) H) ∨ (J.go i H ∧ ∃ Nx : Hp → Prop, (∀ H', Nx H' → ∃ m', m' < m ∧ W (i + 1) m' H') ∧ ∀ x H', J.yld i H x H' → g x (wipe σ vs) H' fun σ2 H2 => wipe σ2 vs = wipe σ vs ∧ tt σ2 H2 fun b H3 =>
    if b = true then tk σ2 H3 fun y H4 => tv σ2 H4 fun z H5 => ∃ H6, DPut H5 D y z H6 ∧ Nx H6 else Nx H3)
section
variable {X : Cx}
theorem pe_dcB (kd : Bool) {kx vx tg iter : Expr} {ifs : List Expr} {scope : Scope} {own : List (Str × Nat)} {pos : Pos} {wi : TI} {g : TG} {tt : TT} {tk tv : TE} (hu : X.A.units + 1 < cLine) (hc : X.calm = true) (hN : X.N.Nodup) (hi : PI X tg iter wi) (ok : BlkOk X.N X.env.scope scope own)
    (hg : ∀ (s : Shared) (H : Hp) (C : Addr) (cl : List (Str × Addr)) (fp : List Addr), PG (X.blk s H scope (compEnvC scope cl C X.env) fp) tg g) (ht : ∀ (s : Shared) (H : Hp) (C : Addr) (cl : List (Str × Addr)) (fp : List Addr), PTs (X.blk s H scope (compEnvC scope cl C X.env) fp) ifs tt)
    (hk : ∀ (s : Shared) (H : Hp) (C : Addr) (cl : List (Str × Addr)) (fp : List Addr), PE (X.blk s H scope (compEnvC scope cl C X.env) fp) kx tk)
    (he : ∀ (s : Shared) (H : Hp) (C : Addr) (cl : List (Str × Addr)) (fp : List Addr), PE (X.blk s H scope (compEnvC scope cl C X.env) fp) vx tv) (hs : ∀ x, foldedSetIterable iter X.env x = pure x := by intro _; rfl) :
    PE X (.DictComp kx vx [⟨tg, iter, ifs, 0⟩] scope pos) (tDcB kd wi g tt tk tv (own.map (·.2))) := by
  refine ⟨fun pins s σ H Q I hq => ?_⟩
  rw [arm_eval_DictComp]
  have cells : ∀ y ∈ scope.names, y.2 = .free → ∃ c, X.env.cells.lookup y.1 = some c := fun y hy e => (ok.free y hy e).elim (fun k => I.ok.has _ (.inl k)) (fun k => I.ok.has _ (.inr k))
  refine wpAny_comprehension_free (use := none) rfl hs (closure_ok cells) ok.kind (fun y hy e => by rw [ok.uniq y hy, e]) (thn (hi.run pins s σ H _ I hq) fun xv s1 hx => thn hx fun itv s2 h2 => ?_)
  obtain ⟨it, fp, tn, J, H2, rfl, I2, T, st2, f2, q⟩ := h2
  refine wpAny_newObj_type (newEnv_comp ?_)
  generalize hD : s2.heap.objs.size = D
  obtain ⟨W, ⟨m0, w0⟩, turn⟩ := q D (I2.hok.fresh (Nat.le_of_eq hD))
  generalize hs3 : ({ s2 with heap := s2.heap.push { cls := .type "dict", data := .dict #[] } } : Shared) = s3
  have h3 : s3.heap = s2.heap.push { cls := .type "dict", data := .dict #[] } := by rw [← hs3]
  have I3 : Inv X pins σ (upd H2 D (d0 kd)) s3 := by
    rw [← hs3]
    refine I2.laid (t' := s2.toks) (fun b o e => Heap.get?_push_of_some _ e) (Nat.le_of_eq hD) ?_
    rw [← hD]
    cases kd with
    | true => exact dt_empty s2.heap I2.big
    | false => exact dk_empty s2.heap I2.big
  have f3 : ∀ b ∈ fp, FpOk X pins (upd H2 D (d0 kd)) b ∧ b < s3.heap.objs.size := fun b hb => by
    obtain ⟨o, e, _⟩ := T.obj _ _ st2 b hb
    have lt := Heap.lt_size e
    refine ⟨⟨?_, (f2 b hb).2⟩, by rw [h3, Heap.size_push]; exact Nat.lt_succ_of_lt lt⟩
    rw [upd_ne (by rw [← hD]; exact Nat.ne_of_lt lt)]
    exact (f2 b hb).1
  have st3 : tn 0 s3.heap := T.keep _ _ _ st2 fun b _ o e => by rw [h3]; exact Heap.get?_push_of_some _ e
  have I4 := block_start I3 ok hN f3
  have pg := hg s3 (upd H2 D (d0 kd)) s3.heap.objs.size (cellsFrom (s3.heap.objs.size + 1) scope.names (cloFrom X.env.cells scope.names [])) fp
  have pt := ht s3 (upd H2 D (d0 kd)) s3.heap.objs.size (cellsFrom (s3.heap.objs.size + 1) scope.names (cloFrom X.env.cells scope.names [])) fp
  have pk := hk s3 (upd H2 D (d0 kd)) s3.heap.objs.size (cellsFrom (s3.heap.objs.size + 1) scope.names (cloFrom X.env.cells scope.names [])) fp
  have pe := he s3 (upd H2 D (d0 kd)) s3.heap.objs.size (cellsFrom (s3.heap.objs.size + 1) scope.names (cloFrom X.env.cells scope.names [])) fp
  show codeAny _ _ (.compStart (.DictComp kx vx [⟨tg, iter, ifs, 0⟩] scope pos) 0 (.ref it) (.ref D) (compEnvC scope (cellsFrom (s3.heap.objs.size + 1) scope.names (cloFrom X.env.cells scope.names [])) s3.heap.objs.size X.env)) (compPost (model X.prog X.w) X.A X.xe none (EP X pins σ Q) (.ref D) s3.heap.objs.size) { s3 with heap := pushCells (s3.heap.push { cls := .type "dict", data := .dict #[] }) scope.names }
  have nfp : ∀ b ∈ fp, (upd H2 D (d0 kd)) b = none := fun b hb => (f3 b hb).1.1
  generalize hce : compEnvC scope (cellsFrom (s3.heap.objs.size + 1) scope.names (cloFrom X.env.cells scope.names [])) s3.heap.objs.size X.env = ce at I4 pg pt pk pe ⊢
  have cL : ce.locals = s3.heap.objs.size := by subst hce; rfl
  generalize hH3 : upd H2 D (d0 kd) = H3 at I3 I4 pg pt pk pe w0 nfp f3
  generalize hs4 : ({ s3 with heap := pushCells (s3.heap.push { cls := .type "dict", data := .dict #[] }) scope.names } : Shared) = s4 at I4 ⊢
  have st4 : tn 0 s4.heap := T.keep _ _ _ st3 fun b _ o e => by rw [← hs4]; exact pushCells_keeps _ _ _ _ (Heap.get?_push_of_some _ e)
  have stat : ∀ {σ1 : L2.St} {H1 : Hp} {s' : Shared}, Inv (X.blk s3 H3 scope ce fp) [] σ1 H1 s' → (∀ b ∈ fp, H1 b = none) → ∀ b ∈ fp, FpOk (X.blk s3 H3 scope ce fp) [] H1 b := fun I1 hn b hb =>
    ⟨hn b hb, (I1.ok.exf b hb).1, I1.ok.exfs b hb, .inl hb, fun x c e => (I1.ok.exf b hb).2 x c e, fun p hp => absurd (show p ∈ ([] : List (Addr × Obj)) ++ [] from hp) (by simp)⟩
  have loop : codeAny (model X.prog X.w) X.A (.compLoop (.DictComp kx vx [⟨tg, iter, ifs, 0⟩] scope pos) 0 (.ref it) (.ref D) ce) (compPost (model X.prog X.w) X.A X.xe none (EP X pins σ Q) (.ref D) s3.heap.objs.size) s4 := by
    refine compLoop_anyD (fun n s' => ∃ i H1, Inv (X.blk s3 H3 scope ce fp) [] (wipe σ (own.map (·.2))) H1 s' ∧ tn i s'.heap ∧ (∀ b ∈ fp, H1 b = none) ∧ W i n H1) ?_ m0 ⟨0, H3, I4, st4, nfp, w0⟩
    rintro n s5 ⟨i, H5, I5, st5, n5, w5⟩
    rcases turn i n H5 w5 with ⟨stop, qq⟩ | ⟨go, Nx, hNx, step⟩
    · refine thnF (T.done (X.blk s3 H3 scope ce fp) rfl rfl rfl hc i [] s5 _ H5 (fun _ _ => False) I5 (stat I5 n5) st5 stop) fun r s6 ⟨hr, I6⟩ => ?_
      subst hr
      have I7 : Inv X pins σ H5 s6 := I3.call' (ch := fp) I6.os I6.base I6.hok I6.bare fun b hb => ⟨(f3 b hb).1.2.2.2.1, (f3 b hb).1.2.1, (f3 b hb).1.2.2.2.2.1, (f3 b hb).1.2.2.2.2.2⟩
      have nC : H5 s3.heap.objs.size = none := by
        have z : H5 ce.locals = none := I6.free
        rw [cL] at z
        exact z
      obtain ⟨m, hn, _⟩ := I6.loc
      have hn : s6.heap.Ns ce.locals m := hn
      rw [cL] at hn
      obtain ⟨a0, a1, a2, a3, a4, a5⟩ := I3.fpOk (Nat.le_refl _) nC
      exact ⟨m, hn, fun g2 sb => ⟨.ref D, H5, I7.turned (t' := s6.toks) (fun b o hb e => (sb.2 b hb).trans e) a0 a1 a3 a4 a5, rfl, qq⟩⟩
    · refine thnF (T.item (X.blk s3 H3 scope ce fp) rfl rfl rfl hc i [] s5 _ H5 (fun _ _ => False) I5 (stat I5 n5) st5 go) fun r s6 ⟨u, hr, h6⟩ => ?_
      subst hr
      refine thnF h6 fun _ s7 ⟨x, H7, I7, r7, y7, st7, n7⟩ => ?_
      refine thnF (pg.run _ s7 _ H7 x u _ (I7.pinned (stat I7 n7) (T.obj _ _ st7)) r7 (step x H7 y7)) fun _ s8 ⟨σ8, H8, I8, hw8, q8⟩ => ?_
      refine thnF (pt.run _ s8 σ8 H8 _ I8 q8) fun b s9 ⟨H9, I9, q9⟩ => ?_
      have fin : ∀ {s' : Shared} {H1 : Hp}, Inv (X.blk s3 H3 scope ce fp) ([] ++ pinsAt fp s7.heap) σ8 H1 s' → Nx H1 → ∃ m, m < n ∧ ∃ i H1, Inv (X.blk s3 H3 scope ce fp) [] (wipe σ (own.map (·.2))) H1 s' ∧ tn i s'.heap ∧ (∀ b ∈ fp, H1 b = none) ∧ W i m H1 := fun {s' H1} I1 nx => by
        obtain ⟨m1, hm, w1⟩ := hNx H1 nx
        have pin1 : ∀ b ∈ fp, ∀ o, s7.heap.get? b = some o → s'.heap.get? b = some o ∧ H1 b = none := fun b hb o e =>
          let z := I1.pin (b, o) (List.mem_append_right _ (List.mem_append_right _ (mem_pinsAt hb e)))
          ⟨z.1, z.2.1⟩
        refine ⟨m1, hm, i + 1, H1, (I1.unpinned (pins := [])).weak (by rw [← hw8, wipe_length]) (fun j v e => by rw [← hw8] at e; exact (wipe_some e).1), T.keep _ _ _ st7 fun b hb o e => (pin1 b hb o e).1, fun b hb => ?_, w1⟩
        obtain ⟨o, e, _⟩ := T.obj _ _ st7 b hb
        exact (pin1 b hb o e).2
      cases b with
      | false =>
        simp only [Bool.false_eq_true, if_false] at q9 ⊢
        exact fin I9 q9
      | true =>
        simp only [if_true] at q9 ⊢
        refine thnF (pk.run _ s9 σ8 H9 _ I9 q9) fun z s10 ⟨yk, H10, I10, r10, q10⟩ => ?_
        refine thnF (pe.run _ s10 σ8 H10 _ I10 q10) fun z2 s11 ⟨yv, H11, I11, r11, H6, put, nx⟩ => ?_
        exact dictSet2 (X := X.blk s3 H3 scope ce fp) hu I11 put r10 r11 fun s12 I12 => fin I12 nx
  exact codeAny_compStart_dict loop (T.self X.A 0 _ _ _ st4 loop)
end
end Kx
end
section
set_option maxHeartbeats 2000000
namespace Kx
open PySem L2 PySem.Spec PyProof.Rows
/-! ### dict(xs) of pairs: a tuple of pairs by texts; a list of pairs by tuples of texts -/
def mergeT (kvs more : List (List Key × V)) : List (List Key × V) := more.foldl (fun acc kv => putK acc kv.1 kv.2) kvs
theorem length_mergeT : ∀ (more kvs : List (List Key × V)), (mergeT kvs more).length ≤ kvs.length + more.length
  | [], kvs => by show kvs.length ≤ kvs.length + 0; omega
  | p :: r, kvs => by
    have h1 := length_mergeT r (putK kvs p.1 p.2)
    have h2 := length_putK kvs p.1 p.2
    show (mergeT (putK kvs p.1 p.2) r).length ≤ _
    rw [List.length_cons]; omega
theorem KT.mergeAll {H : Hp} : ∀ {more : List (List Key × V)} {rs : List (List Key × Addr × Value)} {kvs : List (List Key × V)} {xs : List (List Key × Addr × Value)}, L2.KT H more rs → L2.KT H kvs xs → L2.KT H (mergeT kvs more) (storedAllH xs rs) := by
  intro more rs kvs xs r
  induction r generalizing kvs xs with
  | nil => intro q; exact q
  | @cons p q ps qs h t ih =>
    intro r0
    obtain ⟨h1, h2, h3⟩ := h
    have e := L2.KT.put r0 p.1 h2 h3
    rw [h1] at e
    have e2 := ih e
    show L2.KT H (mergeT (putK kvs p.1 p.2) ps) (storedAllH (storedH xs q.1 q.2.1 q.2.2) qs)
    rw [h1]
    exact e2
section
variable {X : Cx} {K : PySem.W.Frag}
/-- pairs whose keys are tracked tuples -/
theorem pairsT_of {pins : List (Addr × Obj)} {σ : L2.St} {H : Hp} {s : Shared} (I : Inv X pins σ H s) : ∀ {ps : List Addr} {kvs : List (List Key × V)}, Paired (fun p kv => ∃ b, SqT X.K H p [.ref b, kv.2] ∧ H b = some (.tup (kv.1.map kV))) ps kvs →
    ∃ prs : List (List Key × Addr × Value), L2.KT H kvs prs ∧ prs.length = ps.length ∧ ∀ (j : Nat) (q : List Key × Addr × Value), prs[j]? = some q → ∃ b : Addr, ps[j]? = some b ∧ IsTup s.heap b #[.ref q.2.1, q.2.2]
  | _, _, .nil => ⟨[], .nil, rfl, fun j q e => by simp at e⟩
  | _, _, .cons (a := p) (b := kv) h t => by
    obtain ⟨prs, r, hl, hp⟩ := pairsT_of I t
    obtain ⟨b, h, hb⟩ := h
    obtain ⟨its, rv, ht, _⟩ := I.tuple h
    obtain ⟨u, y, ei, ru, ry⟩ := vals2 rv
    subst ei
    cases (show u = Value.ref b from ru)
    refine ⟨(kv.1, b, y) :: prs, .cons ⟨rfl, hb, ry⟩ r, by rw [List.length_cons, List.length_cons, hl], fun j q e => ?_⟩
    cases j with
    | zero =>
      have e' : (kv.1, b, y) = q := Option.some.inj e
      subst e'
      exact ⟨p, rfl, ht⟩
    | succ j =>
      obtain ⟨b', e1, e2⟩ := hp j q (by simpa using e)
      exact ⟨b', by simpa using e1, e2⟩
def rDictH (K : PySem.W.Frag) : List V → Hp → VK → Prop := fun xs H Q => ∃ (a : Addr) (ps : List Addr) (kvs : List (List Key × V)), xs = [.ref a] ∧ SqL K H a (ps.map V.ref) ∧ Paired (fun p kv => ∃ b, SqT K H p [.ref b, kv.2] ∧ H b = some (.tup (kv.1.map kV))) ps kvs ∧
    ∀ p, H p = none → Q (.ref p) (upd H p (.dT (mergeT [] kvs)))
theorem isTuple_of {h : Heap} {a : Addr} {its : Array Value} (x : IsTup h a its) : h.IsTuple a its := by
  obtain ⟨o, h1, h2, n, h3⟩ := x
  exact ⟨o, h1, h2, n, h3⟩
theorem cl_dictH (hu : X.A.units + 2 < cLine) (hcalm : X.calm = true) : CallR X (.type "dict") (rDictH X.K) := by
  intro pins s σ H xs us Q I r q
  obtain ⟨a, ps, kvs, ex, hq, hp, q⟩ := q
  subst ex
  obtain ⟨u, eu, rx⟩ := vals1 r
  subst eu
  cases rx
  obtain ⟨its, rv, pl, hz⟩ := I.list hq
  have ei := refs_at rv
  subst ei
  rw [List.length_map] at hz
  obtain ⟨prs, rel, hl, hpr⟩ := pairsT_of I hp
  obtain ⟨o, n, ho, hc, hd, hdat⟩ := pl
  let Ts : Nat → Addr := fun j => ps.getD j 0
  have hkeys : ∀ h' : Heap, (∀ b o, s.heap.get? b = some o → h'.get? b = some o) → ∀ {l : List (List Key × V)} {m : List (List Key × Addr × Value)}, L2.KT H l m → ∀ x ∈ m, (tupleKind (mixKind X.prog X.w)).is h' x.1 x.2.1 := by
    intro h' hk l m q
    induction q with
    | nil => intro x hx; exact nomatch hx
    | @cons p q ps qs hq t ih =>
      intro x hx
      rcases List.mem_cons.mp hx with e | hx
      · subst e
        obtain ⟨oo, its, nn, e1, e2, e3, e4⟩ := key_of (P := X.prog) (w := X.w) I.hok (by rw [← hq.1]; exact hq.2.1 : H x.2.1 = some (.tup (x.1.map kV)))
        exact ⟨oo, its, nn, hk _ _ e1, e2, e3, e4⟩
      · exact ih x hx
  refine PySem.call_dict_pairsH (knd := tupleKind (mixKind X.prog X.w)) (ps := prs) (PairArg.list a (ps.map Value.ref).toArray Ts (prs.map fun x => (Value.ref x.2.1, x.2.2))) (I.ok.hd hcalm) (show X.A.units + 2 < cLine from hu) ⟨⟨o, n, ho, hc, hd, hdat⟩, ?_, fun j k v e => ?_⟩ ⟨by rw [List.length_map], fun i key v hr => ?_⟩ (fun h' hk => ?_) (by rw [List.length_map, hl]; exact hz) fun h' tk dd k => ?_
  · simp [hl]
  · rw [List.getElem?_map] at e
    obtain ⟨x, hx, e⟩ := Option.map_eq_some_iff.mp e
    cases e
    obtain ⟨b, e1, e2⟩ := hpr j x hx
    have hb : Ts j = b := by show ps.getD j 0 = b; rw [List.getD_eq_getElem?_getD, e1]; rfl
    rw [hb]
    exact ⟨by simp [e1], .inl (isTuple_of e2)⟩
  · have hr : (prs.map fun x => (Value.ref x.2.1, x.2.2))[i]? = some (key, v) := hr
    rw [List.getElem?_map] at hr
    obtain ⟨x, hx, e⟩ := Option.map_eq_some_iff.mp hr
    cases e
    exact ⟨x.1, x.2.1, hx, rfl⟩
  · exact hkeys h' (fun b o e => hk b o (Nat.ne_of_lt (Heap.lt_size e)) (by simp) e) rel
  · have k : ∀ b o, s.heap.get? b = some o → h'.get? b = some o := fun b o e => k b o (by simp) e
    have hm : (s.heap.objs.size == sysModules) = false := beq_eq_false_iff_ne.mpr (Nat.ne_of_gt I.big)
    have hlen : (mergeT [] kvs).length ≤ sizeLine := by
      refine Nat.le_trans (length_mergeT kvs []) ?_
      rw [List.length_nil, Nat.zero_add, Paired.length rel, hl]
      exact hz
    have fr := I.hok.fresh (Nat.le_refl s.heap.objs.size)
    obtain ⟨oo, es, ep, h1, h2, h3, h4, _, h5⟩ := dd
    refine ⟨.ref s.heap.objs.size, upd H s.heap.objs.size (.dT (mergeT [] kvs)), I.laid (t' := tk) k (Nat.le_refl _) (show ObjOk X.prog X.w _ _ _ (.dT (mergeT [] kvs)) from ⟨hlen, hm, _, L2.KT.keeps (KT.mergeAll rel .nil) fun b ys e => ?_, oo, es, ep, h1, h2, h3, h4, h5⟩), rfl, q _ fr⟩
    rw [upd_ne (ne_of_none e fr)]
    exact e
def rDictT (K : PySem.W.Frag) : List V → Hp → VK → Prop := fun xs H Q => ∃ (a : Addr) (ps : List Addr) (kvs : List (Key × V)), xs = [.ref a] ∧ (TupG K H a (ps.map V.ref) ∨ SqL K H a (ps.map V.ref)) ∧ Paired (fun p kv => SqT K H p [kV kv.1, kv.2]) ps kvs ∧
    ∀ p, H p = none → Q (.ref p) (upd H p (.dK (mergeK [] kvs)))
theorem cl_dictT (hcalm : X.calm = true) : CallR X (.type "dict") (rDictT X.K) := by
  intro pins s σ H xs us Q I r q
  obtain ⟨a, ps, kvs, ex, hq | hq, hp, q⟩ := q
  rotate_left
  · exact call_dictP hcalm pins s σ H xs us Q I r ⟨a, ps, kvs, ex, hq, hp, q⟩
  subst ex
  obtain ⟨u, eu, rx⟩ := vals1 r
  subst eu
  cases rx
  obtain ⟨its, rv, _, hz⟩ := I.tuple hq.sq
  have ei := refs_at rv
  subst ei
  have ob : ∃ o n, s.heap.get? a = some o ∧ o.cls = .type "tuple" ∧ o.dict = none ∧ o.data = .seq (ps.map Value.ref).toArray n := by
    rcases hq with ⟨o, e, hd⟩ | ⟨o, its, n, e, hc, hd, h4, _, h6⟩
    · obtain ⟨e1, _, its, r1, o2, e2, hc, n, h3⟩ := I.hok a _ e
      rw [e1] at e2
      cases e2
      rw [refs_at r1] at h3
      exact ⟨o, n, e1, hc, hd, h3⟩
    · have e6 := refs_at h6
      exact ⟨o, n, I.kIn a o e, hc, hd, by rw [h4, ← e6]⟩
  rw [List.length_map] at hz
  obtain ⟨prs, rel, hl, hpr⟩ := pairs_of I hp
  let Ts : Nat → Addr := fun j => ps.getD j 0
  have ks : ∀ {l : List (Key × Value)}, (∀ (j : Nat) (q : Key × Value), l[j]? = some q → ∃ (b : Addr) (u : Value), IsTup s.heap b #[u, q.2] ∧ keyIs q.1 u = true) → True := fun _ => trivial
  -- the keys' values
  have hex : ∃ us : List Value, us.length = prs.length ∧ ∀ (j : Nat) (q : Key × Value), prs[j]? = some q → ∃ b u, ps[j]? = some b ∧ us[j]? = some u ∧ IsTup s.heap b #[u, q.2] ∧ keyIs q.1 u = true := by
    clear rel
    have : ∀ (prs : List (Key × Value)) (ps : List Addr), (∀ (j : Nat) (q : Key × Value), prs[j]? = some q → ∃ (b : Addr) (u : Value), ps[j]? = some b ∧ IsTup s.heap b #[u, q.2] ∧ keyIs q.1 u = true) → ∃ us : List Value, us.length = prs.length ∧ ∀ (j : Nat) (q : Key × Value), prs[j]? = some q → ∃ b u, ps[j]? = some b ∧ us[j]? = some u ∧ IsTup s.heap b #[u, q.2] ∧ keyIs q.1 u = true := by
      intro prs
      induction prs with
      | nil => intro ps _; exact ⟨[], rfl, fun j q e => by simp at e⟩
      | cons x prs ih =>
        intro ps h
        obtain ⟨us, hl, hu⟩ := ih ps.tail fun j q e => by
          obtain ⟨b, u, e1, e2⟩ := h (j + 1) q (by simpa using e)
          refine ⟨b, u, ?_, e2⟩
          cases ps with
          | nil => simp at e1
          | cons _ _ => simpa using e1
        obtain ⟨b, u, e1, e2⟩ := h 0 x rfl
        refine ⟨u :: us, by rw [List.length_cons, List.length_cons, hl], fun j q e => ?_⟩
        cases j with
        | zero =>
          cases (Option.some.inj e : x = q)
          exact ⟨b, u, e1, rfl, e2⟩
        | succ j =>
          obtain ⟨b', u', f1, f2, f3⟩ := hu j q (by simpa using e)
          refine ⟨b', u', ?_, by simpa using f2, f3⟩
          cases ps with
          | nil => simp at f1
          | cons _ _ => simpa using f1
    exact this prs ps hpr
  obtain ⟨us, hul, hus⟩ := hex
  obtain ⟨o, n, o1, o2, o3, o4⟩ := ob
  refine PySem.call_dict_pairs (knd := mixKind X.prog X.w) (kvs := prs) (PairArg.tuple a (ps.map Value.ref).toArray Ts (us.zip (prs.map (·.2)))) (I.ok.hd hcalm) ⟨⟨o, n, o1, o2, o3, o4⟩, ?_, fun j k v e => ?_⟩ ⟨by simp [hul], fun i key v hr => ?_⟩ (by simp [hul, hl]; exact hz) fun h' tk dd k => ?_
  · simp [hl, hul]
  · rw [List.getElem?_zip_eq_some] at e
    obtain ⟨e1, e2⟩ := e
    rw [List.getElem?_map] at e2
    obtain ⟨x, hx, e3⟩ := Option.map_eq_some_iff.mp e2
    obtain ⟨b, u, f1, f2, f3, f4⟩ := hus j x hx
    rw [e1] at f2
    cases f2
    subst e3
    have hb : Ts j = b := by show ps.getD j 0 = b; rw [List.getD_eq_getElem?_getD, f1]; rfl
    rw [hb]
    exact ⟨by simp [f1], .inl (isTuple_of f3)⟩
  · have hr : (us.zip (prs.map (·.2)))[i]? = some (key, v) := hr
    rw [List.getElem?_zip_eq_some] at hr
    obtain ⟨e1, e2⟩ := hr
    rw [List.getElem?_map] at e2
    obtain ⟨x, hx, e3⟩ := Option.map_eq_some_iff.mp e2
    obtain ⟨b, u, f1, f2, f3, f4⟩ := hus i x hx
    rw [e1] at f2
    cases f2
    subst e3
    exact ⟨x.1, hx, f4⟩
  · have k : ∀ b o, s.heap.get? b = some o → h'.get? b = some o := fun b o e => k b o (by simp) e
    have hm : (s.heap.objs.size == sysModules) = false := beq_eq_false_iff_ne.mpr (Nat.ne_of_gt I.big)
    have hlen : (mergeK [] kvs).length ≤ sizeLine := by
      refine Nat.le_trans (length_mergeK kvs []) ?_
      rw [List.length_nil, Nat.zero_add, rel.length, hl]
      exact hz
    exact ⟨.ref s.heap.objs.size, upd H s.heap.objs.size (.dK (mergeK [] kvs)), I.laid (t' := tk) k (Nat.le_refl _) (show ObjOk X.prog X.w _ _ _ (.dK (mergeK [] kvs)) from ⟨hlen, hm, merged [] prs, KV.merge rel .nil, dd⟩), rfl, q _ (I.hok.fresh (Nat.le_refl _))⟩
end
end Kx
end
section
set_option maxHeartbeats 2000000
namespace Kx
open PySem L2
/-! ### tables: the mirror of dicts -/
section
variable {α β : Type} [DecidableEq α]
def getA (xs : List (α × β)) (k : α) : Option β := (xs.find? fun x => decide (x.1 = k)).map (·.2)
def hasA (xs : List (α × β)) (k : α) : Bool := (getA xs k).isSome
def putA (xs : List (α × β)) (k : α) (v : β) : List (α × β) := if (xs.any fun x => decide (x.1 = k)) = true then xs.map (fun x => if x.1 = k then (x.1, v) else x) else xs ++ [(k, v)]
def mergeA (xs more : List (α × β)) : List (α × β) := more.foldl (fun acc x => putA acc x.1 x.2) xs
def dictO (xs : List (α × β)) : Option (List (α × β)) := do
  grd (xs.length ≤ 16777216)
  some (mergeA [] xs)
theorem getA_pos {p : α × β} {r : List (α × β)} {k : α} (e : p.1 = k) : getA (p :: r) k = some p.2 := by simp [getA, List.find?_cons, e]
theorem getA_neg {p : α × β} {r : List (α × β)} {k : α} (e : ¬ p.1 = k) : getA (p :: r) k = getA r k := by simp [getA, List.find?_cons, e]
theorem putA_len (xs : List (α × β)) (k : α) (v : β) : (putA xs k v).length ≤ xs.length + 1 := by
  unfold putA
  split
  · rw [List.length_map]; omega
  · rw [List.length_append, List.length_cons, List.length_nil]; omega
theorem putA_keys {p : α → Prop} {xs : List (α × β)} {k : α} {v : β} (h : ∀ x ∈ xs, p x.1) (hk : p k) : ∀ x ∈ putA xs k v, p x.1 := by
  unfold putA
  split
  · intro x hx
    obtain ⟨y, hy, e⟩ := List.mem_map.mp hx
    by_cases e2 : y.1 = k
    · rw [if_pos e2] at e; rw [← e]; exact h y hy
    · rw [if_neg e2] at e; rw [← e]; exact h y hy
  · intro x hx
    rcases List.mem_append.mp hx with hx | hx
    · exact h x hx
    · rw [List.mem_singleton.mp hx]; exact hk
end
/-! ### tables in the heap -/
section
variable {α β κ : Type} [DecidableEq α] [DecidableEq κ] {K : PySem.W.Frag} {G G' : Hp} {f : α → κ} {e : β → Dat}
inductive KRel (K : PySem.W.Frag) (G : Hp) (f : α → κ) (e : β → Dat) : List (κ × V) → List (α × β) → Prop
  | nil : KRel K G f e [] []
  | cons {k : α} {v : V} {b : β} {kvs : List (κ × V)} {xs : List (α × β)} : Dq K G v (e b) → KRel K G f e kvs xs → KRel K G f e ((f k, v) :: kvs) ((k, b) :: xs)
theorem KRel.up (s : Same G G') {kvs : List (κ × V)} {xs : List (α × β)} (h : KRel K G f e kvs xs) : KRel K G' f e kvs xs := by
  induction h with
  | nil => exact .nil
  | cons a _ ih => exact .cons (dp_up s _ a) ih
theorem KRel.len {kvs : List (κ × V)} {xs : List (α × β)} (h : KRel K G f e kvs xs) : kvs.length = xs.length := by
  induction h with
  | nil => rfl
  | cons a _ ih => rw [List.length_cons, List.length_cons, ih]
theorem KRel.of : ∀ {kvs : List (κ × V)} {xs : List (α × β)}, kvs.map (·.1) = (xs.map fun x => f x.1) → DqAll K G (kvs.map (·.2)) (xs.map fun x => e x.2) → KRel K G f e kvs xs
  | [], [], _, _ => .nil
  | [], _ :: _, h, _ => by cases h
  | _ :: _, [], h, _ => by cases h
  | (k, v) :: kvs, (a, b) :: xs, h, hd => by
    cases hd with
    | cons h1 h2 =>
      rw [List.map_cons, List.map_cons] at h
      obtain ⟨e1, e2⟩ := List.cons.inj h
      cases (show k = f a from e1)
      exact .cons h1 (KRel.of e2 h2)
theorem KRel.keys {kvs : List (κ × V)} {xs : List (α × β)} (h : KRel K G f e kvs xs) : kvs.map (·.1) = xs.map fun x => f x.1 := by
  induction h with
  | nil => rfl
  | cons a _ ih => rw [List.map_cons, List.map_cons, ih]
theorem KRel.vals {kvs : List (κ × V)} {xs : List (α × β)} (h : KRel K G f e kvs xs) : DqAll K G (kvs.map (·.2)) (xs.map fun x => e x.2) := by
  induction h with
  | nil => exact .nil
  | cons a _ ih => exact .cons a ih
theorem KRel.get (inj : ∀ a b : α, f a = f b → a = b) {kvs : List (κ × V)} {xs : List (α × β)} (h : KRel K G f e kvs xs) (k : α) : (getA xs k = none ∧ valV kvs (f k) = none) ∨ ∃ b v, getA xs k = some b ∧ valV kvs (f k) = some v ∧ Dq K G v (e b) := by
  induction h with
  | nil => exact .inl ⟨rfl, rfl⟩
  | @cons k' v b kvs xs a _ ih =>
    by_cases q : k' = k
    · subst q
      exact .inr ⟨b, v, getA_pos (p := (k', b)) rfl, valV_pos (p := (f k', v)) rfl, a⟩
    · rw [getA_neg (p := (k', b)) q, valV_neg (p := (f k', v)) fun z => q (inj _ _ z)]
      exact ih
theorem KRel.any (inj : ∀ a b : α, f a = f b → a = b) {kvs : List (κ × V)} {xs : List (α × β)} (h : KRel K G f e kvs xs) (k : α) : (kvs.any fun kv => decide (kv.1 = f k)) = xs.any fun x => decide (x.1 = k) := by
  induction h with
  | nil => rfl
  | @cons k' v b kvs xs a _ ih =>
    rw [List.any_cons, List.any_cons, ih]
    by_cases q : k' = k
    · subst q; simp
    · have q2 : ¬ f k' = f k := fun z => q (inj _ _ z)
      simp [q, q2]
theorem KRel.put (inj : ∀ a b : α, f a = f b → a = b) {kvs : List (κ × V)} {xs : List (α × β)} (h : KRel K G f e kvs xs) (k : α) {v : V} {b : β} (hv : Dq K G v (e b)) : KRel K G f e (putK kvs (f k) v) (putA xs k b) := by
  unfold putK putA
  rw [h.any inj k]
  split
  · next hh =>
    clear hh
    induction h with
    | nil => exact .nil
    | @cons k' v' b' kvs xs a _ ih =>
      rw [List.map_cons, List.map_cons]
      by_cases q : k' = k
      · subst q
        rw [if_pos rfl, if_pos rfl]
        exact .cons hv ih
      · rw [if_neg (show ¬ (f k', v').1 = f k from fun z => q (inj _ _ z)), if_neg (show ¬ (k', b').1 = k from q)]
        exact .cons a ih
  · next hh =>
    clear hh
    induction h with
    | nil => exact .cons hv .nil
    | cons a _ ih => exact .cons a ih
end
def kS (x : Str) : Key := .inr x
def kP (x : Str × Str) : List Key := [.inr x.1, .inr x.2]
theorem kS_inj (a b : Str) (h : kS a = kS b) : a = b := by unfold kS at h; exact Sum.inr.inj h
theorem kP_inj (a b : Str × Str) (h : kP a = kP b) : a = b := by
  unfold kP at h
  obtain ⟨h1, h2⟩ := List.cons.inj h
  obtain ⟨h2, _⟩ := List.cons.inj h2
  exact Prod.ext (Sum.inr.inj h1) (Sum.inr.inj h2)
def okS (x : Str) : Prop := sok x = true
def okP (x : Str × Str) : Prop := sok x.1 = true ∧ sok x.2 = true
/-- dicts by texts, by pairs of texts -/
def eDS {β : Type} (e : β → Dat) (xs : List (Str × β)) : Dat := .dK (xs.map fun x => kS x.1) (xs.map fun x => e x.2)
def eDP {β : Type} (e : β → Dat) (xs : List ((Str × Str) × β)) : Dat := .dT (xs.map fun x => kP x.1) (xs.map fun x => e x.2)
section
variable {β : Type} {K : PySem.W.Frag} {σ σ' : St} {G G' M M1 M2 M3 : Hp} {ta tb te tc tk tv : TE} {P P1 P2 : VP} {d : Dat} {ds es : List Dat} {D : Ends} {H : Hp} {u : TS} {e : β → Dat}
theorem dq_eDS {v : V} {xs : List (Str × β)} (h : Dq K G v (eDS e xs)) : ∃ a kvs, v = .ref a ∧ Rd G a (.dK kvs) ∧ KRel K G kS e kvs xs ∧ ∀ x ∈ xs, okS x.1 := by
  unfold eDS at h
  cases h with
  | dK a b c d' =>
    refine ⟨_, _, rfl, a, KRel.of b d', fun x hx => ?_⟩
    exact (List.all_eq_true.mp c) (kS x.1) (List.mem_map.mpr ⟨x, hx, rfl⟩)
theorem dq_eDP {v : V} {xs : List ((Str × Str) × β)} (h : Dq K G v (eDP e xs)) : ∃ a kvs, v = .ref a ∧ Rd G a (.dT kvs) ∧ KRel K G kP e kvs xs ∧ ∀ x ∈ xs, okP x.1 := by
  unfold eDP at h
  cases h with
  | dT a b c d' =>
    refine ⟨_, _, rfl, a, KRel.of b d', fun x hx => ?_⟩
    have := (List.all_eq_true.mp c) (kP x.1) (List.mem_map.mpr ⟨x, hx, rfl⟩)
    have h2 := List.all_eq_true.mp this
    exact ⟨h2 (.inr x.1.1) (by simp [kP]), h2 (.inr x.1.2) (by simp [kP])⟩
theorem eDS_of {a : Addr} {kvs : List (Key × V)} {xs : List (Str × β)} (h : G a = some (.dK kvs)) (r : KRel K G kS e kvs xs) (ok : ∀ x ∈ xs, okS x.1) : Dq K G (.ref a) (eDS e xs) :=
  .dK (.inl h) r.keys (List.all_eq_true.mpr fun k hk => by obtain ⟨x, hx, rfl⟩ := List.mem_map.mp hk; exact ok x hx) r.vals
theorem eDP_of {a : Addr} {kvs : List (List Key × V)} {xs : List ((Str × Str) × β)} (h : G a = some (.dT kvs)) (r : KRel K G kP e kvs xs) (ok : ∀ x ∈ xs, okP x.1) : Dq K G (.ref a) (eDP e xs) :=
  .dT (.inl h) r.keys (List.all_eq_true.mpr fun k hk => by
    obtain ⟨x, hx, rfl⟩ := List.mem_map.mp hk
    refine List.all_eq_true.mpr fun y hy => ?_
    have h2 := ok x hx
    unfold kP at hy
    rcases List.mem_cons.mp hy with rfl | hy
    · exact h2.1
    · rw [List.mem_singleton.mp hy]; exact h2.2) r.vals
/-- a key that is a pair of texts -/
theorem key_pair {v : V} {k : Str × Str} (h : Dq K G v (.rtup [.str k.1, .str k.2])) : ∃ b, v = .ref b ∧ G b = some (.tup ((kP k).map kV)) := by
  obtain ⟨b, vs, rfl, h1, h2⟩ := dp_rtup h
  cases h2 with
  | cons a h2 =>
    cases h2 with
    | cons b' h2 =>
      cases h2; cases a; cases b'
      exact ⟨b, rfl, h1⟩
/-! ### looking up -/
theorem dgS {a : Addr} {kvs : List (Key × V)} {k : Str} (h : Rd H a (.dK kvs)) : DGet H a (.str k) (valV kvs (kS k)) := .inl ⟨kvs, kS k, h, rfl, rfl⟩
theorem ev_dgetS [Tb] {xs : List (Str × β)} {k : Str} {b : β} (h : getA xs k = some b) (ho : Ev ta σ G M M1 (DD K (eDS e xs))) (hk : Ev tb σ G M1 M2 (DD K (.str k))) : Ev (tDGet ta tb) σ G M M2 (DD K (e b)) := fun G0 H s kk Q q =>
  ho G0 H s kk _ fun x G1 H1 s1 k1 hx => hk G1 H1 (s.trans s1) k1 _ fun y G2 H2 s2 k2 hy => by
    obtain ⟨a, kvs, rfl, h1, h2, _⟩ := dq_eDS hx
    cases hy
    rcases h2.get kS_inj k with ⟨z, _⟩ | ⟨b', v, e1, e2, e3⟩
    · rw [z] at h; cases h
    · rw [h] at e1; cases e1
      exact ⟨a, v, rfl, e2 ▸ dgS (rd_up (s2.trans k2.g) h1), q v G2 H2 (s1.trans s2) k2 (dp_up s2 _ e3)⟩
theorem KRel.some' {α κ : Type} [DecidableEq α] [DecidableEq κ] {f : α → κ} (inj : ∀ a b : α, f a = f b → a = b) {kvs : List (κ × V)} {xs : List (α × β)} (h : KRel K G f e kvs xs) (k : α) : (valV kvs (f k)).isSome = hasA xs k := by
  unfold hasA
  rcases h.get inj k with ⟨z, z2⟩ | ⟨b', v, e1, e2, e3⟩
  · rw [z, z2]; rfl
  · rw [e1, e2]; rfl
theorem ev_dninS [Tb] {xs : List (Str × β)} {k : Str} (hk : Ev ta σ G M M1 (DD K (.str k))) (ho : Ev tb σ G M1 M2 (DD K (eDS e xs))) : Ev (tDNotIn ta tb) σ G M M2 (DD K (.bool (!hasA xs k))) := fun G0 H s kk Q q =>
  hk G0 H s kk _ fun y G1 H1 s1 k1 hy => ho G1 H1 (s.trans s1) k1 _ fun x G2 H2 s2 k2 hx => by
    obtain ⟨a, kvs, rfl, h1, h2, _⟩ := dq_eDS hx
    cases hy
    refine ⟨a, _, rfl, dgS (rd_up k2.g h1), q _ G2 H2 (s1.trans s2) k2 ?_⟩
    rw [h2.some' kS_inj]
    exact .bl _
def getD' {α β : Type} [DecidableEq α] (xs : List (α × β)) (k : α) (z : β) : β := (getA xs k).getD z
theorem ev_dget2S [Tb] {xs : List (Str × β)} {k : Str} {z : β} (ho : Ev ta σ G M M1 (DD K (eDS e xs))) (hk : Ev tb σ G M1 M2 (DD K (.str k))) (hz : Ev tc σ G M2 M3 (DD K (e z))) : Ev (tDGet2 ta tb tc) σ G M M3 (DD K (e (getD' xs k z))) := fun G0 H s kk Q q =>
  ho G0 H s kk _ fun x G1 H1 s1 k1 hx => by
    obtain ⟨a, kvs, rfl, h1, h2, _⟩ := dq_eDS hx
    refine ⟨a, rfl, .inl ⟨kvs, rd_up k1.g h1⟩, hk G1 H1 (s.trans s1) k1 _ fun y G2 H2 s2 k2 hy => hz G2 H2 ((s.trans s1).trans s2) k2 _ fun w G3 H3 s3 k3 hw => ?_⟩
    cases hy
    have s13 := s2.trans s3
    refine ⟨_, dgS (rd_up (s13.trans k3.g) h1), q _ G3 H3 (s1.trans s13) k3 ?_⟩
    unfold getD'
    rcases h2.get kS_inj k with ⟨z1, z2⟩ | ⟨b', v, e1, e2, e3⟩
    · rw [z1, z2]; exact hw
    · rw [e1, e2]; exact dp_up s13 _ e3
theorem ev_dget2P [Tb] {xs : List ((Str × Str) × β)} {k : Str × Str} {z : β} (ho : Ev ta σ G M M1 (DD K (eDP e xs))) (hk : Ev tb σ G M1 M2 (DD K (.rtup [.str k.1, .str k.2]))) (hz : Ev tc σ G M2 M3 (DD K (e z))) : Ev (tDGet2 ta tb tc) σ G M M3 (DD K (e (getD' xs k z))) := fun G0 H s kk Q q =>
  ho G0 H s kk _ fun x G1 H1 s1 k1 hx => by
    obtain ⟨a, kvs, rfl, h1, h2, _⟩ := dq_eDP hx
    refine ⟨a, rfl, .inr ⟨kvs, rd_up k1.g h1⟩, hk G1 H1 (s.trans s1) k1 _ fun y G2 H2 s2 k2 hy => hz G2 H2 ((s.trans s1).trans s2) k2 _ fun w G3 H3 s3 k3 hw => ?_⟩
    obtain ⟨b, rfl, hb⟩ := key_pair hy
    have s13 := s2.trans s3
    refine ⟨_, .inr ⟨kvs, kP k, b, (rd_up (s13.trans k3.g) h1), rfl, (s3.trans k3.g) _ _ hb, rfl⟩, q _ G3 H3 (s1.trans s13) k3 ?_⟩
    unfold getD'
    rcases h2.get kP_inj k with ⟨z1, z2⟩ | ⟨b', v, e1, e2, e3⟩
    · rw [z1, z2]; exact hw
    · rw [e1, e2]; exact dp_up s13 _ e3
theorem ev_rtup [Tb] {t : TA} (ha : EvA t σ G M M1 (allP K ds)) (hl : ds.length ≤ sizeLine := by simp [sizeLine_eq]) : Ev (tTup t) σ G M M1 (DD K (.rtup ds)) := fun G0 H s k Q q =>
  ha G0 H s k _ fun xs G1 H1 s1 k1 hx => ⟨by rw [dpAll_len hx]; exact hl, newR s1 k1 hx q⟩
/-! ### a dict of one's own by texts -/
def KOk (K : PySem.W.Frag) (G : Hp) (e : β → Dat) (kvs : List (Key × V)) (xs : List (Str × β)) : Prop := KRel K G kS e kvs xs ∧ ∀ x ∈ xs, okS x.1
theorem KOk.up {kvs : List (Key × V)} {xs : List (Str × β)} (s : Same G G') (h : KOk K G e kvs xs) : KOk K G' e kvs xs := ⟨h.1.up s, h.2⟩
theorem KOk.nil : KOk K G e [] [] := ⟨.nil, fun x hx => nomatch hx⟩
/-- a new dict of one's own -/
def EvD [Tb] (K : PySem.W.Frag) (te : TE) (σ : St) (G M M' : Hp) (e : β → Dat) (xs : List (Str × β)) : Prop :=
  ∀ G0 H, Same G G0 → Ok G0 M H → ∀ Q : VK, (∀ p kvs G' H', Same G0 G' → Ok G' (upd M' p (.dK kvs)) H' → M' p = none → KOk K G' e kvs xs → Q (.ref p) H') → te σ H Q
theorem EvD.ev [Tb] {xs : List (Str × β)} (h : EvD K te σ G M M1 e xs) : Ev te σ G M M1 (DD K (eDS e xs)) := fun G0 H s k Q q =>
  h G0 H s k Q fun p kvs G' H' s' k' hp hd => q _ (upd G' p (.dK kvs)) H' (s'.trans (Same.new k'.gp)) (k'.frz hp) (eDS_of upd_same (hd.1.up (Same.new k'.gp)) hd.2)
theorem ed_new [Tb] : EvD K tDNewK σ G M M e [] := fun G0 H s k Q q p hp => q p [] G0 _ (Same.refl _) (k.newM _ hp) (Same.none k.m hp) KOk.nil
end
end Kx
end
section
set_option maxHeartbeats 2000000
namespace Kx
open PySem L2
theorem mergeA_take {α β : Type} [DecidableEq α] {ys : List (α × β)} {i : Nat} {y : α × β} (h : ys[i]? = some y) : mergeA [] (ys.take (i + 1)) = putA (mergeA [] (ys.take i)) y.1 y.2 := by
  unfold mergeA
  rw [List.take_add_one, h, List.foldl_append]
  rfl
theorem mergeA_len {α β : Type} [DecidableEq α] : ∀ (more xs : List (α × β)), (mergeA xs more).length ≤ xs.length + more.length
  | [], xs => by show xs.length ≤ xs.length + 0; omega
  | p :: r, xs => by
    have h1 := mergeA_len r (putA xs p.1 p.2)
    have h2 := putA_len xs p.1 p.2
    show (mergeA (putA xs p.1 p.2) r).length ≤ _
    rw [List.length_cons]; omega
theorem mergeA_keys {α β : Type} [DecidableEq α] {p : α → Prop} : ∀ (more xs : List (α × β)), (∀ x ∈ xs, p x.1) → (∀ x ∈ more, p x.1) → ∀ x ∈ mergeA xs more, p x.1
  | [], xs, h, _ => h
  | y :: r, xs, h, hm => mergeA_keys r (putA xs y.1 y.2) (putA_keys h (hm y List.mem_cons_self)) fun x hx => hm x (List.mem_cons_of_mem _ hx)
section
variable {β : Type} {K : PySem.W.Frag} {σ σ' : St} {G G' M M1 M2 M3 : Hp} {ta tb te tc tk tv : TE} {P P1 P2 : VP} {d : Dat} {ds es : List Dat} {D : Ends} {H : Hp} {u : TS} {e : β → Dat}
theorem KRel.mergeS : ∀ {more : List (Key × V)} {ms : List (Str × β)} {kvs : List (Key × V)} {xs : List (Str × β)}, KRel K G kS e more ms → KRel K G kS e kvs xs → KRel K G kS e (mergeK kvs more) (mergeA xs ms) := by
  intro more ms kvs xs r
  induction r generalizing kvs xs with
  | nil => intro q; exact q
  | cons a _ ih => intro q; exact ih (q.put kS_inj _ a)
theorem KRel.mergeP : ∀ {more : List (List Key × V)} {ms : List ((Str × Str) × β)} {kvs : List (List Key × V)} {xs : List ((Str × Str) × β)}, KRel K G kP e more ms → KRel K G kP e kvs xs → KRel K G kP e (mergeT kvs more) (mergeA xs ms) := by
  intro more ms kvs xs r
  induction r generalizing kvs xs with
  | nil => intro q; exact q
  | cons a _ ih => intro q; exact ih (q.put kP_inj _ a)
/-- pairs (text, thing) -/
theorem prsS_of : ∀ {xs : List (Str × β)} {vs : List V}, DqAll K G vs (xs.map (eP2 Dat.str e)) → ∃ ps kvs, vs = ps.map V.ref ∧ Paired (fun p kv => SqT K G p [kV kv.1, kv.2]) ps kvs ∧ KRel K G kS e kvs xs ∧ ∀ x ∈ xs, okS x.1
  | [], _, h => by cases h; exact ⟨[], [], rfl, .nil, .nil, fun x hx => nomatch hx⟩
  | x :: xs, _, h => by
    cases h with
    | cons a b =>
      obtain ⟨ps, kvs, rfl, h1, h2, h3⟩ := prsS_of b
      obtain ⟨p, ws, rfl, h4, h5⟩ := dp_tuple a
      cases h5 with
      | cons h5 h6 =>
        cases h6 with
        | cons h6 h7 =>
          cases h7
          have sk : okS x.1 := by cases h5 with | str h => exact h
          cases h5
          refine ⟨p :: ps, (kS x.1, _) :: kvs, rfl, .cons h4 h1, .cons h6 h2, fun y hy => ?_⟩
          rcases List.mem_cons.mp hy with rfl | hy
          · exact sk
          · exact h3 y hy
theorem paired_up {α γ : Type} {R S : α → γ → Prop} {xs : List α} {ys : List γ} (h : Paired R xs ys) (f : ∀ a b, R a b → S a b) : Paired S xs ys := by
  induction h with
  | nil => exact .nil
  | cons a _ ih => exact .cons (f _ _ a) ih
theorem ev_dictT [Tb] {xs ys : List (Str × β)} (hy : dictO xs = some ys) (ha : EvA (tCons ta tNil) σ G M M1 (conP (DD K (.tuple (xs.map (eP2 Dat.str e)))) nilP)) : Ev (tCB (rDictT K) (tCons ta tNil)) σ G M M1 (DD K (eDS e ys)) := ev_cb ha fun vs G0 H s k hx Q q => by
  obtain ⟨v, rfl, hv⟩ := one_of (R := nilP) hx
  obtain ⟨_, h1, h2⟩ := bs hy
  cases h2
  cases hv with
  | tup a b =>
    obtain ⟨ps, kvs, rfl, p1, p2, p3⟩ := prsS_of b
    refine ⟨_, ps, kvs, rfl, .inl (a.up k.g), paired_up p1 fun _ _ z => sqT_up k.g z, fun p hp => ?_⟩
    have gn := Same.none k.g hp
    have s1 : Same G0 (upd G0 p (.dK (mergeK [] kvs))) := Same.new gn
    exact q _ _ _ s1 (k.newG _ hp) (eDS_of upd_same (((KRel.mergeS p2 .nil).up s1)) (mergeA_keys xs [] (fun x hx => nomatch hx) p3))
theorem ev_dictL [Tb] {xs ys : List (Str × β)} (hy : dictO xs = some ys) (ha : EvA (tCons ta tNil) σ G M M1 (conP (DD K (.list (xs.map (eP2 Dat.str e)))) nilP)) : Ev (tCB (rDictT K) (tCons ta tNil)) σ G M M1 (DD K (eDS e ys)) := ev_cb ha fun vs G0 H s k hx Q q => by
  obtain ⟨v, rfl, hv⟩ := one_of (R := nilP) hx
  obtain ⟨_, h1, h2⟩ := bs hy
  cases h2
  obtain ⟨a, ws, rfl, a1, b⟩ := dp_list hv
  obtain ⟨ps, kvs, rfl, p1, p2, p3⟩ := prsS_of b
  refine ⟨_, ps, kvs, rfl, .inr (.inl (.inl (k.g _ _ a1))), paired_up p1 fun _ _ z => sqT_up k.g z, fun p hp => ?_⟩
  have gn := Same.none k.g hp
  have s1 : Same G0 (upd G0 p (.dK (mergeK [] kvs))) := Same.new gn
  exact q _ _ _ s1 (k.newG _ hp) (eDS_of upd_same (((KRel.mergeS p2 .nil).up s1)) (mergeA_keys xs [] (fun x hx => nomatch hx) p3))
/-- pairs (pair of texts, thing) -/
theorem prsP_of : ∀ {xs : List ((Str × Str) × β)} {vs : List V}, DqAll K G vs (xs.map (eP2 (eR2 Dat.str Dat.str) e)) → ∃ ps kvs, vs = ps.map V.ref ∧ Paired (fun p kv => ∃ b, SqT K G p [.ref b, kv.2] ∧ G b = some (.tup (kv.1.map kV))) ps kvs ∧ KRel K G kP e kvs xs ∧ ∀ x ∈ xs, okP x.1
  | [], _, h => by cases h; exact ⟨[], [], rfl, .nil, .nil, fun x hx => nomatch hx⟩
  | x :: xs, _, h => by
    cases h with
    | cons a b =>
      obtain ⟨ps, kvs, rfl, h1, h2, h3⟩ := prsP_of b
      obtain ⟨p, ws, rfl, h4, h5⟩ := dp_tuple a
      cases h5 with
      | cons h5 h6 =>
        cases h6 with
        | cons h6 h7 =>
          cases h7
          have h5' : Dq K G _ (.rtup [.str x.1.1, .str x.1.2]) := h5
          obtain ⟨c, rfl, hc⟩ := key_pair (k := x.1) h5'
          have sk : okP x.1 := by
            cases h5' with
            | rtup _ z =>
              cases z with
              | cons z1 z2 =>
                cases z2 with
                | cons z2 _ => exact ⟨(dq_str z1).2, (dq_str z2).2⟩
          refine ⟨p :: ps, (kP x.1, _) :: kvs, rfl, .cons ⟨c, h4, hc⟩ h1, .cons h6 h2, fun y hy => ?_⟩
          rcases List.mem_cons.mp hy with rfl | hy
          · exact sk
          · exact h3 y hy
/-- {(a, b): v for ..} -/
def dcO {α γ : Type} [DecidableEq γ] (f : α → Option (γ × β)) (xs : List α) : Option (List (γ × β)) := do
  let ys ← lcO f xs
  some (mergeA [] ys)
theorem ev_dcP [Tb] {α : Type} {ea : α → Dat} {f : α → Option ((Str × Str) × β)} {xs : List α} {zs : List ((Str × Str) × β)} {wi : TI} {g : TG} {vs : List Nat} (src : Src K wi σ G M M1 (xs.map ea)) (hf : dcO f xs = some zs)
    (hs : ∀ (x : α) (y : (Str × Str) × β) (Mx G1 : Hp) (v : V), f x = some y → Same M1 Mx → Same G G1 → Dq K G1 v (ea x) → Tg g v (wipe σ vs) G1 fun σ2 => wipe σ2 vs = wipe σ vs ∧ Ev tk σ2 G1 Mx Mx (DD K (.rtup [.str y.1.1, .str y.1.2])) ∧ Ev tv σ2 G1 Mx Mx (DD K (e y.2))) :
    Ev (tDcB true wi g tYes tk tv vs) σ G M M1 (DD K (eDP e zs)) := by
  intro G0 H s k Q q
  obtain ⟨ys, h0, h1⟩ := bs hf
  cases h1
  obtain ⟨_, h1, h2⟩ := bs h0
  have hl := mapO_len h2
  have hz := szl (grd_of h1)
  refine src G0 H s k _ fun J G1 H1 s1 k1 w => ?_
  obtain ⟨Y, Gd, w, hGd, hY⟩ := w
  intro D hD
  have mD : M1 D = none := Same.none k1.m hD
  rw [List.length_map] at w
  let Pv : Nat → Hp → Prop := fun i H => ∃ G2 kvs, Same G1 G2 ∧ Ok G2 (upd M1 D (.dT kvs)) H ∧ KRel K G2 kP e kvs (mergeA [] (ys.take i)) ∧ ∀ x ∈ mergeA [] (ys.take i), okP x.1
  refine ⟨fun i m H => m = xs.length - i ∧ i ≤ xs.length ∧ Pv i H, ⟨xs.length, by simp, Nat.zero_le _, G1, [], Same.refl _, k1.newM _ hD, .nil, fun x hx => nomatch hx⟩, ?_⟩
  rintro i m H2 ⟨rfl, hi, G2, kvs, s2, k2, r2, o2⟩
  have qg := hGd H2 (s2.trans k2.g)
  by_cases hlt : i < xs.length
  · refine .inr ⟨w.goes i H2 hlt qg, Pv (i + 1), fun H' p' => ⟨xs.length - (i + 1), by omega, rfl, hlt, p'⟩, fun x H3 y => ?_⟩
    have y := w.yields i H2 x H3 hlt qg y
    obtain ⟨a, ha⟩ : ∃ a, xs[i]? = some a := ⟨xs[i], List.getElem?_eq_getElem hlt⟩
    obtain ⟨b, hb⟩ : ∃ b, ys[i]? = some b := ⟨ys[i]'(by omega), List.getElem?_eq_getElem (by omega)⟩
    obtain ⟨G3, s3, k3, hx⟩ := hY i (ea a) H2 x H3 G2 _ (by rw [List.getElem?_map, ha]; rfl) s2 k2 y
    refine hs a b (upd M1 D (.dT kvs)) G3 x (mapO_get h2 ha hb) (Same.new mD) (((s.trans s1).trans s2).trans s3) hx H3 _ k3.g ?_
    rintro σ2 ⟨hw, ek, ev⟩
    refine ⟨hw, ?_⟩
    simp only [tYes, if_true]
    refine ek G3 H3 (Same.refl _) k3 _ fun kv G4 H4 s4 k4 hk => ev G4 H4 s4 k4 _ fun vv G5 H5 s5 k5 hv => ?_
    obtain ⟨c, rfl, hc⟩ := key_pair (k := b.1) hk
    have ok : okP b.1 := by
      cases hk with
      | rtup _ z =>
        cases z with
        | cons z1 z2 =>
          cases z2 with
          | cons z2 _ => exact ⟨(dq_str z1).2, (dq_str z2).2⟩
    have s25 := (s3.trans s4).trans s5
    have hlen : (mergeA [] (ys.take i)).length < sizeLine := by
      have := mergeA_len (ys.take i) []
      rw [List.length_nil, List.length_take] at this
      rw [sizeLine_eq] at hz ⊢
      omega
    refine ⟨_, DPut.t (k5.m _ _ upd_same) ((s5.trans k5.g) _ _ hc) (by rw [r2.len]; exact hlen), G5, putK kvs (kP b.1) vv, s2.trans s25, ?_, ?_⟩
    · have := k5.chg (p := D) (u := .dT kvs) (.dT (putK kvs (kP b.1) vv)) upd_same
      rw [upd_upd] at this
      exact this
    · rw [mergeA_take hb]
      exact ⟨(r2.up s25).put kP_inj _ hv, putA_keys o2 ok⟩
  · have e : i = xs.length := by omega
    subst e
    refine .inl ⟨w.stops H2 qg, ?_⟩
    rw [← hl, List.take_length] at r2 o2
    exact q _ (upd G2 D (.dT kvs)) H2 ((s1.trans s2).trans (Same.new k2.gp)) (k2.frz mD) (eDP_of upd_same (r2.up (Same.new k2.gp)) o2)
end
end Kx
end
section
set_option maxHeartbeats 2000000
namespace Kx
open PySem L2
/-! ### instances -/
def fldIx : List Str → Str → Option Nat
  | [], _ => none
  | n :: ns, f => if n = f then some 0 else (fldIx ns f).map (· + 1)
theorem fldIx_lookup {f : Str} : ∀ {fs : List (Str × V)} {i : Nat}, fldIx (fs.map (·.1)) f = some i → fs.lookup f = (fs.map (·.2))[i]?
  | [], _, h => by cases h
  | (n, v) :: fs, i, h => by
    rw [List.map_cons] at h
    unfold fldIx at h
    rw [List.lookup_cons]
    by_cases e : n = f
    · rw [if_pos e] at h
      cases h
      rw [show (f == n) = true from beq_iff_eq.mpr e.symm]
      rfl
    · rw [if_neg e] at h
      obtain ⟨j, hj, rfl⟩ := Option.map_eq_some_iff.mp h
      rw [show (f == n) = false from beq_eq_false_iff_ne.mpr fun z => e z.symm]
      exact fldIx_lookup hj
theorem fldIx_none {f : Str} : ∀ {fs : List (Str × V)}, fldIx (fs.map (·.1)) f = none → fs.lookup f = none ∧ ∀ v, putF f v fs = fs ++ [(f, v)]
  | [], _ => ⟨rfl, fun _ => rfl⟩
  | (n, v) :: fs, h => by
    rw [List.map_cons] at h
    unfold fldIx at h
    by_cases e : n = f
    · rw [if_pos e] at h
      cases h
    · rw [if_neg e] at h
      obtain ⟨h1, h2⟩ := fldIx_none (Option.map_eq_none_iff.mp h)
      refine ⟨?_, fun w => ?_⟩
      · rw [List.lookup_cons, show (f == n) = false from beq_eq_false_iff_ne.mpr fun z => e z.symm]
        exact h1
      · unfold putF
        rw [if_neg e, h2 w]
        rfl
section
variable {K : PySem.W.Frag} {σ σ' : St} {G G' M M1 M2 M3 : Hp} {ta tb te tc : TE} {P P1 P2 : VP} {d : Dat} {ds es : List Dat} {D : Ends} {H : Hp} {u : TS} {C : Addr} {cn : Str} {ns : List Str}
theorem dq_ins {v : V} (h : Dq K G v (.ins cn ns ds)) : ∃ a dx fs, v = .ref a ∧ G a = some (.ins (clsAt K cn) dx fs) ∧ fs.map (·.1) = ns ∧ DqAll K G (fs.map (·.2)) ds := by
  cases h with
  | ins a b c => exact ⟨_, _, _, rfl, a, b, c⟩
theorem ev_fld [Tb] {f : Str} {i : Nat} (c : Cls K (clsAt K cn)) (n : NoAttr K (clsAt K cn) f) (hl : fldIx ns f = some i) (hd : ds[i]? = some d) (h : Ev te σ G M M1 (DD K (.ins cn ns ds))) : Ev (tFld K te f) σ G M M1 (DD K d) := fun G0 H s k Q q =>
  h G0 H s k _ fun x G1 H1 s1 k1 hx => by
    obtain ⟨a, dx, fs, rfl, h1, h2, h3⟩ := dq_ins hx
    subst h2
    obtain ⟨v, h4, h5⟩ := dpAll_get h3 hd
    exact ⟨a, clsAt K cn, dx, fs, v, rfl, k1.g _ _ h1, c, n, (fldIx_lookup hl).trans h4, q v G1 H1 s1 k1 h5⟩
/-- o.m(..) -/
theorem ev_meth [Tb] {α ρ : Type} {args : α → List V → Hp → Prop} {m : α → Option ρ} {res : ρ → VP} {E : XK} {t : TA} {a : α} {r : ρ} {R : List V → Hp → Prop} {f : Str} (hf : fldIx ns f = none) (hA : args a = conP (DD K (.ins cn ns ds)) R) (hm : m a = some r) (ho : Ev te σ G M M1 (DD K (.ins cn ns ds))) (ha : EvA t σ G M1 M2 R) : Ev (tMeth (clsAt K cn) f (spP args m res) [] E te t) σ G M M2 (res r) := fun G0 H s k Q q =>
  ho G0 H s k _ fun x G1 H1 s1 k1 hx => by
    obtain ⟨b, dx, fs, rfl, h1, h2, h3⟩ := dq_ins hx
    subst h2
    refine ⟨b, dx, fs, rfl, k1.g _ _ h1, (fldIx_none hf).1, ha G1 H1 (s.trans s1) k1 _ fun vs G2 H2 s2 k2 hv => ?_⟩
    rw [List.append_nil]
    exact ⟨G2, M2, a, r, k2, by rw [hA]; exact ⟨_, _, rfl, dp_up s2 _ hx, hv⟩, hm, fun v G3 H3 s3 k3 hr => q v G3 H3 ((s1.trans s2).trans s3) k3 hr⟩
/-- the promise of __init__: the object that is being made may be changed, then has these fields -/
def spI [Tb] {α ρ : Type} (K : PySem.W.Frag) (C : Addr) (ns : List Str) (fl : ρ → List Dat) (args : α → List V → Hp → Prop) (m : α → Option ρ) : Sp := fun vs H Q _ =>
  ∃ (G M : Hp) (x dx : Addr) (ws : List V) (a : α) (r : ρ), vs = .ref x :: ws ∧ Ok G (upd M x (.ins C dx [])) H ∧ M x = none ∧ args a ws G ∧ m a = some r ∧
    ∀ fs G' H', Same G G' → Ok G' (upd M x (.ins C dx fs)) H' → fs.map (·.1) = ns → DqAll K G' (fs.map (·.2)) (fl r) → Q .non H'
theorem ev_make [Tb] {α ρ : Type} {fl : ρ → List Dat} {args : α → List V → Hp → Prop} {m : α → Option ρ} {E : XK} {t : TA} {a : α} {r : ρ} (hm : m a = some r) (ha : EvA t σ G M M1 (args a)) : Ev (tMake (clsAt K cn) (spI K (clsAt K cn) ns fl args m) [] E t) σ G M M1 (DD K (.ins cn ns (fl r))) := fun G0 H s k Q q =>
  ha G0 H s k _ fun vs G1 H1 s1 k1 hv x dx hx hdx hne => by
    rw [List.append_nil]
    have h2 : Ok G1 M1 (upd H1 dx (.own x)) := ⟨k1.g.trans (Same.new hdx), k1.m.trans (Same.new hdx), k1.d, k1.mu, tb_new k1.tb hdx⟩
    have hx2 : (upd H1 dx (.own x)) x = none := by rw [upd_ne (fun z => hne z.symm)]; exact hx
    refine ⟨G1, M1, x, dx, vs, a, r, rfl, h2.newM _ hx2, Same.none k1.m hx, hv, hm, fun fs G2 H2 s2 k2 e1 e2 => ⟨rfl, ?_⟩⟩
    exact q _ (upd G2 x (.ins (clsAt K cn) dx fs)) H2 ((s1.trans s2).trans (Same.new k2.gp)) (k2.frz (Same.none k1.m hx)) (.ins upd_same e1 (dpAll_up (Same.new k2.gp) _ e2))
/-- self.f = e, f a new field -/
theorem q_fld [Tb] {f : Str} {x dx : Addr} {fs : List (Str × V)} {M0 : Hp} (c : Cls K C) (n : NoAttr K C f) (he : Ev te σ G (upd M0 x (.ins C dx fs)) (upd M0 x (.ins C dx fs)) (DD K d)) (ho : Ev ta σ G (upd M0 x (.ins C dx fs)) (upd M0 x (.ins C dx fs)) (OW x)) (hk : fs.map (·.1) = ns) (hl : fldIx ns f = none) (hz : ns.length < 1000) (ok : Ok G (upd M0 x (.ins C dx fs)) H)
    (k : ∀ v G' H', Same G G' → Ok G' (upd M0 x (.ins C dx (fs ++ [(f, v)]))) H' → Dq K G' v d → u D σ H') : tSeq (sFld K ta te f) u D σ H :=
  he G H (Same.refl _) ok _ fun v G1 H1 s1 k1 hv => ho G1 H1 s1 k1 _ fun y G2 H2 s2 k2 hy => by
    cases hy
    subst hk
    refine ⟨x, C, dx, fs, rfl, k2.m _ _ upd_same, c, n, by rw [List.length_map] at hz; exact hz, ?_⟩
    rw [(fldIx_none hl).2 v]
    have := k2.chg (p := x) (u := .ins C dx fs) (.ins C dx (fs ++ [(f, v)])) upd_same
    rw [upd_upd] at this
    exact k v G2 _ (s1.trans s2) this (dp_up s2 _ hv)
/-- isinstance(x, C), C the class of x -/
abbrev CLX (C : Addr) : VP := fun v _ => v = .ref C
end
/-! ### a def with one default -/
structure FunT (K : PySem.W.Frag) (x qual : Str) (st : Stmt) (E f : Addr) (fd : FuncData) : Prop where
  ex : FunD K x qual (defArgs st) (defBody st) (defScope st) [.ref E] [] f fd
theorem funT_mk {K : PySem.W.Frag} {x qual : Str} {st : Stmt} {f T E : Addr} {oc cT : Value} {od an dT : Option Addr} {osl slT : Array (Option Value)} {kV doc pm cdv ct : Value} {nT : Nat} (l : K.lookup f = some ⟨oc, od, .func (PySem.W.fnOf x qual (defArgs st) (defBody st) (defScope st) (.ref T) kV doc pm an cdv ct), osl⟩)
    (lT : K.lookup T = some ⟨cT, dT, .seq #[.ref E] nT, slT⟩) (c : PySem.W.codeIn K cdv qual = true) (k : PySem.W.keepIn K (.ref f) = true) : FunT K x qual st E f (PySem.W.fnOf x qual (defArgs st) (defBody st) (defScope st) (.ref T) kV doc pm an cdv ct) :=
  ⟨⟨⟨oc, od, _, kV, doc, pm, an, cdv, ct, osl, rfl, l, c, .inr ⟨by simp, T, _, [.ref E], nT, rfl, lT, rfl, .cons rfl .nil⟩, .inl rfl⟩, k⟩⟩
end Kx
end
section
set_option maxHeartbeats 2000000
namespace HT
open PySem PySem.SeqAt PyProof.Rows
section
variable {prog : Program} {w : World} {A : Around} {E : Value → Shared → Prop} {s : Shared}
theorem adjust_rev (n : Nat) : Builtin.Slice.sliceAdjust none none (-1) (n : Int) = ((n : Int) - 1, -1) := by
  unfold Builtin.Slice.sliceAdjust
  rfl
theorem places_rev (n : Nat) : Builtin.Slice.slicePlaces ((n : Int) - 1) (-1) (-1) = n := by
  unfold Builtin.Slice.slicePlaces
  have h1 : ¬ ((-1 : Int) > 0) := by omega
  simp only [h1, if_false]
  split
  · simp only [Int.neg_neg, Int.ediv_one]
    omega
  · omega
theorem sliceApplied_rev {sl : Addr} {vs : Value} {n : Nat} {Q : Int × Int × Nat → Shared → Prop} (hs : s.heap.IsSliceOf sl .none .none vs) (ps : IsPart vs (some (-1)))
    (h : Q ((n : Int) - 1, -1, n) s) : wpAny (model prog w) A (Builtin.Slice.sliceApplied (.ref sl) (pure (n : Int))) Q E s := by
  obtain ⟨os, hos, hcs, hds⟩ := id hs
  unfold Builtin.Slice.sliceApplied Builtin.Slice.sliceFields
  refine wpAny_bind (wpAny_bind (wpAny_field hos hds (x := .none) rfl (wpAny_bind (wpAny_field hos hds (x := .none) rfl (wpAny_bind (wpAny_field hos hds (x := vs) rfl (wpAny_pure ?_)))))))
  refine wpAny_bind (slicePart_ ps ?_)
  show wpAny _ _ (if ((-1 : Int) == 0) = true then _ else _) _ _ s
  rw [if_neg (by decide)]
  refine wpAny_bind (slicePart_none (wpAny_bind (slicePart_none (wpAny_bind (wpAny_pure ?_)))))
  show wpAny _ _ (match Builtin.Slice.sliceAdjust none none (-1) (n : Int) with | (lo, hi) => pure (lo, (-1 : Int), Builtin.Slice.slicePlaces lo hi (-1))) _ _ s
  rw [adjust_rev n]
  show wpAny _ _ (pure ((n : Int) - 1, (-1 : Int), Builtin.Slice.slicePlaces ((n : Int) - 1) (-1) (-1))) _ _ s
  rw [places_rev]
  exact wpAny_pure h
theorem pick_rev (xs : Array Value) : ((List.range xs.size).filterMap fun (m : Nat) => xs[(((xs.size : Int) - 1) + (m : Int) * (-1)).toNat]?).toArray = xs.toList.reverse.toArray := by
  have e : ((List.range xs.size).filterMap fun (m : Nat) => xs[(((xs.size : Int) - 1) + (m : Int) * (-1)).toNat]?) = ((List.range xs.size).map fun k => xs.size - 1 - k).filterMap (xs[·]?) := by
    rw [List.filterMap_map]
    have : ∀ l : List Nat, (∀ m ∈ l, m < xs.size) → (l.filterMap fun (m : Nat) => xs[(((xs.size : Int) - 1) + (m : Int) * (-1)).toNat]?) = l.filterMap ((xs[·]?) ∘ fun k => xs.size - 1 - k) := by
      intro l hl
      induction l with
      | nil => rfl
      | cons m l ih =>
        have e1 : (((xs.size : Int) - 1) + (m : Int) * (-1)).toNat = xs.size - 1 - m := by
          have := hl m List.mem_cons_self
          omega
        have ih := ih fun x hx => hl x (List.mem_cons_of_mem _ hx)
        rw [List.filterMap_cons, List.filterMap_cons, ih, e1]
        rfl
    exact this _ fun m hm => List.mem_range.mp hm
  rw [e, PySem.W.krv_range, List.filterMap_reverse, PySem.W.krv_all]
theorem getItem_tuple_rev {t sl : Addr} {items : Array Value} {vs : Value} {Q : Value → Shared → Prop} (ht : IsTup s.heap t items) (hs : s.heap.IsSliceOf sl .none .none vs) (ps : IsPart vs (some (-1)))
    (h : Q (.ref s.heap.objs.size) { s with heap := s.heap.push { cls := .type "tuple", data := .seq items.toList.reverse.toArray } })
    (hsz : items.size ≤ sizeLine) : wpAny (model prog w) A (getItem (.ref t) (.ref sl)) Q E s := by
  have htake : sizeOk (.seq items.toList.reverse.toArray) := by
    show items.toList.reverse.toArray.size ≤ sizeLine
    simpa using hsz
  obtain ⟨os, hos, hcs, hds⟩ := id hs
  have hTs : s.TypeIs (.ref sl) "slice" := ⟨os, hos, hcs⟩
  unfold getItem
  try with_reducible refine wpAny_holding ?_
  first | refine wpAny_bind (wpAny_pure ?_) | skip
  refine wpAny_bind (wpAny_sequenceKey ht.typeIs (by decide) ?_)
  refine wpAny_bind (wpAny_callSpecial?_slot (name := Str.ofString "__getitem__") ht.typeIs PyProof.Rows.slot_tuple_getitem
    (wpAny_call_entry PyProof.Rows.slot_tuple_getitem ht.typeIs entry_tuple_getitem ?_ (args_tuple_getitem _ _)))
  show wpAny _ _ (Builtin.Tuple.tupleItemsOf (.ref t) >>= _) _ _ s
  refine wpAny_bind (tupleItemsOf_ ht ?_)
  refine wpAny_bind (wpAny_typeOf hTs ?_)
  rw [if_pos (by decide)]
  refine wpAny_bind (sliceApplied_rev hs ps ?_)
  have hno : ¬ ((((items.size : Int) - 1) == 0 && (-1 : Int) == 1 && items.size == items.size) = true) := by
    intro q
    rw [Bool.and_eq_true, Bool.and_eq_true] at q
    exact absurd q.1.2 (by decide)
  show wpAny _ _ (if (((items.size : Int) - 1) == 0 && (-1 : Int) == 1 && items.size == items.size) = true then _ else _) _ _ s
  rw [if_neg hno, pick_rev]
  first
    | exact wpAny_bind (m := Builtin.Tuple.tupleExact _) (wpAny_newObj_type (wpAny_pure ⟨_, rfl, wpAny_pure h⟩) htake)
    | exact wpAny_bind (m := Builtin.Tuple.tupleExact _) (wpAny_newObj_type (wpAny_bind (wpAny_pure (wpAny_pure ⟨_, rfl, wpAny_pure h⟩))) htake)
    | exact wpAny_bind (wpAny_bind (m := Builtin.Tuple.tupleExact _) (wpAny_newObj_type (wpAny_pure (wpAny_pure ⟨_, rfl, wpAny_pure h⟩)) htake))
    | exact wpAny_bind (wpAny_bind (m := Builtin.Tuple.tupleExact _) (wpAny_newObj_type (wpAny_pure ⟨_, rfl, wpAny_pure h⟩) htake))
end
end HT
namespace Kx
open PySem L2 PySem.Spec PyProof.Rows
section
variable {X : Cx} {K : PySem.W.Frag}
def tRevT (K : PySem.W.Frag) (te : TE) : TE := fun σ H Q => te σ H fun x H1 => ∃ a xs, x = .ref a ∧ SqT K H1 a xs ∧ ∀ p o, H1 p = none → o.dict = none → Q (.ref p) (upd H1 p (.frz o (.tup xs.reverse)))
theorem pe_revT {e : Expr} {te : TE} {k : Nat} {p1 p2 p3 pos : Pos} (he : PE X e te) (hK : X.K = K := by rfl) : PE X (.Subscript e (.Slice none none (some (.UnaryOp .USub (.Constant (.int 1) k p1) p2)) p3) pos) (tRevT K te) := by
  subst hK
  refine ⟨fun pins s σ H Q I h => ?_⟩
  refine Subscript_ (thn (he.run pins s σ H _ I h) fun v s1 ⟨x, H1, I1, r1, q1⟩ => ?_)
  obtain ⟨a, xs, ex, hx, q⟩ := q1
  subst ex
  cases r1
  have hst : PO X (some (.UnaryOp .USub (.Constant (.int 1) k p1) p2)) (tPart (tUn (rU fun i => .int (-i)) (tC (.int 1)))) := po_some (pe_un un_neg pe_int)
  refine wpAny_Slice (thn (po_none.run pins s1 σ H1 (fun o H2 => o = none ∧ H2 = H1) I1 ⟨rfl, rfl⟩) fun vl s2 ⟨l, H2, I2, pl, el, e2⟩ => ?_)
  subst el e2
  refine thn (po_none.run pins s2 σ H2 (fun o H3 => o = none ∧ H3 = H2) I2 ⟨rfl, rfl⟩) fun vu s3 ⟨u, H3, I3, pu, eu, e3⟩ => ?_
  subst eu e3
  refine thn (hst.run pins s3 σ H3 (fun o H4 => o = some (-1) ∧ H4 = H3) I3 ⟨1, rfl, -1, rfl, rfl, rfl⟩) fun vs s4 ⟨o, H4, I4, ps, eo, e4⟩ => ?_
  subst eo e4
  cases pl
  cases pu
  have I5 : Inv X pins σ H4 { s4 with heap := s4.heap.push { cls := .type "slice", data := .fields #[.none, .none, vs] } } := I4.kept (t' := s4.toks) fun b ob q => Heap.get?_push_of_some _ q
  obtain ⟨its, r, ht, hz⟩ := I5.tuple hx
  have hlen := r.length
  show wpAny (model X.prog X.w) X.A (subscriptTail e (.Slice none none (some (.UnaryOp .USub (.Constant (.int 1) k p1) p2)) p3) (.ref a) (.ref s4.heap.objs.size)) (EP X pins σ Q) X.xe { s4 with heap := s4.heap.push { cls := .type "slice", data := .fields #[.none, .none, vs] } }
  refine tail_any (ops := [.ref a, .ref s4.heap.objs.size]) ht.typeIs (PyProof.Rows.slot_tuple_getitem.lookup) ?_ (by with_unfolding_all rfl)
  refine HT.getItem_tuple_rev ht (Heap.IsSliceOf.new _ _ _ vs) ps ?_ (by rw [List.size_toArray]; omega)
  exact ⟨.ref _, _, I5.laid (t' := s4.toks) (fun b ob q => Heap.get?_push_of_some _ q) (Nat.le_refl _) (frz_ok (by rw [List.length_reverse]; exact hz) r.reverse), rfl, q _ _ (I5.hok.fresh (Nat.le_refl _)) rfl⟩
end
section
variable {β : Type} {K : PySem.W.Frag} {σ σ' : L2.St} {G G' M M1 M2 M3 : Hp} {ta tb te tc : TE} {P P1 P2 : VP} {d : Dat} {ds es : List Dat} {e : β → Dat}
theorem dpAll_rev {G : Hp} : ∀ {ds : List Dat} {vs : List V}, DqAll K G vs ds → DqAll K G vs.reverse ds.reverse
  | _, _, .nil => .nil
  | _, _, .cons a b => by
    rw [List.reverse_cons, List.reverse_cons]
    exact dpAll_app (dpAll_rev b) (.cons a .nil)
theorem ev_revT [Tb] (h : Ev te σ G M M1 (DD K (.tuple ds))) : Ev (tRevT K te) σ G M M1 (DD K (.tuple ds.reverse)) := fun G0 H s k Q q =>
  h G0 H s k _ fun x G1 H1 s1 k1 hx => by
    obtain ⟨a, vs, rfl, ha, hb⟩ := dp_tuple hx
    exact ⟨a, vs, rfl, sqT_up k1.g ha, newT s1 k1 (dpAll_rev hb) q⟩
theorem ev_revTM [Tb] {xs : List β} (h : Ev te σ G M M1 (DD K (.tuple (xs.map e)))) : Ev (tRevT K te) σ G M M1 (DD K (.tuple (xs.reverse.map e))) := by
  rw [List.map_reverse]
  exact ev_revT h
end
end Kx
end
section
set_option maxHeartbeats 2000000
namespace PyProof.Rows
open PySem PySem.Spec
end PyProof.Rows
namespace Kx
open PySem L2 PySem.Spec
section
variable {X : Cx} {K : PySem.W.Frag}
/-! order of data -/
def rLeD (K : PySem.W.Frag) : R2 := fun x y H Q => ∃ d e, Dp K H x d ∧ Dp K H y e ∧ PySem.W.alike d e = true ∧ d ≠ .none ∧ min d.depth e.depth ≤ 64 ∧ Q (.bl (!PySem.W.dataLt e d)) H
theorem op_leD (hu : X.A.units + 64 < cLine) (hK : X.K = K := by rfl) : OpR X (compareOp .LtE) (rLeD K) := by
  subst hK
  intro pins s σ H x y v u Q I rx ry h
  obtain ⟨d, e, hd, he, al, hn, hm, q⟩ := h
  obtain ⟨as, r1⟩ := Dp.reads I d x v hd rx
  obtain ⟨bs, r2⟩ := Dp.reads I e y u he ry
  exact PySem.W.le_data r1 r2 al hn (by omega) ⟨.bl _, H, I, rfl, q⟩
end
section
variable {β : Type} {K : PySem.W.Frag} {σ σ' : L2.St} {G G' M M1 M2 M3 : Hp} {ta tb te tc : TE} {P P1 P2 : VP} {d : Dat} {ds es : List Dat} {e : β → Dat}
/-- pairs of texts in their order -/
def ltP (a b : Str × Str) : Bool := if a.1 = b.1 then sLt a.2 b.2 else sLt a.1 b.1
theorem lex_str (a b : Str) : PyProof.Rows.lexLt PyProof.Rows.itemOrd [Sum.inr a.cps.toList] [Sum.inr b.cps.toList] = sLt a b := by
  have := PySem.W.dataLt_str a b
  unfold PySem.W.dataLt at this
  simp only [PySem.W.keyToks] at this
  exact this
theorem dataLt_pair (a b : Str × Str) : PySem.W.dataLt (.tuple [.str a.1, .str a.2]) (.tuple [.str b.1, .str b.2]) = ltP a b := by
  rw [PySem.W.dataLt_tuple]
  simp only [PySem.W.keyToksAll, PySem.W.keyToks, List.cons_append, List.nil_append]
  rw [PyProof.Rows.lex_self]
  unfold ltP
  by_cases h1 : a.1 = b.1
  · rw [if_pos h1, h1, PyProof.Rows.lex_self, PyProof.Rows.lex_self]
    by_cases h2 : a.2 = b.2
    · rw [h2, PyProof.Rows.lex_self, PyProof.Rows.lex_self, sLt_irr]
      rfl
    · rw [PySem.W.lex_atom (fun z => h2 (str_ext (Sum.inr.inj z))), lex_str]
  · rw [if_neg h1, PySem.W.lex_atom (fun z => h1 (str_ext (Sum.inr.inj z))), lex_str]
theorem ev_leP [Tb] {a b : Str × Str} (ha : Ev ta σ G M M1 (DD K (.tuple [.str a.1, .str a.2]))) (hb : Ev tb σ G M1 M2 (DD K (.tuple [.str b.1, .str b.2]))) : Ev (tOp (rLeD K) ta tb) σ G M M2 (DD K (.bool (!ltP b a))) := ev_op mo_dd ha hb fun x y G0 H s k hx hy Q q => by
  have e : ∀ c : Str × Str, toPy (.tuple [.str c.1, .str c.2]) = .tuple [.str c.1, .str c.2] := fun c => by rw [toPy_tuple]; simp [toPy]
  have p : ∀ c : Str × Str, pur (.tuple [.str c.1, .str c.2]) = true := fun c => by simp [pur, purs]
  have h1 := dq_dp _ (p a) (dp_up k.g _ hx)
  have h2 := dq_dp _ (p b) (dp_up k.g _ hy)
  rw [e] at h1 h2
  refine ⟨_, _, h1, h2, by simp [PySem.W.alike, PySem.W.alikeAll], by simp, by simp [PyData.depth, PyData.depthAll], ?_⟩
  rw [dataLt_pair]
  exact q _ G0 H (Same.refl _) k (.bl _)
end
end Kx
end
section
set_option maxHeartbeats 2000000
namespace Kx
open PySem L2
section
variable {K : PySem.W.Frag} {σ σ' : St} {G G' M M1 M2 M3 : Hp} {ta tb te tc : TE} {P P1 P2 : VP} {d : Dat} {ds es : List Dat} {C : Addr} {cn : Str} {ns : List Str}
theorem mo_clx : Mo (CLX C) := fun _ _ _ _ h => h
theorem ev_clx [Tb] : Ev (tC (.ref C)) σ G M M (CLX C) := fun G0 H _ k Q q => q _ G0 H (Same.refl _) k rfl
/-- isinstance(x, C), x an instance of a class of one's own -/
theorem ev_isiX [Tb] {C' : Addr} {b : Bool} (c : ClsOk K (clsAt K cn)) (hb : PySem.W.kitOne K (.ref (clsAt K cn)) (.ref C') = some b) (ha : EvA (tCons ta (tCons tb tNil)) σ G M M1 (conP (DD K (.ins cn ns ds)) (conP (CLX C') nilP))) : Ev (tCB (rIsi K) (tCons ta (tCons tb tNil))) σ G M M1 (DD K (.bool b)) := ev_cb ha fun xs G0 H s k hx Q q => by
  obtain ⟨v, w, rfl, hv, hw⟩ := two_of hx
  cases hw
  exact ⟨v, _, _, _, b, rfl, .own C', tyx_of k.g (fun C1 n1 x1 e => by cases e; exact c) ⟨fun _ _ e => (by cases e), fun _ _ _ e => (by cases e)⟩ hv, hb, q _ G0 H (Same.refl _) k (.bl _)⟩
/-! ### comprehensions with two fors -/
def lc2O {α β γ : Type} (f : α → Option (List γ)) (h : α → γ → Option β) (xs : List α) : Option (List β) := do
  let rs ← mapO (fun x => (f x).bind fun zs => mapO (h x) zs) xs
  grd (rs.flatten.length ≤ 16777216)
  some rs.flatten
theorem el_lc2M [Tb] {α β γ : Type} {ea : α → Dat} {ec : γ → Dat} {eb : β → Dat} {f : α → Option (List γ)} {h : α → γ → Option β} {xs : List α} {ys : List β} {wi wi1 : TI} {g g1 : TG} {vs vs1 : List Nat} (src : Src K wi σ G M M1 (xs.map ea)) (hf : lc2O f h xs = some ys)
    (hs : ∀ (x : α) (zs : List γ) (Mx G1 : Hp) (v : V), f x = some zs → Same M1 Mx → Same G G1 → Dq K G1 v (ea x) → Tg g v (wipe σ vs) G1 fun σ2 => wipe σ2 vs = wipe σ vs ∧ Src K wi1 σ2 G1 Mx Mx (zs.map ec) ∧
      ∀ (c : γ) (y : β) (Mx' G2 : Hp) (v2 : V), h x c = some y → Same M1 Mx' → Same G1 G2 → Dq K G2 v2 (ec c) → Tg g1 v2 (wipe σ2 vs1) G2 fun σ3 => wipe σ3 vs1 = wipe σ2 vs1 ∧ Ev te σ3 G2 Mx' Mx' (DD K (eb y))) :
    EvL K (tLc2 wi g tYes wi1 g1 tYes te vs vs1) σ G M M1 (ys.map eb) := by
  intro G0 H s k Q q
  obtain ⟨rs, h1, h2⟩ := bs hf
  obtain ⟨_, h3, h4⟩ := bs h2
  cases h4
  have hz := szl (grd_of h3)
  have hl := mapO_len h1
  refine src G0 H s k _ fun J G1 H1 s1 k1 w => ?_
  obtain ⟨Y, Gd, w, hGd, hY⟩ := w
  intro D hD
  have mD : M1 D = none := Same.none k1.m hD
  rw [List.length_map] at w
  let Pv : Nat → Hp → Prop := fun i H => ∃ G2 acc, Same G1 G2 ∧ Ok G2 (upd M1 D (.lst acc)) H ∧ DqAll K G2 acc ((rs.take i).flatten.map eb)
  refine ⟨fun i m H => m = xs.length - i ∧ i ≤ xs.length ∧ Pv i H, ⟨xs.length, by simp, Nat.zero_le _, G1, [], Same.refl _, k1.newM _ hD, .nil⟩, ?_⟩
  rintro i m H2 ⟨rfl, hi, G2, acc, s2, k2, hacc⟩
  have qg := hGd H2 (s2.trans k2.g)
  by_cases hlt : i < xs.length
  · refine .inr ⟨w.goes i H2 hlt qg, Pv (i + 1), fun H' p' => ⟨xs.length - (i + 1), by omega, rfl, hlt, p'⟩, fun x H3 y => ?_⟩
    have y := w.yields i H2 x H3 hlt qg y
    obtain ⟨a, ha⟩ : ∃ a, xs[i]? = some a := ⟨xs[i], List.getElem?_eq_getElem hlt⟩
    obtain ⟨r, hr⟩ : ∃ r, rs[i]? = some r := ⟨rs[i]'(by omega), List.getElem?_eq_getElem (by omega)⟩
    obtain ⟨G3, s3, k3, hx⟩ := hY i (ea a) H2 x H3 G2 _ (by rw [List.getElem?_map, ha]; rfl) s2 k2 y
    have e0 : (f a).bind (fun zs => mapO (h a) zs) = some r := mapO_get (f := fun x => (f x).bind fun zs => mapO (h x) zs) h1 ha hr
    obtain ⟨zs, e1, e2⟩ := bs e0
    have hl2 := mapO_len e2
    have htk : (rs.take (i + 1)).flatten = (rs.take i).flatten ++ r := by
      rw [List.take_add_one, hr, List.flatten_append]
      simp
    have hfl : (rs.take i).flatten.length + r.length ≤ rs.flatten.length := by
      have : rs.flatten = (rs.take (i + 1)).flatten ++ (rs.drop (i + 1)).flatten := by rw [← List.flatten_append, List.take_append_drop]
      rw [this, htk, List.length_append, List.length_append]
      omega
    refine hs a zs (upd M1 D (.lst acc)) G3 x e1 (Same.new mD) (((s.trans s1).trans s2).trans s3) hx H3 _ k3.g ?_
    rintro σ2 ⟨hw, sr, hin⟩
    refine ⟨hw, ?_⟩
    simp only [tYes, if_true]
    refine sr G3 H3 (Same.refl _) k3 _ fun J1 G4 H4 s4 k4 w1 => ?_
    obtain ⟨Y1, Gd1, w1, hGd1, hY1⟩ := w1
    rw [List.length_map] at w1
    let Pv1 : Nat → Hp → Prop := fun j H => ∃ G5 acc1, Same G4 G5 ∧ Ok G5 (upd M1 D (.lst acc1)) H ∧ DqAll K G5 acc1 (((rs.take i).flatten ++ r.take j).map eb)
    refine ⟨fun j m H => m = zs.length - j ∧ j ≤ zs.length ∧ Pv1 j H, ⟨zs.length, by simp, Nat.zero_le _, G4, acc, Same.refl _, k4, by rw [List.take_zero, List.append_nil]; exact dpAll_up (s3.trans s4) _ hacc⟩, ?_⟩
    rintro j m H5 ⟨rfl, hj, G5, acc1, s5, k5, hacc1⟩
    have qg1 := hGd1 H5 (s5.trans k5.g)
    by_cases hlt1 : j < zs.length
    · refine .inr ⟨w1.goes j H5 hlt1 qg1, Pv1 (j + 1), fun H' p' => ⟨zs.length - (j + 1), by omega, rfl, hlt1, p'⟩, fun x1 H6 y1 => ?_⟩
      have y1 := w1.yields j H5 x1 H6 hlt1 qg1 y1
      obtain ⟨c, hc⟩ : ∃ c, zs[j]? = some c := ⟨zs[j], List.getElem?_eq_getElem hlt1⟩
      obtain ⟨b, hb⟩ : ∃ b, r[j]? = some b := ⟨r[j]'(by omega), List.getElem?_eq_getElem (by omega)⟩
      obtain ⟨G6, s6, k6, hx1⟩ := hY1 j (ec c) H5 x1 H6 G5 _ (by rw [List.getElem?_map, hc]; rfl) s5 k5 y1
      refine hin c b (upd M1 D (.lst acc1)) G6 x1 (mapO_get e2 hc hb) (Same.new mD) ((s4.trans s5).trans s6) hx1 H6 _ k6.g ?_
      rintro σ3 ⟨hw3, ev⟩
      refine ⟨hw3, ?_⟩
      refine ev G6 H6 (Same.refl _) k6 _ fun z G7 H7 s7 k7 hz7 => ?_
      have hlen : acc1.length < sizeLine := by
        rw [dpAll_len hacc1, List.length_map, List.length_append, List.length_take]
        rw [sizeLine_eq] at hz ⊢
        omega
      refine ⟨acc1, k7.m _ _ upd_same, hlen, G7, acc1 ++ [z], (s5.trans s6).trans s7, ?_, ?_⟩
      · have := k7.chg (p := D) (u := .lst acc1) (.lst (acc1 ++ [z])) upd_same
        rw [upd_upd] at this
        exact this
      · rw [List.take_add_one, hb, ← List.append_assoc, List.map_append (l₁ := (rs.take i).flatten ++ r.take j)]
        exact dpAll_app (dpAll_up (s6.trans s7) _ hacc1) (.cons hz7 .nil)
    · have e : j = zs.length := by omega
      subst e
      refine .inl ⟨w1.stops H5 qg1, G5, acc1, ((s2.trans s3).trans s4).trans s5, k5, ?_⟩
      rw [htk]
      rw [← hl2, List.take_length] at hacc1
      exact hacc1
  · have e : i = xs.length := by omega
    subst e
    refine .inl ⟨w.stops H2 qg, ?_⟩
    rw [← hl, List.take_length] at hacc
    exact q D acc G2 H2 (s1.trans s2) k2 mD hacc
end
end Kx
end
section
set_option maxHeartbeats 2000000
namespace Kx
open PySem L2
/-- a text's signs -/
def signs (z : Str) : List Str := z.cps.toList.map fun c => ⟨#[c]⟩
theorem signs_map {z : Str} : (z.cps.toList.map fun c => Dat.str ⟨#[c]⟩) = (signs z).map Dat.str := by
  unfold signs
  rw [List.map_map]
  rfl
section
variable {X : Cx} {K : PySem.W.Frag}
theorem pe_fldK {e : Expr} {ta : TE} {f : Str} {pos : Pos} (he : PE X e ta) (hb : attributeBase e f X.env (eval e X.env) = eval e X.env := by rfl) (h : X.K = K := by rfl) : PE X (.Attribute e f pos) (tFld K ta f) := h ▸ pe_fld he hb
theorem cl_dictTK (hcalm : X.calm = true) (h : X.K = K := by rfl) : CallR X (.type "dict") (rDictT K) := h ▸ cl_dictT hcalm
theorem cl_dictHK (hu : X.A.units + 64 < cLine) (hcalm : X.calm = true) (h : X.K = K := by rfl) : CallR X (.type "dict") (rDictH K) := h ▸ cl_dictH (by omega) hcalm
end
end Kx
end
section
set_option maxHeartbeats 2000000
namespace Kx
open PySem L2
/-- all places are told: the default fills nothing -/
theorem FunT.binds3 {K : PySem.W.Frag} {x qual : Str} {st : Stmt} {E0 f : Addr} {fd : FuncData} {ps : List Str} (F : FunT K x qual st E0 f fd)
    (h : ∀ (T : Addr) (kV doc pm : Value) (an : Option Addr) (cdv ct : Value) (us its : List Value), us.length = ps.length → its.length = 1 →
      ∃ k, bindArgs (PySem.W.fnOf x qual (defArgs st) (defBody st) (defScope st) (.ref T) kV doc pm an cdv ct) ⟨us, []⟩ = seqItems? (.ref T) >>= k ∧ k (some its.toArray) = pure (ps.zip us)) : Binds K fd ps [] := by
  obtain ⟨ds, r, b⟩ := F.ex.binds1 (ps := ps) ps.length 1 (by simp) (by simp) fun T kV doc pm an cdv ct us its hl hi => by
    obtain ⟨k, h1, h2⟩ := h T kV doc pm an cdv ct us its hl hi
    refine ⟨k, h1, ?_⟩
    have : its.drop 1 = [] := by
      rw [List.drop_eq_nil_iff]
      have := hi
      simp at this
      omega
    rw [this, List.append_nil]
    exact h2
  cases r
  exact b
theorem kit_self {K : PySem.W.Frag} {t : Value} : PySem.W.kitOne K t t = some true := by
  unfold PySem.W.kitOne
  simp
end Kx
end
section
set_option maxHeartbeats 2000000
namespace Kx
open PySem L2
section
variable {β : Type} {K : PySem.W.Frag} {σ σ' : St} {G G' M M1 M2 M3 : Hp} {ta tb te tc tk1 tv1 tk2 tv2 : TE} {P P1 P2 : VP} {d : Dat} {ds es : List Dat} {D : Ends} {H : Hp} {u : TS} {e : β → Dat}
/-- {k1: v1, k2: v2} by texts -/
theorem ev_disp2 [Tb] {k1 k2 : Str} {b1 b2 : β} (h1 : ∀ Mx, Same M Mx → Ev tk1 σ G Mx Mx (DD K (.str k1))) (h2 : ∀ Mx, Same M Mx → Ev tv1 σ G Mx Mx (DD K (e b1))) (h3 : ∀ Mx, Same M Mx → Ev tk2 σ G Mx Mx (DD K (.str k2))) (h4 : ∀ Mx, Same M Mx → Ev tv2 σ G Mx Mx (DD K (e b2))) :
    Ev (tDisp [(tk1, tv1), (tk2, tv2)]) σ G M M (DD K (eDS e (mergeA [] [(k1, b1), (k2, b2)]))) := fun G0 H s k Q q p hp => by
  have mp : M p = none := Same.none k.m hp
  have sM : Same M (upd M p (.dK [])) := Same.new mp
  have k0 := k.newM (.dK []) hp
  refine h1 _ sM G0 _ s k0 _ fun x1 G1 H1 s1 ok1 hx1 => h2 _ sM G1 H1 (s.trans s1) ok1 _ fun y1 G2 H2 s2 ok2 hy1 => h3 _ sM G2 H2 ((s.trans s1).trans s2) ok2 _ fun x2 G3 H3 s3 ok3 hx2 => h4 _ sM G3 H3 (((s.trans s1).trans s2).trans s3) ok3 _ fun y2 G4 H4 s4 ok4 hy2 => ?_
  obtain ⟨rfl, o1⟩ := dq_str hx1
  obtain ⟨rfl, o2⟩ := dq_str hx2
  refine ⟨ok4.m _ _ upd_same, [(kS k1, y1), (kS k2, y2)], rfl, by simp, ?_⟩
  have r : KRel K G4 kS e [(kS k1, y1), (kS k2, y2)] [(k1, b1), (k2, b2)] := .cons (dp_up (s3.trans s4) _ hy1) (.cons hy2 .nil)
  have r2 := KRel.mergeS r .nil
  have okk := ok4.chg (p := p) (u := .dK []) (.dK (mergeK [] [(kS k1, y1), (kS k2, y2)])) upd_same
  rw [upd_upd] at okk
  have sn : Same G4 (upd G4 p (.dK (mergeK [] [(kS k1, y1), (kS k2, y2)]))) := Same.new okk.gp
  refine q _ _ _ ((((s1.trans s2).trans s3).trans s4).trans sn) (okk.frz mp) (eDS_of upd_same (r2.up sn) (mergeA_keys [(k1, b1), (k2, b2)] [] (fun x hx => (nomatch hx)) fun x hx => ?_))
  rcases List.mem_cons.mp hx with rfl | hx
  · exact o1
  · rw [List.mem_singleton.mp hx]; exact o2
end
end Kx
end
section
set_option maxHeartbeats 2000000
namespace Kx
open PySem L2
section
variable {β : Type} {K : PySem.W.Frag} {σ σ' : St} {G G' M M1 M2 M3 : Hp} {ta tb te tc tk tv : TE} {P P1 P2 : VP} {d : Dat} {ds es : List Dat} {D : Ends} {H : Hp} {u : TS} {e : β → Dat}
/-! ### a dict of one's own by pairs of texts -/
def KOkP (K : PySem.W.Frag) (G : Hp) (e : β → Dat) (kvs : List (List Key × V)) (xs : List ((Str × Str) × β)) : Prop := KRel K G kP e kvs xs ∧ ∀ x ∈ xs, okP x.1
theorem KOkP.up {kvs : List (List Key × V)} {xs : List ((Str × Str) × β)} (s : Same G G') (h : KOkP K G e kvs xs) : KOkP K G' e kvs xs := ⟨h.1.up s, h.2⟩
theorem KOkP.nil : KOkP K G e [] [] := ⟨.nil, fun x hx => (nomatch hx)⟩
def EvP [Tb] (K : PySem.W.Frag) (te : TE) (σ : St) (G M M' : Hp) (e : β → Dat) (xs : List ((Str × Str) × β)) : Prop :=
  ∀ G0 H, Same G G0 → Ok G0 M H → ∀ Q : VK, (∀ p kvs G' H', Same G0 G' → Ok G' (upd M' p (.dT kvs)) H' → M' p = none → KOkP K G' e kvs xs → Q (.ref p) H') → te σ H Q
theorem EvP.ev [Tb] {xs : List ((Str × Str) × β)} (h : EvP K te σ G M M1 e xs) : Ev te σ G M M1 (DD K (eDP e xs)) := fun G0 H s k Q q =>
  h G0 H s k Q fun p kvs G' H' s' k' hp hd => q _ (upd G' p (.dT kvs)) H' (s'.trans (Same.new k'.gp)) (k'.frz hp) (eDP_of upd_same (hd.1.up (Same.new k'.gp)) hd.2)
end
end Kx
end
section
set_option maxHeartbeats 2000000
namespace Kx
open PySem L2
/-! ### a dict is locked for a statement -/
def isDO (u : HO) : Prop := (∃ kvs, u = .dK kvs) ∨ (∃ kvs, u = .dT kvs) ∨ ∃ w a es, u = dnO w a es
theorem isDO.nt {u : HO} (h : isDO u) : Nt u := by
  rcases h with ⟨_, rfl⟩ | ⟨_, rfl⟩ | ⟨w, a, es, rfl⟩
  · trivial
  · trivial
  · exact ⟨w, a, es, rfl⟩
theorem isDO.dN {w : World} {a : Addr} {es : List (NestedKey × Addr × V)} : isDO (dnO w a es) := .inr (.inr ⟨w, a, es, rfl⟩)
end Kx
end
section
set_option maxHeartbeats 2000000
namespace Kx
open PySem L2 PySem.Spec PyProof.Rows
/-! ### for (k, v) in d.items(), d a locked dict by tuples -/
end Kx
end
section
set_option maxHeartbeats 2000000
namespace Kx
open PySem L2
end Kx
end
section
set_option maxHeartbeats 2000000
namespace Kx
open PySem L2 PySem.Spec PyProof.Rows
/-! ### promises where no repr is under way: repr of data can be told -/
/-- as FnOk, asked only where no guard is known to be under way -/
structure FnOkG (P : Program) (w : World) (K : PySem.W.Frag) (mg : Str → Option Value) (base : Heap) (CX : CXT) (k : Nat) (f : Addr) (fd : FuncData) (ps : List Str) (sp : Sp) : Prop where
  len : ∀ vs H Q E, sp vs H Q E → vs.length = ps.length
  run : ∀ (A : Around) (out : List Env) (s : Shared) (H : Hp) (ar : Args) (us : List Value) (vs : List V) (Q : VK) (E : XK), A.guards = some [] → Room k A → Env0 P w K mg base A out s H → BindsTo s fd ar (ps.zip us) → Vals vs us →
    sp vs H Q E → codeAny (model P w) A (.call (.ref f) ar) (CR CX out P w H s Q E) s
section
variable {P : Program} {w : World} {K : PySem.W.Frag} {mg : Str → Option Value} {base : Heap} {CX : CXT} {k : Nat} {f : Addr} {fd : FuncData} {ps : List Str} {sp : Sp}
/-- the rule for a def of the text, its body with the guards known -/
theorem okG {x qual : Str} {st : Stmt} {N : List Str} (F : Fun K x qual st f fd) (S : FnScope N ps (defScope st)) (len : ∀ vs H Q E, sp vs H Q E → vs.length = ps.length)
    (hb : ∀ (cdv : Value) (A : Around) (out : List Env) (s : Shared) (H : Hp) (vs : List V) (Q : VK) (E : XK), Room k (A.deeper (envOfC qual (defScope st) s.heap.objs.size f cdv)) → (A.deeper (envOfC qual (defScope st) s.heap.objs.size f cdv)).guards = some [] → sp vs H Q E →
      ∃ t, PSs (cxOf CX0 P w K mg base N qual (defScope st) f cdv A out s H E).nox (defBody st) t ∧ t { nx := fun _ H' => Q .non H', rt := Q } (start N vs) H) : FnOkG P w K mg base CX0 (k + 1) f fd ps sp := by
  obtain ⟨oc, od, kV, doc, pm, an, cdv, ct, osl, rfl, lk, hcd⟩ := F.ex
  refine ⟨len, fun A out s H ar us vs Q E hgd hr en hbt rel hsp => ?_⟩
  have old : ∀ b o, base.get? b = some o → s.heap.get? b = some o := fun b o e => (en.bs b o e).1
  have kin : K.In s.heap := en.mod.kin.keeps old
  obtain ⟨t, ht, hq⟩ := hb cdv A out s H vs Q E (hr.deeper _) (by show A.guards = some []; exact hgd) hsp
  refine codeAny_call_function hr.depth (kin _ _ lk) rfl S.co S.gen rfl (PySem.W.codeRec_of kin hcd) (hbt _ _ _ _ (wpAny_newFunctionEnv_cells S.kind (fun ⟨n, v⟩ hy => ?_) fun env he s1 x => ?_))
  · rcases S.par n (List.of_mem_zip hy).1 with c | c
    · exact .inl c
    · exact .inr ⟨c, PySem.W.cellsFrom_some _ _ _ (.inl c)⟩
  · subst he
    refine ⟨(en.mod.nolimit.keeps old).keeps x.toInCall.keep, codeAny_func ?_⟩
    refine wpAny_mono (ht.nox.run [] s1 (start N vs) H _ (inv_start S hr.hd en (len _ _ _ _ hsp) rel x) hq) (fun fl s' hs => ?_) fun _ _ hs => hs
    cases fl with
    | ret u => exact (fun ⟨v, _, H', J, rv, q⟩ => ⟨v, H', J.os, J.bare, J.base, J.hok, rv, q⟩) hs
    | next => exact (fun ⟨_, H', J, q⟩ => ⟨V.non, H', J.os, J.bare, J.base, J.hok, rfl, q⟩) hs
    | brk => exact (fun ⟨_, _, _, q⟩ => q.elim) hs
    | cont => exact (fun ⟨_, _, _, q⟩ => q.elim) hs
end
section
variable {X : Cx} {CX : CXT} {k : Nat} {f : Addr} {fd : FuncData} {ps : List Str} {sp : Sp} {dvs : List V} {ds : List Value} {E : XK} {x : Str} {p pos : Pos} {e : Expr} {es : List Expr} {t : TA}
theorem pe_callG (F : FnOkG X.prog X.w X.K X.mg X.base CX k f fd ps sp) (hgd : X.A.guards = some []) (hr : Room k X.A) (hg : Gl X x) (hm : X.mg x = some (.ref f)) (hk : PySem.W.keepIn X.K (.ref f) = true) (hb : Binds X.K fd ps ds) (hd : Vals dvs ds) (hx : Passes CX X E)
    (ha : PA X (e :: es) t) (hdb : (x == ("__debug__" : Str)) = false := by decide) (he : starEach (e :: es) X.env = (false, eval e X.env) :: starEach es X.env := by rfl) (hpl : (backTo pos (starEach es X.env)).any (·.1) = false := by rfl) :
    PE X (.Call (.Name x p) (e :: es) [] pos) (tCall sp dvs E t) := by
  refine ⟨fun pins s σ H Q I h => wpAny_Call_Name_kw (ld_glob I hg hm ?_ hdb)⟩
  refine PySem.W.callWith_K (h₀ := X.base) I.ok.mod.kin hk (thn (ha.run pos pins s σ H _ I h) fun us s1 ⟨vs, H1, J, r, q⟩ => ⟨J.kIn, ?_⟩) he hpl
  have rr : Vals (vs ++ dvs) (us ++ ds) := r.append hd
  refine wpAny_call (codeAny_mono (F.run X.A X.stack s1 H1 ⟨us, []⟩ (us ++ ds) (vs ++ dvs) Q E hgd hr J.env0 (hb s1 us J.kIn (by rw [← rr.length]; exact F.len _ _ _ _ q)) rr q) fun rs s' hq => ?_)
  cases rs with
  | error e => exact hx pins σ H1 s1 e s' J hq
  | ok fl =>
    cases fl with
    | ret u => exact J.after hq
    | next => exact hq.elim
    | brk => exact hq.elim
    | cont => exact hq.elim
end
end Kx
end
section
set_option maxHeartbeats 2000000
namespace Kx
open PySem L2 PySem.Spec PyProof.Rows
/-! ### repr of data -/
/-- the signs of a text are signs -/
def sgn (x : Str) : Prop := ∀ c ∈ x.cps.toList, c < 0x110000
theorem sgn_sok {x : Str} : sgn x ↔ sok x = true := by
  unfold sgn sok PyData.strOk
  rw [Array.all_eq_true']
  simp
theorem sgn_app {x y : Str} (h : sgn x) (h2 : sgn y) : sgn (x ++ y) := fun c hc => by
  have e : (x ++ y).cps.toList = x.cps.toList ++ y.cps.toList := by
    show (x.cps ++ y.cps).toList = _
    simp
  rw [e] at hc
  rcases List.mem_append.mp hc with h' | h'
  · exact h c h'
  · exact h2 c h'
theorem sgn_ofString (s : String) : sgn (Str.ofString s) := fun c hc => by
  rw [Str.ofString_eq_toList] at hc
  obtain ⟨ch, _, rfl⟩ := List.mem_map.mp (by simpa using hc)
  have := ch.valid
  unfold UInt32.isValidChar Nat.isValidChar at this
  show ch.val.toNat < _
  omega
theorem sgn_hex (n : Nat) : ∀ c ∈ (Nat.toDigits 16 n).map Char.toNat, c < 0x110000 := fun c hc => by
  obtain ⟨ch, _, rfl⟩ := List.mem_map.mp hc
  have := ch.valid
  unfold UInt32.isValidChar Nat.isValidChar at this
  show ch.val.toNat < _
  omega
theorem sgn_char {q c : Nat} (hc : c < 0x110000) : ∀ x ∈ Builtin.Str.reprChar q c, x < 0x110000 := by
  have hx : ∀ (n : Nat), ∀ x ∈ List.replicate n 48 ++ (Nat.toDigits 16 c).map Char.toNat, x < 0x110000 := fun n x hx => by
    rcases List.mem_append.mp hx with h | h
    · rw [(List.mem_replicate.mp h).2]; decide
    · exact sgn_hex c x h
  unfold Builtin.Str.reprChar
  dsimp only
  intro x h
  repeat' split at h
  all_goals first
    | (simp at h; rcases h with h | h <;> omega)
    | (simp at h; omega)
    | (rcases List.mem_append.mp h with h | h
       · (simp at h; rcases h with h | h <;> omega)
       · exact hx _ x h)
theorem sgn_repr {x : Str} (h : sgn x) : sgn (reprText x) := by
  have hq : reprQuote x < 0x110000 := by unfold reprQuote; split <;> decide
  have key : ∀ (l : List Nat) (acc : Array Nat), (∀ c ∈ l, c < 0x110000) → (∀ c ∈ acc.toList, c < 0x110000) → ∀ c ∈ (l.foldl (fun out c => out ++ (Builtin.Str.reprChar (reprQuote x) c).toArray) acc).toList, c < 0x110000 := by
    intro l
    induction l with
    | nil => intro acc _ h2; exact h2
    | cons d l ih =>
      intro acc h1 h2
      refine ih _ (fun c hc => h1 c (List.mem_cons_of_mem _ hc)) fun c hc => ?_
      rw [Array.toList_append] at hc
      rcases List.mem_append.mp hc with h' | h'
      · exact h2 c h'
      · exact sgn_char (h1 d List.mem_cons_self) c h'
  intro c hc
  unfold reprText at hc
  rw [← Array.foldl_toList] at hc
  rw [Array.toList_push] at hc
  rcases List.mem_append.mp hc with h' | h'
  · exact key _ _ h (fun c hc => by simp at hc; omega) c h'
  · simp at h'; omega
theorem sgn_join {sep : Str} (hs : sgn sep) : ∀ ts : List Str, (∀ t ∈ ts, sgn t) → sgn (Str.join sep ts)
  | [], _ => by
    unfold Str.join
    intro c hc
    simp [Str.empty] at hc
  | [x], h => by
    unfold Str.join
    exact h x List.mem_cons_self
  | x :: y :: r, h => by
    unfold Str.join
    exact sgn_app (sgn_app (h x List.mem_cons_self) hs) (sgn_join hs (y :: r) fun t ht => h t (List.mem_cons_of_mem _ ht))
mutual
theorem sgn_shown : ∀ d : PyData, d.canLay0 = true → sgn d.shown
  | .none, _ => by unfold PyData.shown; exact sgn_ofString _
  | .bool b, _ => by unfold PyData.shown; split <;> exact sgn_ofString _
  | .int i, _ => by unfold PyData.shown; exact sgn_ofString _
  | .str x, h => by
    rw [PyData.shown_str]
    exact sgn_repr (sgn_sok.mpr (by simpa [PyData.canLay0] using h))
  | .list xs, h => by
    rw [PyData.shown_list]
    exact sgn_app (sgn_app (sgn_ofString _) (sgn_join (sgn_ofString _) _ (sgn_shownAll xs (by simpa [PyData.canLay0] using h)))) (sgn_ofString _)
  | .tuple xs, h => by
    rw [PyData.shown_tuple]
    exact sgn_app (sgn_app (sgn_ofString _) (sgn_join (sgn_ofString _) _ (sgn_shownAll xs (by simpa [PyData.canLay0] using h)))) (sgn_ofString _)
  | .dict kvs, h => by simp [PyData.canLay0] at h
theorem sgn_shownAll : ∀ ds : List PyData, PyData.canLayAll0 ds = true → ∀ t ∈ PyData.shownAll ds, sgn t
  | [], _ => by unfold PyData.shownAll; intro t ht; cases ht
  | d :: ds, h => by
    have h2 : d.canLay0 = true ∧ PyData.canLayAll0 ds = true := by simpa [PyData.canLayAll0] using h
    unfold PyData.shownAll
    intro t ht
    rcases List.mem_cons.mp ht with rfl | ht
    · exact sgn_shown d h2.1
    · exact sgn_shownAll ds h2.2 t ht
end
/-- what can be shown here -/
def repOk (d : PyData) : Bool := decide (d.weight ≤ 100000) && d.intsShort 40 && d.showable && decide (d.depth ≤ 50)
def reprO (d : PyData) : Option Str := if repOk d then some d.shown else none
theorem reprO_of {d : PyData} {x : Str} (h : reprO d = some x) : repOk d = true ∧ x = d.shown := by
  unfold reprO at h
  split at h
  · next e => cases h; exact ⟨e, rfl⟩
  · cases h
theorem rep_fits {d : PyData} (h : repOk d = true) (hl : d.canLay0 = true) : d.shown.length ≤ sizeLine := by
  simp [repOk] at h
  have h2 := PyData.shown_le 40 (by decide) d (PyData.leavesShort_of_canLay0 40 d hl h.1.1.2)
  have h3 := h.1.1.1
  rw [sizeLine_eq]
  omega
def rRepr (K : PySem.W.Frag) : List V → Hp → VK → Prop := fun xs H Q => ∃ (a : Addr) (d : PyData), xs = [.ref a] ∧ Dp K H (.ref a) d ∧ d.canLay0 = true ∧ repOk d = true ∧ Q (.str d.shown) H
theorem cl_repr {X : Cx} {K : PySem.W.Frag} (hg : X.A.guards = some []) (hu : X.A.units + 64 < cLine) (hK : X.K = K) : CallR X (.builtin "repr") (rRepr K) := by
  subst hK
  intro pins s σ H xs us Q I r h
  obtain ⟨a, d, rfl, hd, hl, hk, q⟩ := h
  cases r with
  | cons r1 r2 =>
    cases r2
    obtain ⟨as, hr⟩ := Dp.reads I d _ _ hd r1
    obtain rfl := r1
    have h1 := rep_fits hk hl
    simp [repOk] at hk
    exact repr_of_reads' hr hk.1.2 (PyData.noDict_hsm (PyData.hasDict_of_canLay _ hl)) hg (by have := hk.2; omega) (fun _ _ e => e) (fun h' u tk kp => ⟨.str _, H, I.kept kp, ⟨_, rfl⟩, q⟩) h1
section
variable {K : PySem.W.Frag} {σ : L2.St} {G M M1 : Hp} {ta : TE} {d : Dat}
def seqB : Dat → Bool
  | .list _ => true
  | .tuple _ => true
  | .rtup _ => true
  | _ => false
theorem seq_ref {v : V} (hs : seqB d = true) (h : Dq K G v d) : ∃ a, v = .ref a := by
  cases h <;> first | exact ⟨_, rfl⟩ | (simp [seqB] at hs)
end
/-! ### the law's end, from a promise that asks for no guards -/
end Kx
end
section
set_option maxHeartbeats 2000000
namespace Kx
open PySem L2
/-! ### the default of a def, an empty tuple of the text's own -/
/-! ### a list of things of two kinds -/
end Kx
end
section
set_option maxHeartbeats 2000000
namespace Kx
open PySem L2 PySem.Spec PyProof.Rows
/-! ### a tuple so many times -/
/-! ### what may be changed stands still from here on -/
theorem k_del [Tb] {G M H : Hp} {p : Addr} {o : HO} {C : Prop} (ok : Ok G M H) (hp : M p = some o) (k : ∀ G' M', Same G G' → G' p = some o → (∀ a, a ≠ p → M' a = M a) → Ok G' M' H → C) : C := by
  have gp : G p = none := ok.d p o hp
  refine k (upd G p o) (fun a => if a = p then none else M a) (Same.new gp) upd_same (fun a ha => if_neg ha) ⟨fun a u e => ?_, fun a u e => ?_, fun a u e => ?_, fun a u e => ?_, tb_G ok.tb (ok.mu p o hp).nt.noTbl⟩
  · by_cases ha : a = p
    · subst ha; rw [upd_same] at e; cases e; exact ok.m _ _ hp
    · rw [upd_ne ha] at e; exact ok.g a u e
  · by_cases ha : a = p
    · have z := (if_pos ha).symm.trans e; cases z
    · exact ok.m a u ((if_neg ha).symm.trans e)
  · by_cases ha : a = p
    · have z := (if_pos ha).symm.trans e; cases z
    · rw [upd_ne ha]; exact ok.d a u ((if_neg ha).symm.trans e)
  · by_cases ha : a = p
    · have z := (if_pos ha).symm.trans e; cases z
    · exact ok.mu a u ((if_neg ha).symm.trans e)
theorem sB_del {M0 M M' : Hp} {p : Addr} (hM : ∀ a, a ≠ p → M' a = M a) (h0 : M0 p = none) (hB : Same M0 M) : Same M0 M' := fun a u e => (hM a (ne_of_none e h0)).trans (hB a u e)
end Kx
end
section
set_option maxHeartbeats 2000000
namespace Kx
open PySem L2
/-! ### a dict locked for an expression -/
end Kx
end
section
set_option maxHeartbeats 2000000
namespace Kx
open PySem L2
/-! ### zip of three, lists and tuples -/
def Itz3 (K : PySem.W.Frag) (ka kb kc : Bool) (a b c : Addr) : It :=
  ⟨fun i H => ∃ (xs ys zs : List V) (x y w : V), SqB K ka H a xs ∧ SqB K kb H b ys ∧ SqB K kc H c zs ∧ xs[i]? = some x ∧ ys[i]? = some y ∧ zs[i]? = some w,
    fun i H v H' => ∃ T x y w, v = .ref T ∧ H T = none ∧ H' = upd H T (.tup [x, y, w]) ∧ (∀ xs, SqB K ka H a xs → xs[i]? = some x) ∧ (∀ ys, SqB K kb H b ys → ys[i]? = some y) ∧ ∀ zs, SqB K kc H c zs → zs[i]? = some w,
    fun i H => ∃ xs ys zs : List V, SqB K ka H a xs ∧ SqB K kb H b ys ∧ SqB K kc H c zs ∧ min (min xs.length ys.length) zs.length = i⟩
def iZip3 (K : PySem.W.Frag) (ka kb kc : Bool) (ta : TA) : TI := fun σ H R => ta σ H fun vs H1 => ∃ a b c xs ys zs, vs = [.ref a, .ref b, .ref c] ∧ SqB K ka H1 a xs ∧ SqB K kb H1 b ys ∧ SqB K kc H1 c zs ∧ R (Itz3 K ka kb kc a b c) H1
theorem turn_zip3 {P : Program} {w : World} {K : PySem.W.Frag} {ka kb kc : Bool} {elts : List Expr} {kk : Nat} {tpos : Pos} {a b c z TI TO i1 i2 i3 : Addr} (D : ZipSep3 z TI TO i1 i2 i3 [i1, a] [i2, b] [i3, c]) (ha : a ≠ i1) (hb : b ≠ i2) (hc' : c ≠ i3) :
    Turn P w K (.Tuple elts kk tpos) (Itz3 K ka kb kc a b c) [z, TI, TO, i1, i2, i3] z (fun i h => IsZip h z TI TO .none ∧ IsTupOf3 h TI (.ref i1) (.ref i2) (.ref i3) ∧ (∃ x y v, IsTupOf3 h TO x y v) ∧ IterB ka h i1 a i ∧ IterB kb h i2 b i ∧ IterB kc h i3 c i) where
  mem := by simp
  obj := fun i h st c hc => by
    obtain ⟨hz, hTI, ⟨x, y, v, hTO⟩, h1, h2, h3⟩ := st
    have e' : c = z ∨ c = TI ∨ c = TO ∨ c = i1 ∨ c = i2 ∨ c = i3 := by simpa using hc
    rcases e' with q | q | q | q | q | q
    · rw [q]; exact ⟨_, hz, fun v q => nomatch q⟩
    · rw [q]; exact ⟨_, hTI, fun v q => nomatch q⟩
    · rw [q]; exact ⟨_, hTO, fun v q => nomatch q⟩
    · rw [q]; exact h1.obj
    · rw [q]; exact h2.obj
    · rw [q]; exact h3.obj
  keep := fun i h h' st k => by
    obtain ⟨hz, hTI, ⟨x, y, v, hTO⟩, h1, h2, h3⟩ := st
    exact ⟨k z (by simp) _ hz, k TI (by simp) _ hTI, ⟨x, y, v, k TO (by simp) _ hTO⟩, h1.at fun o q => k i1 (by simp) o q, h2.at fun o q => k i2 (by simp) o q, h3.at fun o q => k i3 (by simp) o q⟩
  item := by
    intro X hP hw hK hc i pins s σ H E I hf st hg
    subst hP hw hK
    obtain ⟨hz, hTI, ⟨x0, y0, v0, hTO⟩, h1, h2, h3⟩ := st
    obtain ⟨xs, ys, zs, x, y, v, hqx, hqy, hqz, hx, hy, hv⟩ := hg
    obtain ⟨its, rv, p, _⟩ := seqB_of I hqx
    obtain ⟨its2, rv2, p2, _⟩ := seqB_of I hqy
    obtain ⟨its3, rv3, p3, _⟩ := seqB_of I hqz
    have l1 := rv.length
    have l2 := rv2.length
    have l3 := rv3.length
    have g1 : i < xs.length := (List.getElem?_eq_some_iff.mp hx).1
    have g2 : i < ys.length := (List.getElem?_eq_some_iff.mp hy).1
    have g3 : i < zs.length := (List.getElem?_eq_some_iff.mp hv).1
    have hzl : z < s.heap.objs.size := Heap.lt_size hz
    have hh : X.A.in1.handled = none := I.ok.hd hc
    refine wpAny_pyNext_zipD3_item D (drawsB (A := X.A.in1) ka hh i1 a ha its.toArray) (drawsB (A := X.A.in1) kb hh i2 b hb its2.toArray) (drawsB (A := X.A.in1) kc hh i3 c hc' its3.toArray) hz hTI hTO ⟨h1, p⟩ ⟨h2, p2⟩ ⟨h3, p3⟩ (by simp; omega) (by simp; omega) (by simp; omega) fun u u2 u3 h' tk hu hu2 hu3 z' TO' h1' h2' h3' hT hsz hk => ?_
    have ru : RelV x u := by
      obtain ⟨w, hw, r⟩ := rv.get hx
      have e : its.toArray[i]? = some w := by simpa using hw
      rw [hu] at e
      cases e
      exact r
    have ru2 : RelV y u2 := by
      obtain ⟨w, hw, r⟩ := rv2.get hy
      have e : its2.toArray[i]? = some w := by simpa using hw
      rw [hu2] at e
      cases e
      exact r
    have ru3 : RelV v u3 := by
      obtain ⟨w, hw, r⟩ := rv3.get hv
      have e : its3.toArray[i]? = some w := by simpa using hw
      rw [hu3] at e
      cases e
      exact r
    refine ⟨_, rfl, wpAny_letOwnedTupleGo_zip (s := { s with heap := h', toks := tk }) z' fun h'' z'' sb => ?_⟩
    have hT2 : h''.get? s.heap.objs.size = some { cls := .type "tuple", data := .seq #[u, u2, u3] } := (sb.2 _ (Nat.ne_of_gt hzl)).trans hT
    have new : ObjOk X.prog X.w (upd H s.heap.objs.size (.tup [x, y, v])) h'' s.heap.objs.size (.tup [x, y, v]) :=
      ⟨by show 3 ≤ sizeLine; decide, [u, u2, u3], .cons ru (.cons ru2 (.cons ru3 .nil)), ⟨_, hT2, rfl, _, rfl⟩⟩
    have I1 : Inv X pins σ (upd H s.heap.objs.size (.tup [x, y, v])) { s with heap := h'', toks := tk } :=
      I.turnedNew (t' := tk) (ch := [z, TI, TO, i1, i2, i3]) (fun c o hb q => (sb.2 c (fun q' => hb (by simp [q']))).trans (hk c o (fun q' => hb (by simp [q'])) (fun q' => hb (by simp [q'])) (fun q' => hb (by simp [q'])) (fun q' => hb (by simp [q'])) (fun q' => hb (by simp [q'])) q)) hf (Nat.le_refl _) new
    refine ⟨.ref s.heap.objs.size, _, I1, rfl, ⟨_, x, y, v, rfl, I.hok.fresh (Nat.le_refl _), rfl, fun l hl => by rw [sqB_inj I hl hqx]; exact hx, fun l hl => by rw [sqB_inj I hl hqy]; exact hy, fun l hl => by rw [sqB_inj I hl hqz]; exact hv⟩, ⟨z'', ?_, ⟨u, u2, u3, ?_⟩, ?_, ?_, ?_⟩, fun c hcm => ?_⟩
    · exact (sb.2 _ D.TIz).trans (hk _ _ D.TIz D.TITO D.TIi1 D.TIi2 D.TIi3 hTI)
    · exact (sb.2 _ D.TOz).trans TO'
    · exact h1'.1.at fun o q => (sb.2 _ (Ne.symm D.zi1)).trans q
    · exact h2'.1.at fun o q => (sb.2 _ (Ne.symm D.zi2)).trans q
    · exact h3'.1.at fun o q => (sb.2 _ (Ne.symm D.zi3)).trans q
    · have hlt : c < s.heap.objs.size := by
        have e' : c = z ∨ c = TI ∨ c = TO ∨ c = i1 ∨ c = i2 ∨ c = i3 := by simpa using hcm
        rcases e' with q | q | q | q | q | q
        · rw [q]; exact hzl
        · rw [q]; exact Heap.lt_size hTI
        · rw [q]; exact Heap.lt_size hTO
        · rw [q]; obtain ⟨_, e1, _⟩ := h1.obj; exact Heap.lt_size e1
        · rw [q]; obtain ⟨_, e2, _⟩ := h2.obj; exact Heap.lt_size e2
        · rw [q]; obtain ⟨_, e3, _⟩ := h3.obj; exact Heap.lt_size e3
      rw [upd_ne (Nat.ne_of_lt hlt)]
      exact (hf c hcm).1
  done := by
    intro X hP hw hK hc i pins s σ H E I hf st hg
    subst hP hw hK
    obtain ⟨hz, hTI, ⟨x0, y0, v0, hTO⟩, h1, h2, h3⟩ := st
    obtain ⟨xs, ys, zs, hqx, hqy, hqz, hend⟩ := hg
    obtain ⟨its, rv, p, _⟩ := seqB_of I hqx
    obtain ⟨its2, rv2, p2, _⟩ := seqB_of I hqy
    obtain ⟨its3, rv3, p3, _⟩ := seqB_of I hqz
    have l1 := rv.length
    have l2 := rv2.length
    have l3 := rv3.length
    have hh : X.A.in1.handled = none := I.ok.hd hc
    exact wpAny_pyNext_zipD3_end D (drawsB (A := X.A.in1) ka hh i1 a ha its.toArray) (drawsB (A := X.A.in1) kb hh i2 b hb its2.toArray) (drawsB (A := X.A.in1) kc hh i3 c hc' its3.toArray) hz hTI hTO ⟨h1, p⟩ ⟨h2, p2⟩ ⟨h3, p3⟩ (by simp; omega) (by simp; omega) (by simp; omega) (by simp; omega) fun h' tk hk => ⟨rfl, I.turnedL (t' := tk) (ch := [z, TI, TO, i1, i2, i3]) (fun c o hb q =>
      hk c o (fun q' => hb (by simp [q'])) (fun q' => hb (by simp [q'])) (fun q' => hb (by simp [q'])) (fun q' => hb (by simp [q'])) (fun q' => hb (by simp [q'])) q) hf⟩
  self := fun A i s Q E st h => wpAny_pyIter_zip st.1 h
theorem pi_zip3 (ka kb kc : Bool) {X : Cx} {e e2 e3 : Expr} {ta : TA} {p pos tpos : Pos} {elts : List Expr} {kk : Nat} (hg : Gl X "zip") (hm : X.mg "zip" = none) (ha : PA X [e, e2, e3] ta)
    (hs : starEach [e, e2, e3] X.env = (false, eval e X.env) :: starEach [e2, e3] X.env := by rfl) (hpl : (backTo pos (starEach [e2, e3] X.env)).any (·.1) = false := by rfl) :
    PI X (.Tuple elts kk tpos) (.Call (.Name "zip" p) [e, e2, e3] [] pos) (iZip3 X.K ka kb kc ta) := by
  refine ⟨fun pins s σ H R I h => ?_⟩
  refine PyProof.Rows.Call_ (ld_blt I hg hm PyProof.Rows.boot_zip (PyProof.Rows.callWith_type1 (thn (ha.run pos pins s σ H _ I h) fun us s1 ⟨vs, H1, I1, r1, q1⟩ => ?_) hs hpl))
  obtain ⟨a, b, c, xs, ys, zs, ex, hqx, hqy, hqz, q⟩ := q1
  subst ex
  cases r1 with
  | cons r rr =>
    cases rr with
    | cons r' rr =>
      cases rr with
      | cons r'' rr =>
        cases rr
        cases r
        cases r'
        cases r''
        have fresh6 : ∀ c, c ∈ [s1.heap.objs.size + 5, s1.heap.objs.size + 3, s1.heap.objs.size + 4, s1.heap.objs.size, s1.heap.objs.size + 1, s1.heap.objs.size + 2] → FpOk X pins H1 c := fun c hcm => by
          have hle : s1.heap.objs.size ≤ c := by
            simp only [List.mem_cons, List.not_mem_nil, or_false] at hcm
            omega
          exact I1.fpOk hle (I1.hok.fresh hle)
        obtain ⟨its, rv, p1, la⟩ := seqB_of I1 hqx
        obtain ⟨its2, rv2, p2, lb⟩ := seqB_of I1 hqy
        obtain ⟨its3, rv3, p3, lc⟩ := seqB_of I1 hqz
        refine zip_begins3 (begins_B ka a its.toArray) (begins_B kb b its2.toArray) (begins_B kc c its3.toArray) p1 p2 p3 fun h' hz hTI hTO h1 h2 h3 hsz hk => wpAny_pyIter_zip hz ?_
        have I2 : Inv X pins σ H1 { s1 with heap := h' } := I1.kept (t' := s1.toks) hk
        exact ⟨s1.heap.objs.size + 5, [s1.heap.objs.size + 5, s1.heap.objs.size + 3, s1.heap.objs.size + 4, s1.heap.objs.size, s1.heap.objs.size + 1, s1.heap.objs.size + 2], _, _, H1, rfl, I2, turn_zip3 (zip_sep3 (fp1 := [a]) (fp2 := [b]) (fp3 := [c]) (by simpa using la) (by simpa using lb) (by simpa using lc)) (Nat.ne_of_lt la) (Nat.ne_of_lt (Nat.lt_succ_of_lt lb)) (Nat.ne_of_lt (Nat.lt_succ_of_lt (Nat.lt_succ_of_lt lc))), ⟨hz, hTI, ⟨_, _, _, hTO⟩, iterB_new h1, iterB_new h2, iterB_new h3⟩, fresh6, q⟩
section
variable {K : PySem.W.Frag} {σ : St} {G G' M M1 M2 M3 H : Hp} {ta tb te tc : TE} {P P1 P2 : VP} {d e : Dat} {ds es fs : List Dat}
theorem pi_zip3K {X : Cx} (ka kb kc : Bool) {e e2 e3 : Expr} {ta : TA} {p pos tpos : Pos} {elts : List Expr} {kk : Nat} (hg : Gl X "zip") (hm : X.mg "zip" = none) (ha : PA X [e, e2, e3] ta) (h : X.K = K := by rfl)
    (hs : starEach [e, e2, e3] X.env = (false, eval e X.env) :: starEach [e2, e3] X.env := by rfl) (hpl : (backTo pos (starEach [e2, e3] X.env)).any (·.1) = false := by rfl) :
    PI X (.Tuple elts kk tpos) (.Call (.Name "zip" p) [e, e2, e3] [] pos) (iZip3 K ka kb kc ta) := h ▸ pi_zip3 ka kb kc hg hm ha hs hpl
def zip3D (ds es fs : List Dat) : List Dat := List.zipWith (fun a (b : Dat × Dat) => .rtup [a, b.1, b.2]) ds (es.zip fs)
theorem zip3D_get {i : Nat} {d : Dat} (h : (zip3D ds es fs)[i]? = some d) : ∃ p q r, d = .rtup [p, q, r] ∧ ds[i]? = some p ∧ es[i]? = some q ∧ fs[i]? = some r := by
  unfold zip3D at h
  rw [List.getElem?_zipWith] at h
  cases e1 : ds[i]? with
  | none => rw [e1] at h; cases h
  | some p =>
    cases e2 : (es.zip fs)[i]? with
    | none => rw [e1, e2] at h; cases h
    | some q =>
      rw [e1, e2] at h
      cases h
      have := List.getElem?_zip_eq_some.mp e2
      exact ⟨p, q.1, q.2, rfl, rfl, this.1, this.2⟩
theorem src_zip3 [Tb] {ka kb kc : Bool} {ta : TA} (h : EvA ta σ G M M1 (conP (DD K (seqD ka ds)) (conP (DD K (seqD kb es)) (conP (DD K (seqD kc fs)) nilP)))) : Src K (iZip3 K ka kb kc ta) σ G M M1 (zip3D ds es fs) := fun G0 H s k R q =>
  h G0 H s k _ fun vs G1 H1 s1 k1 hv => by
    obtain ⟨v, _, rfl, hv1, w, _, rfl, hw1, x, _, rfl, hx1, rfl⟩ := hv
    obtain ⟨a, vs, rfl, h1, h2⟩ := sqB_of hv1
    obtain ⟨b, ws, rfl, h3, h4⟩ := sqB_of hw1
    obtain ⟨c, xs, rfl, h5, h6⟩ := sqB_of hx1
    refine ⟨a, b, c, vs, ws, xs, rfl, h1 _ k1.g, h3 _ k1.g, h5 _ k1.g, q _ G1 H1 s1 k1 ?_⟩
    have l2 := dpAll_len h2
    have l4 := dpAll_len h4
    have l6 := dpAll_len h6
    have hl : (zip3D ds es fs).length = min (min vs.length ws.length) xs.length := by
      unfold zip3D
      rw [List.length_zipWith, List.length_zip]
      omega
    have w : Walk (Itz3 K ka kb kc a b c) (min (min vs.length ws.length) xs.length) (fun H => SqB K ka H a vs ∧ SqB K kb H b ws ∧ SqB K kc H c xs) (fun i H v H' => ∃ T x y w, v = .ref T ∧ H T = none ∧ H' = upd H T (.tup [x, y, w]) ∧ vs[i]? = some x ∧ ws[i]? = some y ∧ xs[i]? = some w) := by
      refine ⟨fun i _ hi q => ?_, fun _ q => ⟨vs, ws, xs, q.1, q.2.1, q.2.2, rfl⟩, fun i H v H' _ q y => ?_⟩
      · have h1 : i < vs.length := by omega
        have h2 : i < ws.length := by omega
        have h3 : i < xs.length := by omega
        exact ⟨vs, ws, xs, vs[i], ws[i], xs[i], q.1, q.2.1, q.2.2, by simp [h1], by simp [h2], by simp [h3]⟩
      · obtain ⟨T, x, y, w, e1, e2, e3, e4, e5, e6⟩ := y
        exact ⟨T, x, y, w, e1, e2, e3, e4 _ q.1, e5 _ q.2.1, e6 _ q.2.2⟩
    refine ⟨_, _, hl ▸ w, fun H s => ⟨h1 _ s, h3 _ s, h5 _ s⟩, fun i d H x H' G2 M2 hi s2 k2 y => ?_⟩
    · obtain ⟨T, x, y, w, rfl, hT, rfl, hx, hy, hw⟩ := y
      obtain ⟨p, q, r, rfl, e1, e2, e3⟩ := zip3D_get hi
      have gT := Same.none k2.g hT
      have s3 : Same G2 (upd G2 T (.tup [x, y, w])) := Same.new gT
      exact ⟨upd G2 T (.tup [x, y, w]), s3, k2.newG _ hT, .rtup upd_same (.cons (dp_up (s2.trans s3) _ (dqAll_at h2 hx e1)) (.cons (dp_up (s2.trans s3) _ (dqAll_at h4 hy e2)) (.cons (dp_up (s2.trans s3) _ (dqAll_at h6 hw e3)) .nil)))⟩
abbrev eR3 {α β γ : Type} (e1 : α → Dat) (e2 : β → Dat) (e3 : γ → Dat) (p : α × β × γ) : Dat := .rtup [e1 p.1, e2 p.2.1, e3 p.2.2]
theorem zip3D_map {α β γ : Type} {ea : α → Dat} {eb : β → Dat} {ec : γ → Dat} : ∀ {xs : List α} {ys : List β} {zs : List γ}, zip3D (xs.map ea) (ys.map eb) (zs.map ec) = (xs.zip (ys.zip zs)).map (eR3 ea eb ec)
  | [], _, _ => by simp [zip3D]
  | _ :: _, [], _ => by simp [zip3D]
  | _ :: _, _ :: _, [] => by simp [zip3D]
  | x :: xs, y :: ys, z :: zs => by
    have := zip3D_map (ea := ea) (eb := eb) (ec := ec) (xs := xs) (ys := ys) (zs := zs)
    unfold zip3D at this ⊢
    simp only [List.map_cons, List.zip_cons_cons, List.zipWith_cons_cons, this]
theorem tg_r3 {g1 g2 g3 : TG} {v : V} {F : St → Prop} {d1 d2 d3 : Dat} (hv : Dq K G v (.rtup [d1, d2, d3])) (h : ∀ v1 v2 v3, Dq K G v1 d1 → Dq K G v2 d2 → Dq K G v3 d3 → Tg g1 v1 σ G fun σ1 => Tg g2 v2 σ1 G fun σ2 => Tg g3 v3 σ2 G F) : Tg (gTup K 3 (gCons g1 (gCons g2 (gCons g3 gNil)))) v σ G F :=
  tg_rtup hv rfl fun vs hs => by
    cases hs with
    | cons a b =>
      cases b with
      | cons b c =>
        cases c with
        | cons c d =>
          cases d
          exact tgs_cons fun H Q s q => h _ _ _ a b c H Q s fun σ1 h1 => q σ1 (tgs_cons fun H' Q' s' q' => h1 H' Q' s' fun σ2 h2 => q' σ2 (tgs_cons fun H'' Q'' s'' q'' => h2 H'' Q'' s'' fun σ3 h3 => q'' σ3 (tgs_nil h3)))
end
end Kx
end
section
set_option maxHeartbeats 2000000
namespace Kx
open PySem L2
end Kx
end
section
set_option maxHeartbeats 2000000
namespace Kx
open PySem L2
end Kx
end
section
set_option maxHeartbeats 2000000
namespace Kx
open PySem L2 PySem.Spec PyProof.Rows
/-! ### zip of 4: next -/
structure Sep4 (z TI TO i1 i2 i3 i4 : Addr) (fp1 fp2 fp3 fp4 : List Addr) : Prop where
  iz : TI ≠ z
  oz : TO ≠ z
  io : TI ≠ TO
  ii1 : TI ≠ i1
  m1 : i1 ∈ fp1
  z1 : z ∉ fp1
  o1 : TO ∉ fp1
  ii2 : TI ≠ i2
  m2 : i2 ∈ fp2
  z2 : z ∉ fp2
  o2 : TO ∉ fp2
  ii3 : TI ≠ i3
  m3 : i3 ∈ fp3
  z3 : z ∉ fp3
  o3 : TO ∉ fp3
  ii4 : TI ≠ i4
  m4 : i4 ∈ fp4
  z4 : z ∉ fp4
  o4 : TO ∉ fp4
  s1_2 : i1 ∉ fp2
  s1_3 : i1 ∉ fp3
  s1_4 : i1 ∉ fp4
  s2_1 : i2 ∉ fp1
  s2_3 : i2 ∉ fp3
  s2_4 : i2 ∉ fp4
  s3_1 : i3 ∉ fp1
  s3_2 : i3 ∉ fp2
  s3_4 : i3 ∉ fp4
  s4_1 : i4 ∉ fp1
  s4_2 : i4 ∉ fp2
  s4_3 : i4 ∉ fp3
section
variable {prog : Program} {w : World} {A : Around} {E : Value → Shared → Prop} {s : Shared} {z TI TO i1 i2 i3 i4 : Addr} {fp1 fp2 fp3 fp4 : List Addr} {n1 n2 n3 n4 k : Nat} {P1 P2 P3 P4 : Nat → Value → Prop} {S1 S2 S3 S4 : Nat → Heap → Prop} {a1 a2 a3 a4 : Value}
theorem Sep4.zi1 (D : Sep4 z TI TO i1 i2 i3 i4 fp1 fp2 fp3 fp4) : z ≠ i1 := fun e => D.z1 (e ▸ D.m1)
theorem Sep4.zi2 (D : Sep4 z TI TO i1 i2 i3 i4 fp1 fp2 fp3 fp4) : z ≠ i2 := fun e => D.z2 (e ▸ D.m2)
theorem Sep4.zi3 (D : Sep4 z TI TO i1 i2 i3 i4 fp1 fp2 fp3 fp4) : z ≠ i3 := fun e => D.z3 (e ▸ D.m3)
end
end Kx
end
section
set_option maxHeartbeats 2000000
namespace Kx
open PySem L2
section
variable {β : Type} {K : PySem.W.Frag} {σ : L2.St} {G M M1 M2 : Hp} {ta tb : TE} {e : β → Dat} {ds es : List Dat}
/-- a tuple of things of one kind, as a tuple of any things -/
theorem ev_TD [Tb] {xs : List β} (h : Ev ta σ G M M1 (DD K (eT e xs))) : Ev ta σ G M M1 (DD K (eT id (xs.map e))) := by
  have : eT id (xs.map e) = eT e xs := congrArg Dat.tuple (List.map_id _)
  rw [this]
  exact h
end
end Kx
end
section
set_option maxHeartbeats 2000000
namespace Kx
open PySem L2
/-! ### a list of two things of unlike kinds -/
end Kx
end
section
set_option maxHeartbeats 2000000
namespace Kx
open PySem L2 PySem.Spec PyProof.Rows PySem.W
/-! ### sorted(d), d a dict by pairs of texts -/
end Kx
end
section
set_option maxHeartbeats 2000000
namespace Kx
open PySem L2 PySem.Spec PyProof.Rows
/-! ### min and max of two texts -/
section
variable {β : Type} {K : PySem.W.Frag} {σ σ' : L2.St} {G G' M M1 M2 M3 H : Hp} {ta tb te tc tk tv : TE} {e : β → Dat} {ds es : List Dat}
/-- dict(pairs) as an own dict -/
theorem ep_dictP [Tb] {xs ys : List ((Str × Str) × β)} (hy : dictO xs = some ys) (ha : EvA (tCons ta tNil) σ G M M1 (conP (DD K (.list (xs.map (eP2 (eR2 Dat.str Dat.str) e)))) nilP)) : EvP K (tCB (rDictH K) (tCons ta tNil)) σ G M M1 e ys := fun G0 H s k Q q =>
  ha G0 H s k _ fun vs G1 H1 s1 k1 hx => by
    obtain ⟨v, rfl, hv⟩ := one_of (R := nilP) hx
    obtain ⟨_, h1, h2⟩ := bs hy
    cases h2
    obtain ⟨a, ws, rfl, a1, b⟩ := dp_list hv
    obtain ⟨ps, kvs, rfl, p1, p2, p3⟩ := prsP_of b
    exact ⟨_, ps, kvs, rfl, .inl (.inl (k1.g _ _ a1)), paired_up p1 fun _ _ ⟨c, z1, z2⟩ => ⟨c, sqT_up k1.g z1, k1.g _ _ z2⟩, fun p hp => q p _ G1 _ s1 (k1.newM _ hp) (Same.none k1.m hp) ⟨KRel.mergeP p2 .nil, mergeA_keys xs [] (fun x hx => nomatch hx) p3⟩⟩
end
end Kx
end
section
set_option maxHeartbeats 2000000
namespace Kx
open PySem L2
/-! ### the walk over a list or a tuple -/
end Kx
end
section
set_option maxHeartbeats 2000000
namespace Kx
open PySem L2 PySem.Spec PyProof.Rows
/-! ### {k: v for .. for ..}; turned from HandS.Comp (two fors of a list) and HandS.DictComp -/
end Kx
end
section
set_option maxHeartbeats 2000000
namespace Kx
open PySem L2
end Kx
end
section
set_option maxHeartbeats 2000000
namespace Kx
open PySem L2
end Kx
end
section
set_option maxHeartbeats 2000000
namespace Kx
open PySem L2
end Kx
end
section
set_option maxHeartbeats 2000000
namespace Kx
open PySem L2
end Kx
end
section
set_option maxHeartbeats 2000000
namespace Kx
open PySem L2
section
variable {K : PySem.W.Frag} {σ σ' : St} {G G' M M1 M2 M3 : Hp} {ta tb te tc : TE} {P P1 P2 : VP} {d : Dat} {ds es : List Dat} {D : Ends} {H : Hp} {u : TS} {C : Addr} {cn : Str} {ns : List Str}
/-! ### things of any kind, instances among them -/
/-- an own class that is none of Python's -/
structure ClsNo (K : PySem.W.Frag) (C : Addr) : Prop where
  t : PySem.W.mroIn K C (.type "tuple") = some false
  i : PySem.W.mroIn K C (.type "int") = some false
  b : PySem.W.mroIn K C (.type "bool") = some false
  s : PySem.W.mroIn K C (.type "str") = some false
  l : PySem.W.mroIn K C (.type "list") = some false
theorem kit_no {n : String} (hm : PySem.W.kitMeta n = true) (h : PySem.W.mroIn K C (.type n) = some false) : PySem.W.kitOne K (.ref C) (.type n) = some false := by
  unfold PySem.W.kitOne
  rw [if_neg (by intro z; cases z)]
  show (if PySem.W.kitMeta n = true then PySem.W.subIn K (.ref C) (.type n) else none) = _
  rw [if_pos hm]
  exact h
def isO1 (c : Str) (f : Dat → Bool) : Dat → Option Bool
  | .ins c' ns xs => cond (decide (c' = c)) (some (f (.ins c' ns xs))) none
  | d => isO f d
theorem ev_isiD1 [Tb] {n : String} {f : Dat → Bool} {b : Bool} (hc : IsC n f) (hn : ∀ c ns xs, f (.ins c ns xs) = false) (co : ClsOk K (clsAt K cn)) (no : PySem.W.kitOne K (.ref (clsAt K cn)) (.type n) = some false) (h : isO1 cn f d = some b) (ha : EvA (tCons ta (tCons tb tNil)) σ G M M1 (conP (DD K d) (conP (CLS n) nilP))) : Ev (tCB (rIsi K) (tCons ta (tCons tb tNil))) σ G M M1 (DD K (.bool b)) := by
  cases d with
  | ins c' ns xs =>
    have h : cond (decide (c' = cn)) (some (f (.ins c' ns xs))) none = some b := h
    by_cases e : c' = cn
    · subst e
      rw [decide_eq_true rfl, cond_true, hn] at h
      cases h
      exact ev_cb ha fun xs G0 H s k hx Q q => by
        obtain ⟨v, w, rfl, hv, hw⟩ := two_of hx
        cases hw
        exact ⟨v, _, _, _, false, rfl, .ty n, tyx_of k.g (fun C1 n1 x1 e => by cases e; exact co) ⟨fun _ _ e => (by cases e), fun _ _ _ e => (by cases e)⟩ hv, no, q _ G0 H (Same.refl _) k (.bl _)⟩
    · rw [decide_eq_false e, cond_false] at h
      cases h
  | _ => exact ev_isiD hc h ha
theorem isn_T : ∀ c ns xs, isT (.ins c ns xs) = false := fun _ _ _ => rfl
theorem isn_I : ∀ c ns xs, isI (.ins c ns xs) = false := fun _ _ _ => rfl
theorem isn_B : ∀ c ns xs, isB (.ins c ns xs) = false := fun _ _ _ => rfl
theorem isn_S : ∀ c ns xs, isS (.ins c ns xs) = false := fun _ _ _ => rfl
theorem kn_T (h : ClsNo K C) : PySem.W.kitOne K (.ref C) (.type "tuple") = some false := kit_no (by decide +kernel) h.t
theorem kn_I (h : ClsNo K C) : PySem.W.kitOne K (.ref C) (.type "int") = some false := kit_no (by decide +kernel) h.i
theorem kn_B (h : ClsNo K C) : PySem.W.kitOne K (.ref C) (.type "bool") = some false := kit_no (by decide +kernel) h.b
theorem kn_S (h : ClsNo K C) : PySem.W.kitOne K (.ref C) (.type "str") = some false := kit_no (by decide +kernel) h.s
def intsD : Dat → Option (List Int)
  | .tuple xs => mapO intD xs
  | _ => none
theorem mapO_intD : ∀ {xs : List Dat} {ys : List Int}, mapO intD xs = some ys → xs = ys.map Dat.int
  | [], ys, h => by cases h; rfl
  | x :: xs, ys, h => by
    unfold mapO at h
    obtain ⟨y, h1, h⟩ := bs h
    obtain ⟨zs, h2, h⟩ := bs h
    cases h
    rw [mapO_intD h2]
    cases x with
    | int z => cases h1; rfl
    | _ => cases h1
theorem ev_intsD [Tb] {xs : List Int} (h : intsD d = some xs) (ha : Ev ta σ G M M1 (DD K d)) : Ev ta σ G M M1 (DD K (eT Dat.int xs)) := by
  cases d with
  | tuple ys =>
    have := mapO_intD h
    subst this
    exact ha
  | _ => cases h
/-! ### methods of texts -/
def strIO (i : Int) : Option Str := (grd (i.natAbs.log2 < 1920 ∧ sok (toString i : Str) = true)).bind fun _ => some (toString i : Str)
end
end Kx
end
section
set_option maxHeartbeats 2000000
namespace Kx
open PySem L2
/-! ### defs that raise -/
/-- an exception: its class's name, its own field if it has one -/
abbrev Ex := Str × Option (Str × Dat)
section
variable {K : PySem.W.Frag} {σ σ' : St} {G G' M M1 M2 M3 : Hp} {ta tb te tc : TE} {P P1 P2 : VP} {D : Ends} {H : Hp} {u : TS} {E : XK}
/-- what is known of an exception's own dict -/
def ExcD (K : PySem.W.Frag) (G : Hp) (d : Option Addr) (x : Ex) : Prop := match x.2 with
  | none => d = none
  | some (f, y) => ∃ (dd : Addr) (v : V), d = some dd ∧ G dd = some (.xd [(f, v)]) ∧ Dq K G v y
theorem ExcD.up {d : Option Addr} {x : Ex} (s : Same G G') (h : ExcD K G d x) : ExcD K G' d x := by
  obtain ⟨c, o⟩ := x
  cases o with
  | none => exact h
  | some y =>
    obtain ⟨f, y⟩ := y
    obtain ⟨dd, v, h1, h2, h3⟩ := h
    exact ⟨dd, v, h1, s _ _ h2, dp_up s y h3⟩
/-- the promise of a def that may raise -/
def spX [Tb] {α ρ : Type} (K : PySem.W.Frag) (args : α → List V → Hp → Prop) (m : α → Option (ρ ⊕ Ex)) (res : ρ → VP) : Sp := fun vs H Q E =>
  ∃ (G M : Hp) (a : α) (r : ρ ⊕ Ex), Ok G M H ∧ args a vs G ∧ m a = some r ∧ (∀ y, r = .inl y → ∀ v G' H', Same G G' → Ok G' M H' → res y v G' → Q v H') ∧
    ∀ x, r = .inr x → ∀ d G' H', Same G G' → Ok G' M H' → ExcD K G' d x → E (.ref (clsAt K x.1)) d H'
/-- a value, or an exception that goes by E -/
def EvR [Tb] {ρ : Type} (K : PySem.W.Frag) (te : TE) (σ : St) (G M M1 : Hp) (E : XK) (r : ρ ⊕ Ex) (res : ρ → VP) : Prop := ∀ G0 H, Same G G0 → Ok G0 M H → ∀ Q : VK,
  (∀ y, r = .inl y → ∀ v G1 H1, Same G0 G1 → Ok G1 M1 H1 → res y v G1 → Q v H1) → (∀ x, r = .inr x → ∀ d G1 H1, Same G0 G1 → Ok G1 M1 H1 → ExcD K G1 d x → E (.ref (clsAt K x.1)) d H1) → te σ H Q
theorem evr_call [Tb] {α ρ : Type} {args : α → List V → Hp → Prop} {m : α → Option (ρ ⊕ Ex)} {res : ρ → VP} {t : TA} {a : α} {r : ρ ⊕ Ex} (hm : m a = some r) (ha : EvA t σ G M M1 (args a)) : EvR K (tCall (spX K args m res) [] E t) σ G M M1 E r res := fun G0 H s k Q q qx =>
  ha G0 H s k _ fun vs G1 H1 s1 k1 hv => by
    rw [List.append_nil]
    exact ⟨G1, M1, a, r, k1, hv, hm, fun y e v G2 H2 s2 k2 hr => q y e v G2 H2 (s1.trans s2) k2 hr, fun x e d G2 H2 s2 k2 hd => qx x e d G2 H2 (s1.trans s2) k2 hd⟩
/-- f(..) as a statement -/
theorem q_exprX [Tb] {ρ : Type} {r : ρ ⊕ Ex} {res : ρ → VP} (he : EvR K te σ G M M1 E r res) (ok : Ok G M H) (k : ∀ y, r = .inl y → ∀ G' H', Same G G' → Ok G' M1 H' → u D σ H')
    (kx : ∀ x, r = .inr x → ∀ d G' H', Same G G' → Ok G' M1 H' → ExcD K G' d x → E (.ref (clsAt K x.1)) d H') : tSeq (tDrop te) u D σ H :=
  he G H (Same.refl _) ok _ (fun y e _ G1 H1 s1 k1 _ => k y e G1 H1 s1 k1) kx
/-- raise C() -/
theorem q_raise0 {C : Addr} (h : E (.ref C) none H) : tSeq (fun _ σ H => (fun (_ : St) (H : Hp) (Q : XK) => Q (.ref C) none H) σ H fun cls d H' => (fun cls d (_ : St) H => E cls d H) cls d σ H') u D σ H := h
/-! isinstance(x, C) of a thing -/
/-- what is asked of an own class C for isinstance(.., C) -/
structure ClsIs (K : PySem.W.Frag) (C : Addr) : Prop where
  c : (PySem.W.clsIn K C).isSome = true
  t : PySem.W.typeIn K (.ref C) = some (.type "type")
theorem kit_base {T : String} {C : Addr} {l : List Value} (h : ClsIs K C) (hm : PySem.fastBuiltinMro T = some l) (hl : l.contains (.ref C) = false) : PySem.W.kitOne K (.type T) (.ref C) = some false := by
  unfold PySem.W.kitOne
  rw [if_neg (by intro z; cases z)]
  show (if ((PySem.W.clsIn K C).isSome && PySem.W.typeIn K (.ref C) == some (.type "type")) = true then PySem.W.subIn K (.type T) (.ref C) else none) = _
  rw [h.c, h.t, if_pos (by rfl)]
  show (PySem.fastBuiltinMro T).map _ = _
  rw [hm]
  show some (l.contains (.ref C)) = _
  rw [hl]
theorem mro_ok {d : Dat} (h : isIns d = false) : ∃ l, PySem.fastBuiltinMro (tyD d) = some l ∧ ∀ C : Addr, l.contains (.ref C) = false := by
  cases d with
  | none => exact ⟨[.type "NoneType", .type "object"], by kernel_rfl, fun _ => rfl⟩
  | bool _ => exact ⟨[.type "bool", .type "int", .type "object"], by kernel_rfl, fun _ => rfl⟩
  | int _ => exact ⟨[.type "int", .type "object"], by kernel_rfl, fun _ => rfl⟩
  | str _ => exact ⟨[.type "str", .type "object"], by kernel_rfl, fun _ => rfl⟩
  | list _ => exact ⟨[.type "list", .type "object"], by kernel_rfl, fun _ => rfl⟩
  | tuple _ => exact ⟨[.type "tuple", .type "object"], by kernel_rfl, fun _ => rfl⟩
  | rtup _ => exact ⟨[.type "tuple", .type "object"], by kernel_rfl, fun _ => rfl⟩
  | dK _ _ => exact ⟨[.type "dict", .type "object"], by kernel_rfl, fun _ => rfl⟩
  | dT _ _ => cases h
  | ins _ _ _ => cases h
  | dN _ _ _ => cases h
def isP (c : Str) : Dat → Option Bool
  | .ins c' _ _ => cond (decide (c' = c)) (some true) none
  | .dT _ _ => none
  | .dN _ _ _ => none
  | _ => some false
theorem ev_isiP [Tb] {cn : Str} {d : Dat} {b : Bool} (co : ClsOk K (clsAt K cn)) (hc : ClsIs K (clsAt K cn)) (ki : PySem.W.kitOne K (.ref (clsAt K cn)) (.ref (clsAt K cn)) = some true) (h : isP cn d = some b) (ha : EvA (tCons ta (tCons tb tNil)) σ G M M1 (conP (DD K d) (conP (CLX (clsAt K cn)) nilP))) : Ev (tCB (rIsi K) (tCons ta (tCons tb tNil))) σ G M M1 (DD K (.bool b)) := ev_cb ha fun xs G0 H s k hx Q q => by
  obtain ⟨v, w, rfl, hv, hw⟩ := two_of hx
  cases hw
  have go : ∀ {t : Value}, TyX K H v t → PySem.W.kitOne K t (.ref (clsAt K cn)) = some b → rIsi K [v, V.ref (clsAt K cn)] H Q := fun ht hk => ⟨v, _, _, _, b, rfl, .own _, ht, hk, q _ G0 H (Same.refl _) k (.bl _)⟩
  cases ei : isIns d with
  | false =>
    have eb : b = false := by
      cases d <;> first | (cases h; rfl) | cases ei
    subst eb
    obtain ⟨l, h1, h2⟩ := mro_ok ei
    exact go (tyV_of (K := K) ei ▸ tyx_of k.g (noIns ei) (noDT ei) hv) (kit_base hc h1 (h2 _))
  | true =>
    cases d with
    | ins c' ns xs =>
      have h : cond (decide (c' = cn)) (some true) none = some b := h
      by_cases e : c' = cn
      · subst e
        rw [decide_eq_true rfl, cond_true] at h
        cases h
        exact go (tyx_of k.g (fun C1 n1 x1 e => by cases e; exact co) ⟨fun _ _ e => (by cases e), fun _ _ _ e => (by cases e)⟩ hv) ki
      · rw [decide_eq_false e, cond_false] at h
        cases h
    | dT _ _ => cases h
    | dN _ _ _ => cases h
    | _ => cases ei
end
end Kx
end
section
set_option maxHeartbeats 2000000
namespace Kx
open PySem L2
/-! ### exceptions with a field: class C(B): def __init__(self, f): B.__init__(self, '..'); self.f = f -/
end Kx
end
section
set_option maxHeartbeats 2000000
namespace Kx
open PySem L2
/-- a value, or an exception -/
def orX {ρ T : Type} (r : ρ ⊕ Ex) (f : ρ → Option T) (g : Ex → Option T) : Option T := match r with
  | .inl y => f y
  | .inr x => g x
theorem orX_l {ρ T : Type} {y : ρ} {f : ρ → Option T} {g : Ex → Option T} {r : Option T} (h : orX (.inl y) f g = r) : f y = r := h
theorem orX_r {ρ T : Type} {x : Ex} {f : ρ → Option T} {g : Ex → Option T} {r : Option T} (h : orX (.inr x : ρ ⊕ Ex) f g = r) : g x = r := h
section
variable {K : PySem.W.Frag} {σ σ' : St} {G G' M M1 M2 M3 : Hp} {ta tb te tc : TE} {P P1 P2 : VP} {D : Ends} {H : Hp} {u : TS} {E : XK} {d : Dat} {cn : Str} {ns : List Str}
/-! things taken as bells, as notches, as two texts -/
def bellD : Dat → Option (Str × Int)
  | .tuple [.str x, .int i] => some (x, i)
  | _ => none
def bellsD : Dat → Option (List (Str × Int))
  | .tuple xs => mapO bellD xs
  | _ => none
def notchD : Dat → Option (Str × Str × Int)
  | .tuple [.str x, .str y, .int i] => some (x, y, i)
  | _ => none
def notchesD : Dat → Option (List (Str × Str × Int))
  | .tuple xs => mapO notchD xs
  | _ => none
theorem bellD_of {d : Dat} {y : Str × Int} (h : bellD d = some y) : d = eP2 Dat.str Dat.int y := by
  unfold bellD at h
  split at h
  · cases h; rfl
  · cases h
theorem notchD_of {d : Dat} {y : Str × Str × Int} (h : notchD d = some y) : d = eP3 Dat.str Dat.str Dat.int y := by
  unfold notchD at h
  split at h
  · cases h; rfl
  · cases h
theorem mapO_of {α : Type} {f : Dat → Option α} {e : α → Dat} (hf : ∀ d y, f d = some y → d = e y) : ∀ {xs : List Dat} {ys : List α}, mapO f xs = some ys → xs = ys.map e
  | [], ys, h => by cases h; rfl
  | x :: xs, ys, h => by
    unfold mapO at h
    obtain ⟨y, h1, h⟩ := bs h
    obtain ⟨zs, h2, h⟩ := bs h
    cases h
    rw [mapO_of hf h2, hf x y h1]
    rfl
end
end Kx
end
section
set_option maxHeartbeats 2000000
namespace Kx
open PySem PySem.Spec PyProof.Rows L2
/-! ### defs called with the exception that is handled -/
section
variable {X : Cx} {CX : CXT} {k : Nat} {f C : Addr} {fd : FuncData} {ps : List Str} {sp : Addr → Value → Option Addr → Sp} {E : L2.St → XK} {x m : Str} {q pos apos : Pos} {e o : Expr} {es : List Expr} {ta : TE} {t : TA} {p : Addr × Obj} {cls : Value} {d : Option Addr}
/-! isinstance(e, c), e.f: e an exception that is pinned -/
/-- its own dict, if it has one, is tracked -/
def DictAt (H : Hp) (d : Option Addr) : Prop := d = none ∨ ∃ (dd : Addr) (fs : List (Str × V)), d = some dd ∧ H dd = some (.xd fs)
def rIsP (K : PySem.W.Frag) (D a : Addr) (d : Option Addr) : List V → Hp → VK → Prop := fun xs H Q => ∃ (c : V) (cv : Value) (b : Bool), xs = [.ref a, c] ∧ DictAt H d ∧ (∀ u, RelV c u → u = cv) ∧ PySem.W.kitOne K (.ref D) cv = some b ∧ Q (.bl b) H
theorem call_isP {D : Addr} (hp : p ∈ X.pn) (T : ExcC X.K D) (hz : Zc (.ref D) d p.2) (hf : ∃ vs, p.2.data = .fields vs) : CallR X (.builtin "isinstance") (rIsP X.K D p.1 d) := by
  intro pins s σ H xs us Q I r h
  obtain ⟨c, cv, b, rfl, hD, hcv, e, q⟩ := h
  cases r with
  | cons rx rr =>
    cases rr with
    | cons rt rr =>
      cases rr
      cases rx
      have ec := hcv _ rt
      subst ec
      obtain ⟨hget, _⟩ := I.pin p (List.mem_append.mpr (.inl hp))
      obtain ⟨vs, hv⟩ := hf
      obtain ⟨cd, hcl, _⟩ := PySem.W.any_some T.hd
      have hcl' : (PySem.W.clsIn X.K D).isSome = true := by rw [hcl]; rfl
      have go : ∀ {od : Option Obj}, PySem.W.InstAt s.heap p.1 p.2 D od → _ := fun {od} J =>
        PySem.W.kia_one (prog := X.prog) (w := X.w) (A := X.A) (E := X.xe) (Q := EP X pins σ Q) (PySem.W.kitx_exc (x := p.1) (ox := p.2) (od := od) hcl' T.hg T.hk T.hs T.ha T.hn T.ht T.hm) I.kIn J e (fun z => nomatch z) fun tk => ⟨.bl b, H, I.kept (t' := tk) fun _ _ z => z, rfl, q⟩
      rcases hD with rfl | ⟨dd, fs, rfl, hH⟩
      · refine go (od := none) ?_
        obtain ⟨a, oc, od, oda, osl⟩ := p
        obtain ⟨h1, h2⟩ := hz
        dsimp only at h1 h2 hv
        subst h1 h2 hv
        exact ⟨hget, rfl, rfl, trivial⟩
      · have hx : ObjOk X.prog X.w H s.heap dd (.xd fs) := I.hok dd _ hH
        obtain ⟨mA, hns, hr⟩ := hx
        obtain ⟨od, ho, hl⟩ := lookIn_ns hns
        exact go (od := some od) ⟨hget, hz.1, by unfold PySem.W.notCls; rw [hv] <;> rfl, by rw [hz.2]; exact ho⟩
end
end Kx
end
section
set_option maxHeartbeats 2000000
namespace Kx
open PySem PySem.Spec PyProof.Rows L2
/-! ### exceptions whose context is None: L2N's air, so that a suite that catches one is hot -/
section
variable {P : Program} {w : World} {K : PySem.W.Frag} {mg : Str → Option Value} {base : Heap}
/-- as Fun.okX, in L2N's air -/
theorem okXN {x qual : Str} {st : Stmt} {f : Addr} {fd : FuncData} {N ps : List Str} {k : Nat} {sp : Sp} (F : L2.Fun K x qual st f fd) (S : FnScope N ps (defScope st)) (len : ∀ vs H Q E, sp vs H Q E → vs.length = ps.length)
    (hbody : ∀ (cdv : Value) (A : Around) (outer : List Env) (s : Shared) (H : Hp) (vs : List V) (Q : VK) (E : XK), Room k (A.deeper (envOfC qual (defScope st) s.heap.objs.size f cdv)) → sp vs H Q E →
      ∃ t, PSs (cxOf (L2N.CX P w) P w K mg base N qual (defScope st) f cdv A outer s H E) (defBody st) t ∧ t { nx := fun _ H' => Q .non H', rt := Q } (start N vs) H) : FnOk P w K mg base (L2N.CX P w) (k + 1) f fd ps sp := by
  obtain ⟨oc, od, kV, doc, pm, an, cdv, ct, osl, rfl, lk, hcd⟩ := F.ex
  exact fn_of lk hcd S len fun A outer s H vs Q E hr hsp => hbody cdv A outer s H vs Q E hr hsp
end
section
variable {X : Cx} {W : WX}
theorem takes0N : L2N.Takes X (fun _ _ _ _ => False) := fun _ _ x => by
  obtain ⟨_, _, _, _, _, _, _, _, _, _, _, _, _, _, _, _, z⟩ := x
  exact z.elim
/-- C() -/
theorem pmk_own0N {C : Addr} {bmB : List Value} {B newId initId : String} {x : Str} {p pos : Pos} (F : PySem.ExcBaseFacts B newId initId bmB) (q : PySem.W.excIn X.K C bmB newId = true) (gC : X.mg x = some (.ref C))
    (kC : PySem.W.keepIn X.K (.ref C) = true) (r : Raises X (.ref C)) (hg : Gl X x) (hdb : (x == ("__debug__" : Str)) = false := by decide) :
    L2N.PMk X (.Call (.Name x p) [] [] pos) (fun _ H Q => Q (.ref C) none H) := by
  intro pins s σ H Q I h
  refine wpAny_Call_Name_kw (ld_glob I hg gC ?_ hdb)
  refine PySem.W.callWith_K0 I.kIn kC ?_
  obtain ⟨bm, N, nm, qn, bs, hdct, sn, sub, ab, col, dd, k0, k1, k2, k3, k5, mN, hC, hN, hni, T⟩ := exc_obj I.kIn q
  refine wpAny_call_exc_subT F T hC hN hni (fun h' e hm => ?_) (Nat.zero_le _)
  exact L2N.mk_of I hm r h (I.hok.gone hm.new)
end
end Kx
end
section
set_option maxHeartbeats 2000000
namespace Kx
open PySem PySem.Spec PyProof.Rows L2 HotX
/-! ### a list comprehension over range within an except suite (follows HandS.Comp lc_core, HandS.HotCalls ps_forH) -/
end Kx
end
section
set_option maxHeartbeats 2000000
namespace Kx
open PySem PySem.Spec PyProof.Rows L2
/-! ### try, the suite by the exception's class -/
section
variable {X : Cx} {st : List Stmt} {t t1 t2 : TS}
theorem pss_if {c : Prop} (h : c → PSs X st t) : PSs X st (fun D σ H => c ∧ t D σ H) := ⟨fun pins s σ H D I q => (h q.1).run pins s σ H D I q.2⟩
theorem pss_no : PSs X st (fun _ _ _ => False) := ⟨fun _ _ _ _ _ _ q => q.elim⟩
end
section
variable {K : PySem.W.Frag} {σ σ' : L2.St} {G G' M M1 M2 M3 : Hp} {ta tb te tc : TE} {P P1 P2 : VP} {D : Ends} {H : Hp} {u : TS} {E : XK}
/-! ### the handled exception as a value: class cn, own field y -/
def XP (K : PySem.W.Frag) (a : Addr) (d : Option Addr) (cn : Str) (y : Option (Str × Dat)) : VP := fun v G => v = .ref a ∧ ExcD K G d (cn, y)
theorem mo_xp {a : Addr} {d : Option Addr} {cn : Str} {y : Option (Str × Dat)} : Mo (XP K a d cn y) := fun _ _ _ s h => ⟨h.1, h.2.up s⟩
theorem ev_x [Tb] {i : Nat} {v : V} {a : Addr} {d : Option Addr} {cn : Str} {y : Option (Str × Dat)} (h : σ[i]? = some (some v)) (hp : XP K a d cn y v G) : Ev (tVar i) σ G M M (XP K a d cn y) := ev_var h mo_xp hp
theorem ExcD.dict {d : Option Addr} {x : Ex} (s : Same G H) (h : ExcD K G d x) : DictAt H d := by
  obtain ⟨c, o⟩ := x
  cases o with
  | none => exact .inl h
  | some y =>
    obtain ⟨f, y⟩ := y
    obtain ⟨dd, v, h1, h2, h3⟩ := h
    exact .inr ⟨dd, _, h1, s _ _ h2⟩
/-- isinstance(e, C) -/
theorem ev_isX [Tb] {cn : Str} {a C : Addr} {d : Option Addr} {y : Option (Str × Dat)} {b : Bool} (hk : PySem.W.kitOne K (.ref (clsAt K cn)) (.ref C) = some b) (ha : EvA (tCons ta (tCons tb tNil)) σ G M M1 (conP (XP K a d cn y) (conP (CLX C) nilP))) :
    Ev (tCB (rIsP K (clsAt K cn) a d) (tCons ta (tCons tb tNil))) σ G M M1 (DD K (.bool b)) := ev_cb ha fun xs G0 H s k hx Q q => by
  obtain ⟨v, w, rfl, hv, hw⟩ := two_of hx
  cases hw
  obtain ⟨rfl, he⟩ := hv
  exact ⟨_, .ref C, b, rfl, he.dict k.g, fun u r => r, hk, q _ G0 H (Same.refl _) k (.bl _)⟩
end
end Kx
end
section
set_option maxHeartbeats 2000000
namespace Kx
open PySem PySem.Spec PyProof.Rows L2
/-! ### l.count(x) (follows HandS.Deep mt_indexD) -/
theorem _root_.L2H.RoomH.units {k : Nat} {A : Around} (r : L2H.RoomH k A) : A.units + 64 < cLine := by have := r.un; omega
end Kx
end
section
set_option maxHeartbeats 2000000
namespace Kx
open PySem PySem.Spec PyProof.Rows L2
/-! ### small change for try -/
theorem zc_of {cls C : Value} {d : Option Addr} {oe : Obj} (e : cls = C) (hz : L2N.Zn cls d oe) : Zc C d oe := e ▸ hz.zc
end Kx
end
section
set_option maxHeartbeats 2000000
namespace Kx
open PySem PySem.Spec PyProof.Rows L2
/-! ### repr of a thing of any kind: none, a number, a tuple or a list of plain things -/
def rReprD (K : PySem.W.Frag) : List V → Hp → VK → Prop := fun xs H Q => rRepr K xs H Q ∨ (xs = [.non] ∧ Q (.str "None") H) ∨ ∃ i : Int, xs = [.int i] ∧ i.natAbs.log2 < 1920 ∧ Q (.str (toString i)) H
theorem cl_reprD {X : Cx} {K : PySem.W.Frag} (hg : X.A.guards = some []) (hu : X.A.units + 64 < cLine) (hK : X.K = K) : CallR X (.builtin "repr") (rReprD K) := by
  intro pins s σ H xs us Q I r h
  rcases h with h | ⟨rfl, q⟩ | ⟨i, rfl, hz, q⟩
  · exact cl_repr hg hu hK pins s σ H xs us Q I r h
  · cases r with
    | cons r1 r2 =>
      cases r2
      obtain rfl := r1
      exact PySem.P.repr_of_none ⟨.str _, H, I.tok _, ⟨_, rfl⟩, q⟩
  · cases r with
    | cons r1 r2 =>
      cases r2
      obtain ⟨t, rfl⟩ := r1
      exact PySem.P.repr_of_int hz ⟨.str _, H, I.tok _, ⟨_, rfl⟩, q⟩
def reprD : Dat → Option Str
  | .none => some "None"
  | .int i => strIO i
  | d => if pur d && seqB d then reprO (toPy d) else none
section
variable {K : PySem.W.Frag} {σ : L2.St} {G M M1 : Hp} {ta : TE} {d : Dat}
theorem ev_reprD [Tb] {x : Str} (hx : reprD d = some x) (ha : EvA (tCons ta tNil) σ G M M1 (conP (DD K d) nilP)) : Ev (tCB (rReprD K) (tCons ta tNil)) σ G M M1 (DD K (.str x)) := ev_cb ha fun xs G0 H s k hxs Q q => by
  obtain ⟨v, rfl, hv⟩ := one_of (R := nilP) hxs
  have sq : (if pur d && seqB d then reprO (toPy d) else none) = some x → rReprD K [v] H Q := fun h => by
    by_cases e : (pur d && seqB d) = true
    · rw [if_pos e] at h
      obtain ⟨p, hs⟩ := Bool.and_eq_true_iff.mp e
      obtain ⟨a, rfl⟩ := seq_ref hs hv
      obtain ⟨h1, rfl⟩ := reprO_of h
      have hl := dq_lay d p hv
      exact .inl ⟨a, toPy d, rfl, dq_dp d p (dp_up k.g d hv), hl, h1, q _ G0 H (Same.refl _) k (.str (sgn_sok.mp (sgn_shown _ hl)))⟩
    · rw [if_neg e] at h
      cases h
  cases d with
  | none =>
    cases hv
    cases hx
    exact .inr (.inl ⟨rfl, q _ G0 H (Same.refl _) k (.str (by decide +kernel))⟩)
  | int i =>
    cases hv
    obtain ⟨_, h1, h2⟩ := bs (show strIO i = some x from hx)
    cases h2
    have z := grd_of h1
    exact .inr (.inr ⟨i, rfl, z.1, q _ G0 H (Same.refl _) k (.str z.2)⟩)
  | bool b => exact sq hx
  | str b => exact sq hx
  | list b => exact sq hx
  | tuple b => exact sq hx
  | rtup b => exact sq hx
  | dK a b => exact sq hx
  | dT a b => exact sq hx
  | ins a b c => exact sq hx
  | dN a b c => exact sq hx
end
end Kx
end
section
set_option maxHeartbeats 2000000
namespace Kx
open PySem PySem.Spec PyProof.Rows L2 L2N HandSPX
/-! ### except (A, B, C) as n -/
end Kx
end
section
set_option maxHeartbeats 2000000
namespace Kx
open PySem PySem.Spec PyProof.Rows L2
/-! ### C(k = v, ..), one default -/
theorem kit_own {K : PySem.W.Frag} {a c : Addr} {b : Bool} (hc : PySem.W.isClsIn K c = true) (ht : PySem.W.typeIn K (.ref c) = some (.type "type")) (ha : PySem.W.subIn K (.ref a) (.ref a) = some true) (hs : PySem.W.subIn K (.ref a) (.ref c) = some b) : PySem.W.kitOne K (.ref a) (.ref c) = some b := by
  by_cases e : a = c
  · subst e
    rw [hs] at ha
    rw [kit_self]
    exact ha.symm
  · unfold PySem.W.kitOne
    rw [if_neg (by simpa using e)]
    have h2 : (PySem.W.clsIn K c).isSome = true := hc
    show (if ((PySem.W.clsIn K c).isSome && PySem.W.typeIn K (.ref c) == some (.type "type")) = true then PySem.W.subIn K (.ref a) (.ref c) else none) = _
    rw [h2, ht, if_pos (by rfl)]
    exact hs
end Kx
end
section
set_option maxHeartbeats 2000000
namespace Kx
open PySem PySem.Spec PyProof.Rows L2
/-! ### things taken as a Peal, as a STANDING -/
def keyS : Key → Option Str
  | .inr x => some x
  | .inl _ => none
def keyP : List Key → Option (Str × Str)
  | [.inr x, .inr y] => some (x, y)
  | _ => none
def dsID : Dat → Option (List (Str × Int))
  | .dK ks xs => (mapO keyS ks).bind fun a => (mapO intD xs).bind fun b => (grd (a.length = b.length)).bind fun _ => some (a.zip b)
  | _ => none
def dpID : Dat → Option (List ((Str × Str) × Int))
  | .dT ks xs => (mapO keyP ks).bind fun a => (mapO intD xs).bind fun b => (grd (a.length = b.length)).bind fun _ => some (a.zip b)
  | _ => none
theorem mapO_inv {α β : Type} {f : α → Option β} {e : β → α} (hf : ∀ d y, f d = some y → d = e y) : ∀ {xs : List α} {ys : List β}, mapO f xs = some ys → xs = ys.map e
  | [], ys, h => by cases h; rfl
  | x :: xs, ys, h => by
    unfold mapO at h
    obtain ⟨y, h1, h⟩ := bs h
    obtain ⟨zs, h2, h⟩ := bs h
    cases h
    rw [mapO_inv hf h2, hf x y h1]
    rfl
theorem mapO_enc {α β : Type} {f : α → Option β} {e : β → α} (hf : ∀ y, f (e y) = some y) : ∀ {ys : List β}, mapO f (ys.map e) = some ys
  | [] => rfl
  | y :: ys => by
    rw [List.map_cons]
    unfold mapO
    rw [hf, mapO_enc hf]
    rfl
theorem zip_split {α β γ δ : Type} {e : α → γ} {g : β → δ} : ∀ {a : List α} {b : List β}, a.length = b.length → (a.zip b).map (fun x => e x.1) = a.map e ∧ (a.zip b).map (fun x => g x.2) = b.map g
  | [], [], _ => ⟨rfl, rfl⟩
  | x :: a, y :: b, h => by
    have ih := zip_split (e := e) (g := g) (a := a) (b := b) (by simpa using h)
    exact ⟨by rw [List.zip_cons_cons, List.map_cons, List.map_cons, ih.1], by rw [List.zip_cons_cons, List.map_cons, List.map_cons, ih.2]⟩
  | [], _ :: _, h => by simp at h
  | _ :: _, [], h => by simp at h
theorem intD_of {d : Dat} {i : Int} (h : intD d = some i) : d = .int i := by
  cases d with
  | int j => cases h; rfl
  | _ => cases h
theorem dsID_of {d : Dat} {xs : List (Str × Int)} (h : dsID d = some xs) : d = eDS Dat.int xs := by
  cases d with
  | dK ks vs =>
    obtain ⟨a, h1, h⟩ := bs (show (mapO keyS ks).bind _ = some xs from h)
    obtain ⟨b, h2, h⟩ := bs h
    obtain ⟨_, h3, h⟩ := bs h
    cases h
    have hl := grd_of h3
    have e1 := mapO_inv (e := kS) (fun d y q => by
      cases d with
      | inl _ => cases q
      | inr _ => cases q; rfl) h1
    have e2 := mapO_inv (e := Dat.int) (fun d y q => intD_of q) h2
    have z := zip_split (e := kS) (g := Dat.int) hl
    unfold eDS
    rw [z.1, z.2, e1, e2]
  | _ => cases h
theorem keyP_of {d : List Key} {y : Str × Str} (h : keyP d = some y) : d = kP y := by
  unfold keyP at h
  split at h
  · cases h; rfl
  · cases h
theorem dpID_of {d : Dat} {xs : List ((Str × Str) × Int)} (h : dpID d = some xs) : d = eDP Dat.int xs := by
  cases d with
  | dT ks vs =>
    obtain ⟨a, h1, h⟩ := bs (show (mapO keyP ks).bind _ = some xs from h)
    obtain ⟨b, h2, h⟩ := bs h
    obtain ⟨_, h3, h⟩ := bs h
    cases h
    have hl := grd_of h3
    have e1 := mapO_inv (e := kP) (fun d y q => keyP_of q) h1
    have e2 := mapO_inv (e := Dat.int) (fun d y q => intD_of q) h2
    have z := zip_split (e := kP) (g := Dat.int) hl
    unfold eDP
    rw [z.1, z.2, e1, e2]
  | _ => cases h
abbrev PEAL := (List (Str × Int)) × (List (Str × Str × Int)) × (List (Str × Int)) × (List ((Str × Str) × Int))
abbrev xPeal (r : PEAL) : Dat := .ins "Peal" ["bells", "notches", "sizes", "turning"] [(eT (eP2 Dat.str Dat.int)) r.1, (eT (eP3 Dat.str Dat.str Dat.int)) r.2.1, (eDS Dat.int) r.2.2.1, (eDP Dat.int) r.2.2.2]
def pealD : Dat → Option PEAL
  | .ins c ns [b, n, s, t] => (grd (c = ("Peal" : Str) ∧ ns = (["bells", "notches", "sizes", "turning"] : List Str))).bind fun _ => (bellsD b).bind fun b => (notchesD n).bind fun n => (dsID s).bind fun s => (dpID t).bind fun t => some (b, n, s, t)
  | _ => none
theorem bellsD_of {d : Dat} {xs : List (Str × Int)} (h : bellsD d = some xs) : d = eT (eP2 Dat.str Dat.int) xs := by
  cases d with
  | tuple ys => rw [mapO_of (fun _ _ => bellD_of) h]
  | _ => cases h
theorem notchesD_of {d : Dat} {xs : List (Str × Str × Int)} (h : notchesD d = some xs) : d = eT (eP3 Dat.str Dat.str Dat.int) xs := by
  cases d with
  | tuple ys => rw [mapO_of (fun _ _ => notchD_of) h]
  | _ => cases h
theorem pealD_of {d : Dat} {r : PEAL} (h : pealD d = some r) : d = xPeal r := by
  unfold pealD at h
  split at h
  · next c ns b n s t =>
    obtain ⟨_, h0, h⟩ := bs h
    obtain ⟨b', h1, h⟩ := bs h
    obtain ⟨n', h2, h⟩ := bs h
    obtain ⟨s', h3, h⟩ := bs h
    obtain ⟨t', h4, h⟩ := bs h
    cases h
    obtain ⟨rfl, rfl⟩ := grd_of h0
    rw [bellsD_of h1, notchesD_of h2, dsID_of h3, dpID_of h4]
  · cases h
section
variable {K : PySem.W.Frag} {σ : L2.St} {G M M1 : Hp} {ta : TE} {d : Dat}
theorem ev_pealD [Tb] {r : PEAL} (h : pealD d = some r) (ha : Ev ta σ G M M1 (DD K d)) : Ev ta σ G M M1 (DD K (xPeal r)) := pealD_of h ▸ ha
end
end Kx
end
section
set_option maxHeartbeats 2000000
namespace Kx
open PySem PySem.Spec PyProof.Rows L2
/-! ### lambdas without parameters, handed to a def that calls what it got -/
/-- what act() is read as -/
def tAct (f c' : Addr) (q : Str) (tl : XK → Hp → VK → Prop) (E : XK) : TE := fun σ H Q => σ[0]? = some (some (.ref f)) ∧ H c' = some (LamX.CodeO c' q) ∧ tl E H Q
/-- the context of the def that got the lambda -/
abbrev gotCx (P : Program) (w : World) (K : PySem.W.Frag) (mg : Str → Option Value) (base : Heap) (Ng : List Str) (x : Str) (sg : Scope) (g : Addr) (cdg : Value) (A : Around) (out : List Env) (s : Shared) (H : Hp) : Cx := cxOf CX0 P w K mg base Ng x sg g cdg A out s H E0
/-- the def that calls what it got, by the name a: TT is what it makes of the lambda's reading -/
def GivesN (P : Program) (w : World) (K : PySem.W.Frag) (mg : Str → Option Value) (base : Heap) (k : Nat) (Ng : List Str) (x : Str) (sg : Scope) (g : Addr) (cdg : Value) (bg : List Stmt) (a : Str) (TT : (XK → Hp → VK → Prop) → Hp → VK → Prop) : Prop :=
  ∀ (A : Around) (out : List Env) (s : Shared) (H : Hp) (Q : VK) (tl : XK → Hp → VK → Prop) (f c' : Addr) (q : Str), Room k (A.deeper (envOfC x sg s.heap.objs.size g cdg)) → (A.deeper (envOfC x sg s.heap.objs.size g cdg)).guards = some [] →
    (∀ (pn : List (Addr × Obj)) (xe : Value → Shared → Prop) (E : XK) (p1 p2 : Pos), Passes (L2N.CX P w) ((gotCx P w K mg base Ng x sg g cdg A out s H).tr pn xe) E → PE ((gotCx P w K mg base Ng x sg g cdg A out s H).tr pn xe) (.Call (.Name a p1) [] [] p2) (tAct f c' q tl E)) →
    H c' = some (LamX.CodeO c' q) → TT tl H Q → ∃ t, PSs (gotCx P w K mg base Ng x sg g cdg A out s H).nox bg t ∧ t { nx := fun _ H' => Q .non H', rt := Q } (L2.start Ng [.ref f]) H
/-- what a caller knows of such a def -/
structure FnLam (P : Program) (w : World) (K : PySem.W.Frag) (mg : Str → Option Value) (base : Heap) (k : Nat) (g : Addr) (fd : FuncData) (x a : Str) (TT : (XK → Hp → VK → Prop) → Hp → VK → Prop) : Prop where
  ex : ∃ (oc : Value) (od : Option Addr) (pg : Arguments) (bg : List Stmt) (sg : Scope) (dV kV doc pm : Value) (an : Option Addr) (cdv ct : Value) (osl : Array (Option Value)) (Ng : List Str), fd = PySem.W.fnOf x x pg bg sg dV kV doc pm an cdv ct ∧ K.lookup g = some ⟨oc, od, .func fd, osl⟩ ∧ PySem.W.codeIn K cdv x = true ∧
    FnScope Ng [a] sg ∧ Ng[0]? = some a ∧ Vis sg a ∧ GivesN P w K mg base k Ng x sg g cdv bg a TT
theorem FnLam.up {P : Program} {w : World} {K : PySem.W.Frag} {mg : Str → Option Value} {base : Heap} {k k' : Nat} {g : Addr} {fd : FuncData} {x a : Str} {TT : (XK → Hp → VK → Prop) → Hp → VK → Prop} (F : FnLam P w K mg base k g fd x a TT) (h : k ≤ k') : FnLam P w K mg base k' g fd x a TT := by
  obtain ⟨oc, od, pg, bg, sg, dV, kV, doc, pm, an, cdv, ct, osl, Ng, e1, e2, e3, e4, e5, e6, hG⟩ := F.ex
  exact ⟨⟨oc, od, pg, bg, sg, dV, kV, doc, pm, an, cdv, ct, osl, Ng, e1, e2, e3, e4, e5, e6, fun A out s H Q tl f c' q hr => hG A out s H Q tl f c' q (hr.mono h)⟩⟩
section
variable [Tb] {K : PySem.W.Frag} {σ σ' : L2.St} {G G' M M1 M2 M3 : Hp} {ta tb te tc : TE} {P P1 P2 : VP} {D : Ends} {H : Hp} {u : TS} {E : XK}
/-- the lambda's reading: it tells r -/
def LamR (K : PySem.W.Frag) (tl : XK → Hp → VK → Prop) (G M : Hp) (r : Unit ⊕ Ex) : Prop := ∀ (E : XK) (G0 H : Hp), Same G G0 → Ok G0 M H → ∀ Q : VK, (r = .inl () → ∀ v G1 H1, Same G0 G1 → Ok G1 M H1 → Q v H1) →
  (∀ x, r = .inr x → ∀ d G1 H1, Same G0 G1 → Ok G1 M H1 → ExcD K G1 d x → E (.ref (clsAt K x.1)) d H1) → tl E H Q
theorem LamR.up {tl : XK → Hp → VK → Prop} {r : Unit ⊕ Ex} (h : LamR K tl G M r) (s : Same G G') : LamR K tl G' M r := fun E G0 H s1 => h E G0 H (s.trans s1)
end
end Kx
end
section
set_option maxHeartbeats 2000000
namespace Kx
open PySem PySem.Spec PyProof.Rows L2
/-- the start: the script, the empty tables -/
theorem start_ok [Tb] {K : PySem.W.Frag} {H : Hp} {a : Addr} {xs : List V} (hT : ∀ p ∈ Tb.t, H p.1 = some (.tbl #[])) (hS : SqL K H a xs) : ∃ G, Ok G (fun _ => none) H ∧ SqL K G a xs := by
  refine ⟨fun b => match H b with | some (.tbl _) => none | o => o, ⟨fun b o e => ?_, fun _ _ h => (by cases h), fun _ _ h => (by cases h), fun _ _ h => (by cases h), ⟨fun p hp => LamX.TabS.nil (hT p hp), fun b o e => ?_⟩⟩, ?_⟩
  · split at e
    · cases e
    · exact e
  · split at e
    · cases e
    · next h => cases o <;> first | exact trivial | exact (h _ e).elim
  · rcases hS with (h | ⟨o, h⟩) | h
    · refine .inl (.inl ?_)
      show (match H a with | some (.tbl _) => none | o => o) = _
      rw [h]
    · refine .inl (.inr ⟨o, ?_⟩)
      show (match H a with | some (.tbl _) => none | o => o) = _
      rw [h]
    · exact .inr h
/-! ### the law's end, with tables of code objects, from a promise that asks for no guards -/
theorem caller_runT {P : Program} {w : World} {K : PySem.W.Frag} {mg mb : Str → Option Value} {CX : CXT} {k : Nat} {fa a : Addr} {fd : FuncData} {x : Str} {sp : Sp} {s1 : Shared} {H : Hp} {o : Obj} {its : Array Value} {n0 : Nat} {cs : List (Addr × Addr)}
    (kx : K.In s1.heap) (gl : s1.heap.Ns mainGlobals mg) (bl : s1.heap.Ns builtinsNs mb) (bb : ∀ x : Str, x ≠ "__name__" → mb x = bootBuiltins x) (lim : s1.heap.NoLimit) (gn : s1.gens = #[]) (ha : s1.heap.get? a = some o) (hod : o.data = .seq its n0)
    (hT : ∀ p ∈ cs, s1.heap.get? p.2 = some { cls := .none, data := .fields #[] }) (nT : ∀ p ∈ cs, K.lookup p.2 = none) (hC : ∀ p ∈ cs, PySem.W.CodeHd s1.heap p.1 p.2)
    (hbm : ∃ (bm : Addr) (ob : Obj), mg "__builtins__" = some (.ref bm) ∧ bm ≠ builtinsNs ∧ s1.heap.get? bm = some ob ∧ ob.cls = .type "module" ∧ ob.dict = some builtinsNs ∧ ob.data = .plain)
    (hr : Room k callerA) (F : ∀ base : Heap, K.In base → base.Ns mainGlobals mg → (∀ p ∈ cs, LamX.TabB base mg p.1 p.2) → FnOkG P w K mg base CX k fa fd [x] sp) (bd : ∀ (s : Shared) (u : Value), BindsTo s fd ⟨[u], []⟩ [(x, u)])
    (ok : HOk P w H s1.heap) (onl : ∀ b, H b ≠ none → b = a ∨ b ∈ cs.map (·.2)) (own : H a ≠ none → K.lookup a = none) (q : sp [.ref a] H (fun v _ => v = .bl true) fun _ _ _ => False) :
    codeAny (model P w) callerA (.call (.ref fa) ⟨[.ref a], []⟩) (CR CX [] P w H s1 (fun v _ => v = .bl true) fun _ _ _ => False) s1 := by
  have hid : ∀ {b : Addr} {u : Obj}, s1.heap.get? b = some u → H b = none → (hidT s1.heap H).get? b = some u := fun e n => hidT_get e n
  have tab : ∀ {b : Addr}, b ∈ cs.map (·.2) → s1.heap.get? b = some { cls := .none, data := .fields #[] } := fun {b} hb => by
    obtain ⟨p, hp, rfl⟩ := List.mem_map.mp hb
    exact hT p hp
  have free : ∀ {b : Addr} {u : Obj}, s1.heap.get? b = some u → (∀ its n, u.data ≠ .seq its n) → u.data ≠ .fields #[] → H b = none := fun {b u} e h1 h2 => by
    cases z : H b with
    | none => rfl
    | some v =>
      rcases onl b (by rw [z]; exact Option.some_ne_none v) with y | y
      · subst y
        rw [ha] at e
        cases e
        exact (h1 _ _ hod).elim
      · rw [tab y] at e
        cases e
        exact (h2 rfl).elim
  have dict : ∀ {b : Addr} {u : Obj} {es : Array DictEntry} {m : Nat}, s1.heap.get? b = some u → u.data = .dict es m → H b = none := fun {b u es m} e d => free e (fun _ _ z => by rw [d] at z; cases z) fun z => by rw [d] at z; cases z
  have ns : ∀ {b : Addr} {m : Str → Option Value}, s1.heap.Ns b m → (hidT s1.heap H).Ns b m := fun ⟨u, es, m, e, d, r⟩ => ⟨u, es, m, hid e (dict e d), d, r⟩
  have kb : K.In (hidT s1.heap H) := fun b u e => hid (kx b u e) (by
    cases z : H b with
    | none => rfl
    | some v =>
      rcases onl b (by rw [z]; exact Option.some_ne_none v) with y | y
      · subst y
        rw [own (by rw [z]; exact Option.some_ne_none v)] at e
        cases e
      · obtain ⟨p, hp, rfl⟩ := List.mem_map.mp y
        rw [nT p hp] at e
        cases e)
  have hB : ∀ p ∈ cs, LamX.TabB (hidT s1.heap H) mg p.1 p.2 := fun p hp => by
    refine ⟨?_, ?_, fun z => ?_⟩
    · obtain ⟨u, us, file, tf, flags, tg, inF, text, tt, e1, r1, r2, r3, r4, r5, r6, r7, r8, hne⟩ := hC p hp
      refine ⟨u, us, file, tf, flags, tg, inF, text, tt, hid e1 (free e1 (fun _ _ z => by rw [r2] at z; cases z) fun z => ?_), r1, r2, r3, r4, r5, r6, r7, r8, hne⟩
      rw [r2] at z
      cases z
      simp at r3
    · obtain ⟨bm, ob, b1, b2, b3, b4, b5, b6⟩ := hbm
      refine ⟨bm, ob, b1, b2, fun z => ?_, fun z => ?_, hid b3 (free b3 (fun _ _ z => by rw [b6] at z; cases z) fun z => by rw [b6] at z; cases z), b4, b5, b6⟩
      · obtain ⟨u, es, ep, e, hd, _⟩ := gl
        rw [z, e] at b3
        cases b3
        rw [hd] at b6
        cases b6
      · rw [z, hT p hp] at b3
        cases b3
        cases b6
    · obtain ⟨u, es, ep, e, hd, _⟩ := gl
      rw [z, hT p hp] at e
      cases e
      cases hd
  obtain ⟨mc, l1, l2⟩ := lim
  exact (F _ kb (ns gl) hB).run callerA [] s1 H ⟨[.ref a], []⟩ [.ref a] [.ref a] _ _ rfl hr
    ⟨rfl, ⟨kb, ns gl, ⟨mb, ns bl, bb⟩, ⟨mc, ns l1, l2⟩⟩, fun b u e => of_hidT e, Nat.le_of_eq (hidT_size _ _), trivial, fun b hb => absurd (show b ∈ ([] : List Addr) from hb) (by simp), ok, .of_eq gn⟩ (bd s1 (.ref a)) (.cons rfl .nil) q
/-- what is told of the law's def at the head's heap -/
def LawTab (l : PySem.W.OpenLaw) (w : World) (K : PySem.W.Frag) (k n : Nat) (x : Str) (mg : Str → Option Value) (fa : Addr) (h : Heap) : Prop :=
  ∃ (fd : FuncData) (cs : List (Addr × Addr)) (sp : Sp), (∀ p ∈ cs, h.get? p.2 = some { cls := .none, data := .fields #[] }) ∧ (∀ p ∈ cs, K.lookup p.2 = none) ∧ (∀ p ∈ cs, PySem.W.CodeHd h p.1 p.2) ∧ (∀ (s : Shared) (u : Value), BindsTo s fd ⟨[u], []⟩ [(x, u)]) ∧
    (∀ (H : Hp) (a : Addr) (ns : List Int), ns.length ≤ n → (∀ p ∈ cs, H p.2 = some (.tbl #[])) → SqL K H a (ns.map V.int) → sp [.ref a] H (fun v _ => v = .bl true) fun _ _ _ => False) ∧
    ∀ base : Heap, K.In base → base.Ns mainGlobals mg → (∀ p ∈ cs, LamX.TabB base mg p.1 p.2) → FnOkG l.prog w K mg base CX0 k fa fd [x] sp
theorem walk_ofTX {l : PySem.W.OpenLaw} {n k : Nat} {q : Program} {loose : List Str} {XP : (Str → Option Value) → Heap → Prop} {YP : World → Heap → Prop} {d : DefRec} {x : Str}
    (hn : l.most = some n) (hn2 : n ≤ sizeLine) (hdf : d.params.defaults = []) (hr : Room k callerA)
    (F : ∀ (w : World) (mg : Str → Option Value) (fa : Addr) (h : Heap), YP w h → h.Ns mainGlobals mg → mg d.name = some (.ref fa) → ∃ K : PySem.W.Frag, K.In h ∧ LawTab l w K k n x mg fa h) :
    PySem.W.WalkO q loose XP YP l.row.toRowW d [] (fun f vs => PySem.call f vs) := by
  refine Att.attach_call hn hdf fun w s0 s1 mg mb fa o pm cd doc a vs ns G Y ho hd hcd hmg hobj hints hlen hg => ?_
  obtain ⟨K, kx, fd, cs, sp, hT, nT, hC, hb, hsp, hF⟩ := F w mg fa _ Y G.T.g hmg
  have lv : vs.length = ns.length := hints.length
  have lz : ns.length ≤ sizeLine := Nat.le_trans hlen hn2
  have tab : ∀ {b : Addr}, b ∈ cs.map (·.2) → s1.heap.get? b = some { cls := .none, data := .fields #[] } := fun {b} hb => by
    obtain ⟨p, hp, rfl⟩ := List.mem_map.mp hb
    exact hT p hp
  have aT : a ∉ cs.map (·.2) := fun z => by
    have e := tab z
    rw [hobj] at e
    cases e
  have memT : ∀ p ∈ cs, p.2 ∈ cs.map (·.2) := fun p hp => List.mem_map.mpr ⟨p, hp, rfl⟩
  have fin : ∀ H : Hp, HOk l.prog w H s1.heap → (∀ b, H b ≠ none → b = a ∨ b ∈ cs.map (·.2)) → (H a ≠ none → K.lookup a = none) → SqL K H a (ns.map V.int) → (∀ p ∈ cs, H p.2 = some (.tbl #[])) → (∀ b, H b ≠ none → b ∉ cs.map (·.2) → H b = some (.frz { cls := .type "list", data := .seq vs.toArray } (.lst (ns.map V.int)))) →
      codeAny (model l.prog w) callerA (.call (.ref fa) ⟨[.ref a], []⟩) (fun r s' => r = .ok (.ret (.bool true)) ∧ OldK s1.heap s'.heap ∧ s'.os = s1.os ∧ AllBare s'.gens) s1 := by
    intro H ok onl own hS hH hf
    refine codeAny_mono (caller_runT kx G.T.g G.T.b G.T.builtins G.T.nolimit hg hobj rfl hT nT hC G.T.bmain hr hF hb ok onl own (hsp H a ns hlen hH hS)) fun r s' h => ?_
    rcases r with e | fl
    · exact h.elim
    · cases fl with
      | next => exact h.elim
      | brk => exact h.elim
      | cont => exact h.elim
      | ret u =>
        obtain ⟨v, H2, os, bare, un, ok2, rv, rfl⟩ := h
        have eu : u = Value.bool true := rv
        have key : ∀ b ob, b ∉ cs.map (·.2) → s1.heap.get? b = some ob → s'.heap.get? b = some ob := fun b ob nb e => by
          by_cases hz : H b = none
          · exact un.keep b ob e hz (fun z => absurd (show b ∈ ([] : List Addr) from z) (by simp)) (by simp)
          · have z1 := hf b hz nb
            have z2 := (ok2 b _ (un.frzs b _ _ z1)).1
            have z3 := (ok b _ z1).1
            rw [e] at z3
            cases z3
            exact z2
        have grown : ∀ p ∈ cs, ∃ more : Array Value, s'.heap.get? p.2 = some { cls := .none, data := .fields more } := fun p hp => by
          obtain ⟨more, z⟩ := un.tbls p.2 #[] (hH p hp)
          exact ⟨_, ok2 p.2 _ z⟩
        refine ⟨by rw [eu], ⟨fun b ob e => ?_, fun b ob e => ?_⟩, os, bare⟩
        · by_cases hb : b ∈ cs.map (·.2)
          · obtain ⟨p, hp, rfl⟩ := List.mem_map.mp hb
            obtain ⟨more, hm⟩ := grown p hp
            rw [hT p hp] at e
            cases e
            exact .inr (.inl ⟨((hC p hp).tab (hT p hp)).isCodeTable, rfl, #[], more, rfl, by rw [Array.empty_append]; exact hm⟩)
          · exact .inl (key b ob hb e)
        · by_cases hb : b ∈ cs.map (·.2)
          · obtain ⟨p, hp, rfl⟩ := List.mem_map.mp hb
            obtain ⟨more, hm⟩ := grown p hp
            exact ⟨_, hm⟩
          · exact ⟨ob, key b ob hb e⟩
  by_cases hk : K.lookup a = none
  · refine fin (fun b => if b = a then some (.frz { cls := .type "list", data := .seq vs.toArray } (.lst (ns.map V.int))) else if b ∈ cs.map (·.2) then some (.tbl #[]) else none) (fun b u z => ?_) (fun b z => ?_) (fun _ => hk) (.inl (.inr ⟨_, if_pos rfl⟩)) (fun p hp => (if_neg (fun z => aT (by rw [← z]; exact memT p hp))).trans (if_pos (memT p hp))) fun b z nb => ?_
    · by_cases hb : b = a
      · subst hb
        have z2 := (if_pos rfl).symm.trans z
        cases z2
        exact ⟨hobj, by rw [List.length_map]; exact lz, vs, _, vals_ints hints, hobj⟩
      · have z1 := (if_neg hb).symm.trans z
        by_cases hb2 : b ∈ cs.map (·.2)
        · have z2 := (if_pos hb2).symm.trans z1
          cases z2
          exact tab hb2
        · have z2 := (if_neg hb2).symm.trans z1
          cases z2
    · by_cases hb : b = a
      · exact .inl hb
      · by_cases hb2 : b ∈ cs.map (·.2)
        · exact .inr hb2
        · exact absurd ((if_neg hb).trans (if_neg hb2)) z
    · by_cases hb : b = a
      · exact if_pos hb
      · exact absurd ((if_neg hb).trans (if_neg nb)) z
  · obtain ⟨u, hu⟩ := Option.ne_none_iff_exists'.mp hk
    have e := kx a u hu
    rw [hobj] at e
    cases e
    refine fin (fun b => if b ∈ cs.map (·.2) then some (.tbl #[]) else none) (fun b u z => ?_) (fun b z => ?_) (fun z => absurd (if_neg aT) z) (.inr ⟨_, vs.toArray, _, hu, rfl, rfl, rfl, by rw [List.size_toArray, lv]; exact lz, by simpa using vals_ints hints⟩) (fun p hp => if_pos (memT p hp)) fun b z nb => absurd (if_neg nb) z
    · by_cases hb2 : b ∈ cs.map (·.2)
      · have z2 := (if_pos hb2).symm.trans z
        cases z2
        exact tab hb2
      · have z2 := (if_neg hb2).symm.trans z
        cases z2
    · by_cases hb2 : b ∈ cs.map (·.2)
      · exact .inr hb2
      · exact absurd (if_neg hb2) z
end Kx
end
section
set_option maxHeartbeats 4000000
namespace Kx
open PySem PySem.W PySem.Calls PyProof.Rows PySem.HandSPX
end Kx
namespace Kx
open PySem PySem.Spec PyProof.Rows L2
end Kx
end
section
set_option maxHeartbeats 2000000
namespace Kx
open PySem PySem.Spec PyProof.Rows L2
/-- by the exception's class, one without a field -/
def exO0 {T : Type} (c : Str) (x : Ex) (g : Option T) (h : Option T) : Option T := if x.1 = c then (match x.2 with | some _ => none | none => g) else h
theorem exO0_of {T : Type} {c : Str} {x : Ex} {g : Option T} {h : Option T} {r : T} (e : exO0 c x g h = some r) : (x = (c, none) ∧ g = some r) ∨ h = some r := by
  obtain ⟨a, o⟩ := x
  unfold exO0 at e
  by_cases q : a = c
  · rw [if_pos q] at e
    subst q
    cases o with
    | none => exact .inl ⟨rfl, e⟩
    | some z => cases e
  · rw [if_neg q] at e
    exact .inr e
end Kx
end
section
set_option maxHeartbeats 2000000
namespace Kx
open PySem PySem.Spec PyProof.Rows L2
/-! ### a while loop that may return -/
end Kx
end
section
set_option maxHeartbeats 2000000
namespace Kx
open PySem PySem.Spec PyProof.Rows L2
end Kx
end
section
set_option maxHeartbeats 2000000
namespace PySem.W
open PySem PySem.Spec PySem.Calls PyProof.Rows
end PySem.W
namespace Kx
open PySem PySem.Spec PyProof.Rows L2
/-! ### f-strings -/
/-! ### str(o), repr(o) by own methods -/
/-! ### repr of a thing of any kind, texts, truths, the empty dict too -/
def rReprX (K : PySem.W.Frag) : List V → Hp → VK → Prop := fun xs H Q => rReprD K xs H Q ∨ (∃ z : Str, xs = [.str z] ∧ (reprText z).length ≤ sizeLine ∧ Q (.str (reprText z)) H) ∨ (∃ b : Bool, xs = [.bl b] ∧ Q (.str (if b then "True" else "False")) H) ∨ ∃ a : Addr, xs = [.ref a] ∧ Rd H a (.dK []) ∧ Q (.str "{}") H
theorem cl_reprX {X : Cx} {K : PySem.W.Frag} (hg : X.A.guards = some []) (hu : X.A.units + 64 < cLine) (hK : X.K = K) : CallR X (.builtin "repr") (rReprX K) := by
  intro pins s σ H xs us Q I r h
  rcases h with h | ⟨z, rfl, hz, q⟩ | ⟨b, rfl, q⟩ | ⟨a, rfl, hd, q⟩
  · exact cl_reprD hg hu hK pins s σ H xs us Q I r h
  · cases r with
    | cons r1 r2 =>
      cases r2
      obtain ⟨t, rfl⟩ := r1
      exact PySem.P.repr_of_str ⟨.str _, H, I.tok _, ⟨_, rfl⟩, q⟩ hz
  · cases r with
    | cons r1 r2 =>
      cases r2
      obtain rfl := r1
      exact PySem.P.repr_of_bool ⟨.str _, H, I.tok _, ⟨_, rfl⟩, q⟩
  · cases r with
    | cons r1 r2 =>
      cases r2
      obtain rfl := r1
      obtain ⟨_, hm, vs, kv, o, es, ep, e, ex, ed, _, pr, _⟩ := hd.ok I.hok
      have e0 : es.toList = [] := by
        cases kv
        generalize es.toList = l at pr
        cases pr
        rfl
      have rd : PySem.Reads s.heap (.ref a) (.dict []) (a :: [] ++ []) := .dict (kvs := []) e ex.1 ed (by rw [e0]; exact .nil) (by rw [e0]; exact .nil)
      refine repr_of_reads' rd (by decide +kernel) (fun _ hm2 => ?_) hg (by have : (PyData.dict []).depth = 1 := by decide +kernel
                                                                            omega) (fun _ _ e => e) (fun h' u tk kp => ⟨.str _, H, I.kept kp, ⟨_, rfl⟩, q⟩) (by decide +kernel)
      simp at hm2
      rw [hm2] at hm
      simp at hm
def reprX : Dat → Option Str
  | .str z => (grd ((reprText z).length ≤ 16777216 ∧ sok (reprText z) = true)).bind fun _ => some (reprText z)
  | .bool b => some (if b then Str.ofString "True" else Str.ofString "False")
  | .dK [] [] => some (Str.ofString "{}")
  | d => reprD d
section
variable {K : PySem.W.Frag} {σ : L2.St} {G M M1 : Hp} {ta : TE} {d : Dat}
theorem ev_reprX [Tb] {x : Str} (hx : reprX d = some x) (ha : EvA (tCons ta tNil) σ G M M1 (conP (DD K d) nilP)) : Ev (tCB (rReprX K) (tCons ta tNil)) σ G M M1 (DD K (.str x)) := by
  have old : reprD d = some x → Ev (tCB (rReprX K) (tCons ta tNil)) σ G M M1 (DD K (.str x)) := fun h => ev_cb ha fun xs G0 H s k hxs Q q => by
    obtain ⟨v, rfl, hv⟩ := one_of (R := nilP) hxs
    have e : Ev (tCB (rReprD K) (tCons (fun σ H Q => Q v H) tNil)) ([] : L2.St) G0 M1 M1 (DD K (.str x)) := ev_reprD (d := d) h (ea_cons mo_dd (fun G1 H1 s1 k1 Q1 q1 => q1 v G1 H1 (Same.refl _) k1 (dp_up s1 d hv)) ea_nil)
    have := e G0 H (Same.refl _) k Q q
    exact .inl this
  cases d with
  | str z =>
    obtain ⟨_, h1, h2⟩ := bs (show ((grd ((reprText z).length ≤ 16777216 ∧ sok (reprText z) = true)).bind fun _ => some (reprText z)) = some x from hx)
    cases h2
    have g := grd_of h1
    exact ev_cb ha fun xs G0 H s k hxs Q q => by
      obtain ⟨v, rfl, hv⟩ := one_of (R := nilP) hxs
      cases hv
      exact .inr (.inl ⟨z, rfl, by rw [sizeLine_eq]; exact g.1, q _ G0 H (Same.refl _) k (.str g.2)⟩)
  | bool b =>
    cases hx
    exact ev_cb ha fun xs G0 H s k hxs Q q => by
      obtain ⟨v, rfl, hv⟩ := one_of (R := nilP) hxs
      cases hv
      refine .inr (.inr (.inl ⟨b, rfl, q _ G0 H (Same.refl _) k (.str ?_)⟩))
      cases b <;> decide +kernel
  | dK ks ds =>
    cases ks with
    | nil =>
      cases ds with
      | nil =>
        cases hx
        exact ev_cb ha fun xs G0 H s k hxs Q q => by
          obtain ⟨v, rfl, hv⟩ := one_of (R := nilP) hxs
          cases hv with
          | @dK a kvs _ _ h1 h2 h3 h4 =>
            have : kvs = [] := List.map_eq_nil_iff.mp h2
            subst this
            exact .inr (.inr (.inr ⟨a, rfl, rd_up k.g h1, q _ G0 H (Same.refl _) k (.str (by decide +kernel))⟩))
      | cons a b => exact old hx
    | cons a b => exact old hx
  | none => exact old hx
  | int i => exact old hx
  | list b => exact old hx
  | tuple b => exact old hx
  | rtup b => exact old hx
  | dT a b => exact old hx
  | ins a b c => exact old hx
  | dN a b c => exact old hx
end
end Kx
end
section
set_option maxHeartbeats 2000000
namespace Kx
open PySem PySem.Spec PyProof.Rows L2
/-! ### a call by places and names: f(a, b, k = v) (pe_callN); parameters behind a star -/
end Kx
end
section
set_option maxHeartbeats 2000000
namespace PyProof.Rows
open PySem PySem.Spec
end PyProof.Rows
namespace Kx
open PySem L2 PySem.Spec PyProof.Rows PySem.W
/-! ### sorted(flat tuples) -/
def kD : Key → Dat
  | .inl i => .int i
  | .inr z => .str z
def kShape (sh : Nat → Bool) : Nat → List Key → Prop
  | _, [] => True
  | i, .inl _ :: r => sh i = false ∧ kShape sh (i + 1) r
  | i, .inr _ :: r => sh i = true ∧ kShape sh (i + 1) r
/-- a value that is a flat tuple of this key -/
def KeyV (K : PySem.W.Frag) (sh : Nat → Bool) (H : Hp) (x : V) (ks : List Key) : Prop := ∃ t, x = .ref t ∧ SqT K H t (ks.map kV) ∧ kShape sh 0 ks ∧ ks ≠ []
section
variable {β : Type} {K : PySem.W.Frag} {σ σ' : L2.St} {G G' M M1 M2 M3 : Hp} {ta tb te tc : TE} {e : β → Dat} {f : β → List Key} {sh : Nat → Bool}
theorem KeyV.up {G G' : Hp} (g : ∀ a o, G a = some o → G' a = some o) {x : V} {ks : List Key} (h : KeyV K sh G x ks) : KeyV K sh G' x ks := by
  obtain ⟨t, e, h1, h2⟩ := h
  exact ⟨t, e, sqT_up g h1, h2⟩
end
end Kx
end
section
set_option maxHeartbeats 2000000
namespace Kx
open PySem L2 PySem.Spec PyProof.Rows
/-! ### o.m(k = v, ..), by names alone -/
end Kx
end
section
set_option maxHeartbeats 2000000
namespace PySem.W
open PySem PySem.Calls PySem.Spec PyProof.Rows
/-! ### != by an own __eq__ -/
end PySem.W
namespace Kx
open PySem L2 PySem.Spec PyProof.Rows
/-! ### x == y, x != y of two instances with an own __eq__ -/
end Kx
end
section
set_option maxHeartbeats 2000000
namespace Kx
open PySem L2
/-! ### an own list lent to an expression whose value has no list -/
def drop (G : Hp) (p : Addr) : Hp := fun a => if a = p then none else G a
/-! ### pairs of texts: < -/
/-! ### a comprehension with a test whose elements draw -/
end Kx
end
section
set_option maxHeartbeats 2000000
namespace Kx
open PySem L2 PySem.Spec PyProof.Rows
/-! ### a try whose suite reads the slots as they stood -/
theorem passAtN {X : Cx} {W : WX} (tk : L2N.Takes X W) (σ : L2.St) : PassesAt (L2N.CX X.prog X.w) X σ (WE W σ) := fun _ _ _ e s' I c => tk e s' (L2N.XE.of_call (W := W) I (fun _ _ _ h => h) c)
section
variable {α ρ : Type} {K : PySem.W.Frag} {σ : L2.St} {G M M1 : Hp} {E : L2.St → XK} {N : List Str}
theorem evr_callS [Tb] {args : α → List V → Hp → Prop} {m : α → Option (ρ ⊕ Ex)} {res : ρ → VP} {t : TA} {a : α} {r : ρ ⊕ Ex} (hm : m a = some r) (ha : EvA t σ G M M1 (args a)) : EvR K (tCallS (spX K args m res) E t) σ G M M1 (E σ) r res := fun G0 H s k Q q qx =>
  ha G0 H s k _ fun vs G1 H1 s1 k1 hv => ⟨G1, M1, a, r, k1, hv, hm, fun y e v G2 H2 s2 k2 hr => q y e v G2 H2 (s1.trans s2) k2 hr, fun x e d G2 H2 s2 k2 hd => qx x e d G2 H2 (s1.trans s2) k2 hd⟩
end
end Kx
end
section
set_option maxHeartbeats 2000000
namespace PySem.W
open PySem PySem.Calls PySem.Spec PyProof.Rows
/-! ### own instances beside things of Python's kinds -/
end PySem.W
namespace PySem.W
open PySem PySem.Calls PySem.Spec PyProof.Rows Builtin
/-! ### bool(o), o of an own class with its own __len__ -/
end PySem.W
namespace Kx
open PySem L2 PySem.Spec PyProof.Rows
/-! ### an instance compared with a thing of any kind -/
/-! ### len(o), bool(o) by an own __len__ -/
/-! ### truths compared by is -/
/-! ### a slice of a tuple as a tuple of which no more is known (a key) -/
end Kx
end
section
set_option maxHeartbeats 2000000
namespace Kx
open PySem L2 PySem.Spec PyProof.Rows
/-! ### isinstance(e, (A, B, ..)), e an exception that is pinned -/
/-! ### a text times a number -/
end Kx
end
section
set_option maxHeartbeats 2000000
namespace Kx
open PySem L2 PySem.Spec PyProof.Rows
/-! ### comprehensions with two fors, the inner one with a test -/
/-! ### any(..) of whole numbers -/
/-! ### list(range(i, j)) -/
end Kx
end
section
set_option maxHeartbeats 2000000
namespace Kx
open PySem L2 PySem.Spec PyProof.Rows
/-! ### dicts by tuples of tuples -/
section
variable {X : Cx} {pins : List (Addr × Obj)} {σ : L2.St} {H : Hp} {s : Shared} {a : Addr} {w : World}
mutual
theorem nested_of (I : Inv X pins σ H s) : ∀ (k : NestedKey) {v : V} {u : Value}, NKq X.K H v k → RelV v u → NestedIs s.heap k u
  | .none, _, _, h, _ => by cases h
  | .num i, _, u, h, r => by
    cases h
    obtain ⟨t, rfl⟩ := (show ∃ t, u = Value.int i t from r)
    exact .int i t
  | .text x, _, u, h, r => by
    cases h
    obtain ⟨t, rfl⟩ := (show ∃ t, u = Value.str x t from r)
    exact .text x t
  | .tup ks, _, u, h, r => by
    cases h with
    | @tup p xs _ a b =>
      cases (show u = Value.ref p from r)
      obtain ⟨its, hv, ⟨o, h1, h2, n, h3⟩, _⟩ := I.tuple a.sq
      exact .tup h1 h2 h3 (by simpa using nestedAll_of I ks b hv)
theorem nestedAll_of (I : Inv X pins σ H s) : ∀ (ks : List NestedKey) {vs : List V} {us : List Value}, NKAll X.K H vs ks → Vals vs us → NestedAll s.heap ks us
  | [], _, _, h, r => by
    cases h
    cases r
    exact .nil
  | k :: ks, _, _, h, r => by
    cases h with
    | cons a b =>
      cases r with
      | cons c d => exact .cons (nested_of I k a c) (nestedAll_of I ks b d)
end
/-- the entries' keys stand where they say -/
def NKs (K : PySem.W.Frag) (H : Hp) (es : List (NestedKey × Addr × V)) : Prop := ∀ e ∈ es, NKq K H (.ref e.2.1) e.1 ∧ e.1.depth ≤ 8
theorem dn_rd (I : Inv X pins σ H s) {es : List (NestedKey × Addr × V)} (r : Rd H a (dnO X.w a es)) (k : NKs X.K H es) :
    es.length ≤ sizeLine ∧ (a == sysModules) = false ∧ ∃ xs, Paired EnR es xs ∧ s.heap.DictOfH (nestedKind X.prog X.w) a xs := by
  obtain ⟨⟨z, y, xs, pr, o, de, ep, h1, h2, h3, h4, h5⟩, _⟩ := (show ObjOk X.prog X.w H s.heap a (dnO X.w a es) from rd_of I.hok r)
  refine ⟨z, y, xs, pr, o, de, ep, h1, h2, h3, h4, fun x hx => ?_, h5⟩
  have all : ∀ {l : List (NestedKey × Addr × V)} {m : List (NestedKey × Addr × Value)}, Paired EnR l m → NKs X.K H l → ∀ x ∈ m, (nestedKind X.prog X.w).is s.heap x.1 x.2.1 := by
    intro l m q
    induction q with
    | nil => intro _ x hx; exact nomatch hx
    | @cons p q ps qs hq t ih =>
      intro hk x hx
      rcases List.mem_cons.mp hx with e | hx
      · subst e
        obtain ⟨h1, h2⟩ := hk p List.mem_cons_self
        refine ⟨?_, by rw [← hq.1]; exact h2⟩
        rw [← hq.1, ← hq.2.1]
        exact nested_of I _ h1 rfl
      · exact ih (fun e he => hk e (List.mem_cons_of_mem _ he)) x hx
  exact all pr k x hx
end
def getN (es : List (NestedKey × Addr × V)) (k : NestedKey) : Option V := (es.find? fun e => decide (e.1 = k)).map (·.2.2)
def putN (es : List (NestedKey × Addr × V)) (k : NestedKey) (b : Addr) (v : V) : List (NestedKey × Addr × V) :=
  if (getN es k).isSome = true then es.map fun e => if e.1 = k then (e.1, e.2.1, v) else e else es ++ [(k, b, v)]
theorem getN_pos {e : NestedKey × Addr × V} {r : List (NestedKey × Addr × V)} {k : NestedKey} (h : e.1 = k) : getN (e :: r) k = some e.2.2 := by simp [getN, List.find?_cons, h]
theorem getN_neg {e : NestedKey × Addr × V} {r : List (NestedKey × Addr × V)} {k : NestedKey} (h : ¬ e.1 = k) : getN (e :: r) k = getN r k := by simp [getN, List.find?_cons, h]
section
variable {X : Cx} {pins : List (Addr × Obj)} {σ : L2.St} {H : Hp} {s : Shared} {a : Addr} {y v : V} {u r : Value} {o : Option V} {A : Around} {E : Value → Shared → Prop}
theorem n_len {Q : Value → Shared → Prop} {es : List (NestedKey × Addr × V)} (I : Inv X pins σ H s) (e : Rd H a (dnO X.w a es)) (nk : NKs X.K H es) (h : ∀ t s', Inv X pins σ H s' → Q (.int es.length t) s') : wpAny (model X.prog X.w) A (call (.builtin "len") [.ref a]) Q E s := by
  obtain ⟨z, hd, xs, rel, dd⟩ := dn_rd I e nk
  refine call_len_dictH hd dd (by rw [← Paired.length rel]; rw [sizeLine_eq] at z; omega) ?_
  rw [← Paired.length rel]
  exact h _ _ (I.tok _)
end
/-! ### readings and rules -/
end Kx
end
section
set_option maxHeartbeats 2000000
namespace Kx
open PySem L2
/-! ### dicts by standings: pairs of a tuple of texts and one of ints -/
abbrev ST : Type := List Str × List Int
def kN (k : ST) : NestedKey := .tup [.tup (k.1.map .text), .tup (k.2.map .num)]
theorem text_inj : ∀ {a b : List Str}, a.map NestedKey.text = b.map NestedKey.text → a = b
  | [], [], _ => rfl
  | [], _ :: _, h => by cases h
  | _ :: _, [], h => by cases h
  | x :: a, y :: b, h => by
    rw [List.map_cons, List.map_cons] at h
    injection h with h1 h2
    injection h1 with h1
    rw [h1, text_inj h2]
theorem num_inj : ∀ {a b : List Int}, a.map NestedKey.num = b.map NestedKey.num → a = b
  | [], [], _ => rfl
  | [], _ :: _, h => by cases h
  | _ :: _, [], h => by cases h
  | x :: a, y :: b, h => by
    rw [List.map_cons, List.map_cons] at h
    injection h with h1 h2
    injection h1 with h1
    rw [h1, num_inj h2]
theorem kN_inj (a b : ST) (h : kN a = kN b) : a = b := by
  unfold kN at h
  injection h with h
  injection h with h1 h2
  injection h2 with h2 h3
  injection h1 with h1
  injection h2 with h2
  exact Prod.ext (text_inj h1) (num_inj h2)
section
variable {β : Type} {K : PySem.W.Frag} {G G' : Hp} {e : β → Dat} {w : World}
inductive NRel (K : PySem.W.Frag) (G : Hp) (e : β → Dat) : List (NestedKey × Addr × V) → List (ST × β) → Prop
  | nil : NRel K G e [] []
  | cons {k : ST} {b : Addr} {v : V} {y : β} {es : List (NestedKey × Addr × V)} {xs : List (ST × β)} : NKq K G (.ref b) (kN k) → Dq K G v (e y) → NRel K G e es xs → NRel K G e ((kN k, b, v) :: es) ((k, y) :: xs)
theorem NRel.up {es : List (NestedKey × Addr × V)} {xs : List (ST × β)} (s : Same G G') (h : NRel K G e es xs) : NRel K G' e es xs := by
  induction h with
  | nil => exact .nil
  | cons a b _ ih => exact .cons (nkq_up s _ a) (dp_up s _ b) ih
theorem NRel.len {es : List (NestedKey × Addr × V)} {xs : List (ST × β)} (h : NRel K G e es xs) : es.length = xs.length := by
  induction h with
  | nil => rfl
  | cons a b _ ih => rw [List.length_cons, List.length_cons, ih]
theorem NRel.get {es : List (NestedKey × Addr × V)} {xs : List (ST × β)} (h : NRel K G e es xs) (k : ST) : (getA xs k = none ∧ getN es (kN k) = none) ∨ ∃ b v, getA xs k = some b ∧ getN es (kN k) = some v ∧ Dq K G v (e b) := by
  induction h with
  | nil => exact .inl ⟨rfl, rfl⟩
  | @cons k' a v y es xs h1 h2 _ ih =>
    by_cases q : k' = k
    · subst q
      exact .inr ⟨y, v, getA_pos (p := (k', y)) rfl, getN_pos (e := (kN k', a, v)) rfl, h2⟩
    · rw [getA_neg (p := (k', y)) q, getN_neg (e := (kN k', a, v)) fun z => q (kN_inj _ _ z)]
      exact ih
theorem NRel.some' {es : List (NestedKey × Addr × V)} {xs : List (ST × β)} (h : NRel K G e es xs) (k : ST) : (getN es (kN k)).isSome = hasA xs k := by
  unfold hasA
  rcases h.get k with ⟨z, z2⟩ | ⟨b', v, e1, e2, e3⟩
  · rw [z, z2]; rfl
  · rw [e1, e2]; rfl
theorem getN_any (es : List (NestedKey × Addr × V)) (k : NestedKey) : (getN es k).isSome = es.any fun x => decide (x.1 = k) := by
  unfold getN
  rw [Option.isSome_map]
  induction es with
  | nil => rfl
  | cons x r ih =>
    rw [List.find?_cons, List.any_cons]
    cases decide (x.1 = k) with
    | true => rfl
    | false => rw [Bool.false_or]; exact ih
theorem NRel.any {es : List (NestedKey × Addr × V)} {xs : List (ST × β)} (h : NRel K G e es xs) (k : ST) : (es.any fun x => decide (x.1 = kN k)) = xs.any fun x => decide (x.1 = k) := by
  induction h with
  | nil => rfl
  | @cons k' a v y es xs h1 h2 _ ih =>
    rw [List.any_cons, List.any_cons, ih]
    by_cases q : k' = k
    · subst q; simp
    · have q2 : ¬ kN k' = kN k := fun z => q (kN_inj _ _ z)
      simp [q, q2]
theorem NRel.put {es : List (NestedKey × Addr × V)} {xs : List (ST × β)} (h : NRel K G e es xs) (k : ST) {a : Addr} {v : V} {b : β} (hk : NKq K G (.ref a) (kN k)) (hv : Dq K G v (e b)) : NRel K G e (putN es (kN k) a v) (putA xs k b) := by
  unfold putN putA
  rw [getN_any, h.any k]
  split
  · next hh =>
    clear hh
    induction h with
    | nil => exact .nil
    | @cons k' a' v' b' es xs h1 h2 _ ih =>
      rw [List.map_cons, List.map_cons]
      by_cases q : k' = k
      · subst q
        rw [if_pos rfl, if_pos rfl]
        exact .cons h1 hv ih
      · rw [if_neg (show ¬ (kN k', a', v').1 = kN k from fun z => q (kN_inj _ _ z)), if_neg (show ¬ (k', b').1 = k from q)]
        exact .cons h1 h2 ih
  · next hh =>
    clear hh
    induction h with
    | nil => exact .cons hk hv .nil
    | cons h1 h2 _ ih => exact .cons h1 h2 ih
theorem NRel.keys {es : List (NestedKey × Addr × V)} {xs : List (ST × β)} (h : NRel K G e es xs) : es.map (·.1) = xs.map fun x => kN x.1 := by
  induction h with
  | nil => rfl
  | cons a b _ ih => rw [List.map_cons, List.map_cons, ih]
theorem NRel.vals {es : List (NestedKey × Addr × V)} {xs : List (ST × β)} (h : NRel K G e es xs) : DqAll K G (es.map (·.2.2)) (xs.map fun x => e x.2) := by
  induction h with
  | nil => exact .nil
  | cons a b _ ih => exact .cons b ih
end
end Kx
end
section
set_option maxHeartbeats 2000000
namespace Kx
open PySem L2 PySem.Spec PyProof.Rows PySem.W
/-! ### sorted(d), d a dict by standings -/
end Kx
end
section
set_option maxHeartbeats 2000000
namespace Kx
open PySem L2 PySem.Spec PyProof.Rows PySem.W
/-! ### min(d), d a dict by standings -/
/-! ### min, max of a list of texts -/
/-! ### min of a list of lists of ints -/
end Kx
end
section
set_option maxHeartbeats 2000000
namespace Kx
open PySem L2 PySem.Spec PyProof.Rows
/-! ### for x in d, d a dict by standings that is data -/
/-! ### x in (a, b, ..), nested data -/
end Kx
end
section
set_option maxHeartbeats 2000000
namespace Kx
open PySem L2
/-! ### an own instance with one field of data and two own lists -/
/-! ### lent: within, it is data -/
end Kx
end
section
set_option maxHeartbeats 2000000
namespace Kx
open PySem L2
/-! ### expressions that change an own instance -/
def EvW [Tb] (te : TE) (σ : L2.St) (G M : Hp) (R : V → Hp → Hp → Prop) : Prop :=
  ∀ G0 H, Same G G0 → Ok G0 M H → ∀ Q : VK, (∀ v G' M' H', Same G0 G' → Ok G' M' H' → R v G' M' → Q v H') → te σ H Q
/-! ### fields of an own instance -/
end Kx
end
section
set_option maxHeartbeats 2000000
namespace Kx
open PySem L2
/-! ### a def that draws and hands back [data, a new instance, data] -/
end Kx
end
section
set_option maxHeartbeats 2000000
namespace Kx
open PySem L2
/-! ### xs.insert(i, y) -/
end Kx
end
section
set_option maxHeartbeats 2000000
namespace Kx
open PySem L2 PySem.Spec PyProof.Rows
/-! ### D.get(text), D a dict of the module with texts and numbers -/
end Kx
end
section
set_option maxHeartbeats 2000000
/-! ### a, *b = a tuple -/
namespace PyProof.Rows
open PySem PySem.Spec
end PyProof.Rows
namespace Kx
open PySem L2 PySem.Spec PyProof.Rows
end Kx
end
section
set_option maxHeartbeats 2000000
namespace Kx
open PySem L2
/-! ### a, *b = a tuple: the statement -/
end Kx
end
section
set_option maxHeartbeats 2000000
namespace Kx
open PySem L2
end Kx
end
section
set_option maxHeartbeats 2000000
/-! ### dict(zip(a, b)), a and b lists or tuples (turned from the library's zip of lists to any two iterators) -/
namespace PySem
end PySem
namespace PySem
end PySem
end
section
set_option maxHeartbeats 2000000
namespace Kx
open PySem L2 PySem.Spec PyProof.Rows
end Kx
end
section
set_option maxHeartbeats 2000000
namespace Kx
open PySem L2
section
variable {β : Type} {K : PySem.W.Frag} {σ : L2.St} {G M M1 : Hp} {ta te : TE} {D : Ends} {H : Hp} {u : TS} {e : β → Dat}
/-! ### a def that hands on a new dict of its own -/
def spFP [Tb] {α β : Type} (K : PySem.W.Frag) (args : α → List V → Hp → Prop) (m : α → Option (List ((Str × Str) × β))) (e : β → Dat) : Sp := fun vs H Q _ =>
  ∃ (G M : Hp) (a : α) (r : List ((Str × Str) × β)), Ok G M H ∧ args a vs G ∧ m a = some r ∧ ∀ p ws G' H', Same G G' → Ok G' (upd M p (.dT ws)) H' → M p = none → KOkP K G' e ws r → Q (.ref p) H'
theorem ep_callF [Tb] {α : Type} {args : α → List V → Hp → Prop} {m : α → Option (List ((Str × Str) × β))} {E : XK} {t : TA} {a : α} {r : List ((Str × Str) × β)} (hm : m a = some r) (ha : EvA t σ G M M1 (args a)) : EvP K (tCall (spFP K args m e) [] E t) σ G M M1 e r := fun G0 H s k Q q =>
  ha G0 H s k _ fun vs G1 H1 s1 k1 hv => by
    rw [List.append_nil]
    exact ⟨G1, M1, a, r, k1, hv, hm, fun p ws G2 H2 s2 k2 hp hd => q p ws G2 H2 (s1.trans s2) k2 hp hd⟩
theorem q_retP [Tb] {xs : List ((Str × Str) × β)} (he : EvP K te σ G M M1 e xs) (ok : Ok G M H) (k : ∀ p kvs G' H', Same G G' → Ok G' (upd M1 p (.dT kvs)) H' → M1 p = none → KOkP K G' e kvs xs → D.rt (.ref p) H') : tSeq (tRet te) u D σ H :=
  he G H (Same.refl _) ok _ k
end
/-! ### a thing that is a DEED to tell -/
end Kx
namespace Kx
open PySem L2
/-! ### two things that are a text and a number -/
end Kx
namespace Kx
open PySem L2
end Kx
end
section
set_option maxHeartbeats 2000000
namespace Kx
open PySem PySem.Spec PyProof.Rows L2
/-! ### what the head tells of a dict of the module, of keyword-only defaults -/
end Kx
end
section
set_option maxHeartbeats 2000000
namespace Kx
open PySem L2
/-! ### what is kept apart from a new own instance that a def handed back -/
end Kx
end
section
set_option maxHeartbeats 2000000
namespace Kx
open PySem L2
/-! ### an own instance: pop of its lists, an own list handed to a field -/
end Kx
namespace Kx
open PySem PySem.Spec PyProof.Rows L2
/-! ### a call by places and names, other keyword-only parameters left out -/
end Kx
namespace Kx
open PySem L2
/-! ### pop of encoded lists; a tuple of texts of the module -/
end Kx
namespace Kx
open PySem L2
/-! ### what stands apart from an instance that a def was handed -/
end Kx
namespace Kx
open PySem L2
theorem EvW.imp [Tb] {te : TE} {σ : L2.St} {G M : Hp} {R R' : V → Hp → Hp → Prop} (h : EvW te σ G M R) (k : ∀ v G M, R v G M → R' v G M) : EvW te σ G M R' := fun G0 H s k0 Q q =>
  h G0 H s k0 Q fun v G1 M1 H1 s1 k1 hr => q v G1 M1 H1 s1 k1 (k v G1 M1 hr)
end Kx
namespace Kx
open PySem L2
end Kx
namespace Kx
open PySem L2
end Kx
namespace Kx
open PySem L2
end Kx
end
section
set_option maxHeartbeats 2000000
/-! list(d.items()), d a dict by pairs of texts (data) -/
namespace Kx
open PySem L2 PySem.Spec PyProof.Rows
end Kx
end
section
set_option maxHeartbeats 2000000
/-! text.replace of written texts (a token must be out: a list display whose first part writes a text); split as a list of one's own -/
namespace Kx
open PySem L2 PySem.Spec PyProof.Rows
end Kx
end
section
set_option maxHeartbeats 2000000
/-! text.replace(old, new, 1) of written texts; a token that a statement ahead has given out -/
namespace PySem
open Builtin Builtin.Str
end PySem
namespace Kx
open PySem L2 PySem.Spec PyProof.Rows
end Kx
end
section
set_option maxHeartbeats 2000000
/-! e.values(), e a dict by standings that is no name's (locked for the comprehension); range(i, j, c); xs[::-1] -/
namespace Kx
open PySem L2 PySem.Spec PyProof.Rows
end Kx
end
section
set_option maxHeartbeats 2000000
/-! a list of things taken apart into three; t += u of tuples; x, y = [..], a draw -/
namespace Kx
open PySem L2 PySem.Spec PyProof.Rows HT
/-! ### a list of things taken apart into three names -/
end Kx
end
section
set_option maxHeartbeats 2000000
/-! sorted(set(xs)), xs a list of numbers -/
namespace Kx
open PySem L2 PySem.Spec PyProof.Rows
/-! the list that is told -/
end Kx
end
section
set_option maxHeartbeats 2000000
/-! order of standings and of tuples of numbers -/
namespace Kx
open PySem L2 PySem.Spec PyProof.Rows PySem.W
end Kx
end
section
set_option maxHeartbeats 2000000
namespace Kx
open PySem PySem.Spec PyProof.Rows L2 L2N HandSPX
/-! ### try, except C as n: the exception kept in a name; what follows is run with the exception pinned
(pss_try_keep follows HandS.ExcCtx's ps_try_as, turned to a suite that is left with its pin) -/
def wAsK (K : PySem.W.Frag) (c : Value) (i : Nat) (ts tr : Addr → Value → Option Addr → TS) (Wout : WX) (D : Ends) : WX := fun cls d σ H =>
  ∃ b, PySem.W.exmOne K cls c = some b ∧ (b = true → ∀ a, H a = none → ts a cls d { nx := fun σ' H' => tr a cls d D (σ'.set i none) H', rt := D.rt, bk := fun σ' H' => D.bk (σ'.set i none) H', ct := fun σ' H' => D.ct (σ'.set i none) H' } (σ.set i (some (.ref a))) H) ∧
    (b = false → Wout cls d σ H)
section
variable {X : Cx} {pins : List (Addr × Obj)} {σ : L2.St} {H : Hp} {s : Shared}
theorem inv_keep {a : Addr} {q : Addr × Obj} {pn' : List (Addr × Obj)} (I : Inv (X.suite a (q :: (X.pn ++ pins))) pn' σ H s) (ok : X.Ok) : Inv (X.tr (q :: (X.pn ++ pins)) X.xe) [] σ H s :=
  ⟨ok.toTry _ _, I.os, I.bare, I.base, I.loc, I.cell, I.free, I.freeC, fun p hp => I.pin p (by rw [List.append_nil] at hp; exact List.mem_append_left _ hp), I.hok, I.len⟩
theorem inv_unkeep {q : Addr × Obj} {xe : Value → Shared → Prop} {pn' : List (Addr × Obj)} (I : Inv (X.tr (q :: (X.pn ++ pins)) xe) pn' σ H s) (ok : X.Ok) : Inv X pins σ H s :=
  ⟨ok, I.os, I.bare, I.base, I.loc, I.cell, I.free, I.freeC, fun p hp => I.pin p (List.mem_append_left _ (List.mem_cons_of_mem _ hp)), I.hok, I.len⟩
theorem sp_unkeep {q : Addr × Obj} {xe : Value → Shared → Prop} {D : Ends} (ok : X.Ok) {f : Flow} (h : SP (X.tr (q :: (X.pn ++ pins)) xe) [] D f s) : SP X pins D f s := by
  cases f with
  | next =>
    obtain ⟨σ', H', J', q⟩ := h
    exact ⟨σ', H', inv_unkeep J' ok, q⟩
  | brk =>
    obtain ⟨σ', H', J', q⟩ := h
    exact ⟨σ', H', inv_unkeep J' ok, q⟩
  | cont =>
    obtain ⟨σ', H', J', q⟩ := h
    exact ⟨σ', H', inv_unkeep J' ok, q⟩
  | ret u =>
    obtain ⟨v, σ', H', J', r, q⟩ := h
    exact ⟨v, σ', H', inv_unkeep J' ok, r, q⟩
end
section
variable {X : Cx} {x n : Str} {c : Value} {i : Nat} {body suite rest : List Stmt} {b₀ : Stmt} {np pos pos' : Pos} {tb : WX → TS} {ts tr : Addr → Value → Option Addr → TS} {u : TS} {Wout : WX}
/-- what the try leaves to the statements behind it -/
def QK (X : Cx) (rest : List Stmt) (pins : List (Addr × Obj)) (D : Ends) : Flow → Shared → Prop := fun f s1 =>
  match f with
  | .next => wpAny (model X.prog X.w) X.A (execs rest X.env) (SP X pins D) X.xe s1
  | f => SP X pins D f s1
theorem pss_try_keep (hs : X.stack = X.env :: X.outer) (hf : X.env.frame = some X.env.locals) (hN : X.N.Nodup) (hi : X.N[i]? = some n) (hln : X.env.kindOf n = some .local) (hc : Names X x c) (tk : L2N.Takes X Wout)
    (hb : ∀ (W : WX) (pn : List (Addr × Obj)) (xe : Value → Shared → Prop), L2N.Takes (X.tr pn xe) W → PassesOwn (model X.prog X.w) X.A X.env xe → PSs (X.tr pn xe) body (tb W))
    (hsu : ∀ (a : Addr) (oe : Obj) (cls : Value) (d : Option Addr) (pn : List (Addr × Obj)), L2N.Zn cls d oe → (∃ vs, oe.data = .fields vs) → PSs (X.suite a ((a, oe) :: pn)) (b₀ :: suite) (ts a cls d))
    (hr : ∀ (a : Addr) (oe : Obj) (cls : Value) (d : Option Addr) (pn : List (Addr × Obj)), L2N.Zn cls d oe → (∃ vs, oe.data = .fields vs) → PSs (X.tr ((a, oe) :: pn) X.xe) rest (tr a cls d))
    (h2 : PSs X rest u) :
    PSs X (.Try body [.ExceptHandler (some (.Name x np)) (some n) (b₀ :: suite) pos'] [] [] pos :: rest) (fun D σ H => tb (wAsK X.K c i ts tr Wout D) { D with nx := u D } σ H) := by
  refine ⟨fun pins s σ H D I h => ?_⟩
  have ok := I.ok
  have hfr : X.A.frames = some (X.env :: X.outer) := by rw [ok.frames, hs]
  have hloc : Loc X.env.scope n := .inl hln
  suffices g : wpAny (model X.prog X.w) X.A (exec (.Try body [.ExceptHandler (some (.Name x np)) (some n) (b₀ :: suite) pos'] [] [] pos) X.env) (QK X rest pins D) X.xe s from
    wpAny_execs_cons (thn g fun f s1 q => by
      cases f with
      | next => exact q
      | ret v => exact q
      | brk => exact q
      | cont => exact q)
  refine wpAny_Try_except ?_
  refine wpAny_mono ((hb (wAsK X.K c i ts tr Wout D) (X.pn ++ pins) (fun e s₁ => wpAny (model X.prog X.w) X.A (noteFrame e X.env) (fun _ s₂ => wpAny (model X.prog X.w) X.A (setFlight e none) (fun _ s₃ =>
    wpAny (model X.prog X.w) X.A (handleBy e X.env [.ExceptHandler (some (.Name x np)) (some n) (b₀ :: suite) pos']) (QK X rest pins D) X.xe s₃) X.xe s₂) X.xe s₁) (fun u s' xx => ?_) PassesOwn.looking).run [] s σ H _ (I.toTry _) h) (fun f s1 hsp => ?_) (fun e s1 he => he)
  · obtain ⟨a, B, sI, pins', σ', H', cls, d, rfl, J', nb, up, sky, na, os, ag, b, hb1, hyes, hno⟩ := xx
    have J : Inv X pins σ' H' sI := J'.ofTry ok
    have sky' : Sky B (X.env :: X.outer) a (L2N.Zn cls d) X.env.locals s'.heap := by rw [← hs]; exact sky
    show wpAny (model X.prog X.w) X.A (noteFrame (.ref a) X.env) _ _ _
    refine L2N.Sky.land L2N.Zn.steady hfr hf sky' fun h3 fl3 up3 => ?_
    have J3 : Inv X pins σ' H' { s' with heap := h3 } := J.landed nb fl3.1 (up.trans up3) os ag
    obtain ⟨oe3, vs3, he3, hz3, hd3⟩ := fl3.there
    have notFr : ∀ {h : Heap} {o : Obj} {vs : Array Value}, h.FunFrames B (X.env :: X.outer) → h.get? a = some o → o.data = .fields vs → a ∉ frs (X.env :: X.outer) := fun {h o vs} ff e dd hm => by
      obtain ⟨_, o', e', hnf⟩ := ff.mem hm
      rw [e] at e'; cases e'
      exact hnf _ dd
    have nfr := notFr fl3.2.2.1 he3 hd3
    have nL : a ≠ X.env.locals := fun z => nfr (List.mem_filterMap.mpr ⟨X.env, List.mem_cons_self, by rw [hf, z]⟩)
    have nF : a ∉ X.fs := fun hm => by
      obtain ⟨e, he, q⟩ := List.mem_filterMap.mp hm
      exact nfr (List.mem_filterMap.mpr ⟨e, List.mem_cons_of_mem _ he, q⟩)
    have S3 := J3.suite he3 hd3 na nL nF
    refine wpAny_handleBy_cons (codeAny_handlers_test ?_) (by intro q; cases q)
    have LT : PySem.W.Looks (model X.prog X.w) h3 (typeOf (.ref a)) cls := fun A Q E s k q => wpAny_typeOf_ref (k _ _ he3) (by rw [hz3.1]; exact q)
    have LM := PySem.W.exm_one (M := model X.prog X.w) (J3.kIn) LT hb1
    have test : ∀ {Q : Value → Shared → Prop} {E : Value → Shared → Prop}, Q c { s' with heap := h3 } → wpAny (model X.prog X.w) (X.A.mark (some (.ref a))) (eval (.Name x np) X.env) Q E { s' with heap := h3 } := fun {Q E} q => by
      obtain ⟨hg, hdbg, hm | ⟨hm, hv, hnn⟩⟩ := hc
      · exact ld_glob (X := X.suite a ((a, oe3) :: (X.pn ++ pins))) S3 hg hm q hdbg
      · exact ld_blt (X := X.suite a ((a, oe3) :: (X.pn ++ pins))) S3 hg hm hv q hnn hdbg
    refine test (LM.here ?_)
    cases b with
    | true =>
      refine codeAny_handlers_suite_as ?_
      refine HandSPX.lands_againZ fl3 fun h4 fl4 up4 => ?_
      have J4 : Inv X pins σ' H' { s' with heap := h4 } := J.landed nb fl4.1 ((up.trans up3).trans up4) os ag
      obtain ⟨oe4, vs4, he4, hz4, hd4⟩ := fl4.there
      have S4 := J4.suite he4 hd4 na nL nF
      refine store_ok (X := X.suite a ((a, oe4) :: (X.pn ++ pins))) (v := .ref a) S4 hN hi hloc rfl (fun s5 S5 => ?_) (.inr hln)
      refine wpAny_mono ((hsu a oe4 cls d (X.pn ++ pins) hz4 ⟨_, hd4⟩).run [] s5 _ H' _ S5 (hyes rfl a na)) (fun f s6 hsp => ?_) (fun _ _ z => False.elim z)
      have end_ : ∀ {σ6 : L2.St} {H6 : Hp} {Q : Shared → Prop}, Inv (X.suite a ((a, oe4) :: (X.pn ++ pins))) [] σ6 H6 s6 → (∀ s7, Inv (X.tr ((a, oe4) :: (X.pn ++ pins)) X.xe) [] (σ6.set i none) H6 s7 → Q s7) →
          wpAny (model X.prog X.w) X.A (do bindName X.env n .none; unbindBehindTheSuite X.env n pos') (fun _ s7 => Q s7) X.xe s6 := fun {σ6 H6 Q} S6 hq => gone_ok (X := X.tr ((a, oe4) :: (X.pn ++ pins)) X.xe) (inv_keep S6 ok) hN hi hln hq
      cases f with
      | next =>
        obtain ⟨σ6, H6, S6, q6⟩ := hsp
        exact end_ S6 fun s7 J7 => thn ((hr a oe4 cls d (X.pn ++ pins) hz4 ⟨_, hd4⟩).run [] s7 _ H6 D J7 q6) fun f s8 q8 => sp_unkeep ok q8
      | brk =>
        obtain ⟨σ6, H6, S6, q6⟩ := hsp
        exact end_ S6 fun s7 J7 => ⟨_, _, inv_unkeep J7 ok, q6⟩
      | cont =>
        obtain ⟨σ6, H6, S6, q6⟩ := hsp
        exact end_ S6 fun s7 J7 => ⟨_, _, inv_unkeep J7 ok, q6⟩
      | ret u =>
        obtain ⟨v6, σ6, H6, S6, r6, q6⟩ := hsp
        exact end_ S6 fun s7 J7 => ⟨_, _, _, inv_unkeep J7 ok, r6, q6⟩
    | false =>
      show wpAny _ X.A (handleBy (.ref a) X.env []) _ _ _
      refine wpAny_handleBy_nil ?_
      obtain ⟨k1, k2, k3, oe, vs, T, oT, ts', he, hz, hd, h1, hr'⟩ := id fl3
      unfold PySem.passOn
      refine wpAny_bind (wpAny_field he hd h1 ?_)
      rw [if_neg (show ¬ ((Value.ref T == Value.none) = true) from by simp)]
      have fin : wpAny (model X.prog X.w) X.A (setFlight (.ref a) X.env.frame) (fun _ s4 => wpAny (model X.prog X.w) X.A (throw (.ref a) : Sem Flow) (QK X rest pins D) X.xe s4) X.xe { s' with heap := h3 } := by
        rw [hf]
        refine HandSPX.setFlight_upZ fl3 fun h4 hh4 up4 => wpAny_throw (tk _ _ ?_)
        exact ⟨a, B, sI, pins, σ', H', cls, d, rfl, J, nb, (up.trans up3).trans up4, .inr (.inr (by rw [hs]; exact hh4)), na, os, ag, hno rfl⟩
      first
        | exact wpAny_bind (wpAny_pure (wpAny_bind fin))
        | exact wpAny_bind fin
  · cases f with
    | next =>
      obtain ⟨σ', H', J', q⟩ := hsp
      exact wpAny_execs_nil (h2.run pins s1 σ' H' D (J'.ofTry ok) q)
    | brk =>
      obtain ⟨σ', H', J', q⟩ := hsp
      exact ⟨σ', H', J'.ofTry ok, q⟩
    | cont =>
      obtain ⟨σ', H', J', q⟩ := hsp
      exact ⟨σ', H', J'.ofTry ok, q⟩
    | ret u =>
      obtain ⟨v, σ', H', J', r, q⟩ := hsp
      exact ⟨v, σ', H', J'.ofTry ok, r, q⟩
/-- what the suite and the statements behind it must do -/
theorem q_wasK {K : PySem.W.Frag} {σ : L2.St} {d : Option Addr} {C : Addr} {D : Ends} {H : Hp} (he : PySem.W.exmOne K (.ref C) c = some true)
    (h : ∀ (a : Addr), H a = none → ts a (.ref C) d { nx := fun σ' H' => tr a (.ref C) d D (σ'.set i none) H', rt := D.rt, bk := fun σ' H' => D.bk (σ'.set i none) H', ct := fun σ' H' => D.ct (σ'.set i none) H' } (σ.set i (some (.ref a))) H) :
    WE (wAsK K c i ts tr Wout D) σ (.ref C) d H := ⟨true, he, fun _ a ha => h a ha, fun z => nomatch z⟩
end
theorem call_isPTr {X : Cx} {a D : Addr} {oe : Obj} {cls : Value} {d : Option Addr} {pn : List (Addr × Obj)} {xe : Value → Shared → Prop} (T : ExcC X.K D) (ec : cls = .ref D) (hz : L2N.Zn cls d oe) (hf : ∃ vs, oe.data = .fields vs) : CallR (X.tr ((a, oe) :: pn) xe) (.builtin "isinstance") (rIsP X.K D a d) :=
  call_isP (X := X.tr ((a, oe) :: pn) xe) (p := (a, oe)) List.mem_cons_self T (zc_of ec hz) hf
end Kx
end
section
set_option maxHeartbeats 2000000
namespace Kx
open PySem L2 PySem.Spec PyProof.Rows
/-! ### repr of a tuple of plain things, empty dicts among them -/
def pyE : Dat → PyData
  | .dK [] [] => .dict []
  | d => toPy d
def scE : Dat → Bool
  | .none => true
  | .bool _ => true
  | .int _ => true
  | .str _ => true
  | .dK [] [] => true
  | _ => false
def dk0 : Dat → Bool
  | .dK [] [] => true
  | _ => false
theorem sc_reads {X : Cx} {pins : List (Addr × Obj)} {σ : L2.St} {H : Hp} {s : Shared} (I : Inv X pins σ H s) {d : Dat} {v : V} {u : Value} (hs : scE d = true) (h : Dq X.K H v d) (r : RelV v u) : ∃ as, PySem.Reads s.heap u (pyE d) as ∧ sysModules ∉ as := by
  cases h with
  | non => cases r; exact ⟨_, by unfold pyE toPy; exact .none, by simp⟩
  | bl b => cases r; exact ⟨_, by unfold pyE toPy; exact .bool b, by simp⟩
  | int i => obtain ⟨t, rfl⟩ := r; exact ⟨_, by unfold pyE toPy; exact .int i t, by simp⟩
  | str hx => obtain ⟨t, rfl⟩ := r; exact ⟨_, by unfold pyE toPy; exact .str _ t, by simp⟩
  | lst _ _ => cases hs
  | tup _ _ => cases hs
  | rtup _ _ => cases hs
  | @dK a kvs ks ds h1 h2 h3 h4 =>
    cases ks with
    | cons _ _ => cases hs
    | nil =>
      cases ds with
      | cons _ _ => cases hs
      | nil =>
        cases kvs with
        | cons _ _ => cases h2
        | nil =>
          cases r
          obtain ⟨_, hm, vs, kv, o, es, ep, e, ex, ed, _, pr, _⟩ := h1.ok I.hok
          have e0 : es.toList = [] := by
            cases kv
            generalize es.toList = l at pr
            cases pr
            rfl
          refine ⟨_, PySem.Reads.dict (kvs := []) e ex.1 ed (by rw [e0]; exact .nil) (by rw [e0]; exact .nil), fun hm2 => ?_⟩
          simp at hm2
          rw [hm2] at hm
          simp at hm
  | dT _ _ _ _ => cases hs
  | ins _ _ _ => cases hs
  | dN _ _ _ _ => cases hs
theorem sc_readsAll {X : Cx} {pins : List (Addr × Obj)} {σ : L2.St} {H : Hp} {s : Shared} (I : Inv X pins σ H s) : ∀ {ds : List Dat} {vs : List V} {us : List Value}, ds.all scE = true → DqAll X.K H vs ds → Vals vs us → ∃ as, PySem.ReadsAll s.heap us (ds.map pyE) as ∧ sysModules ∉ as
  | [], _, _, _, h, r => by
    cases h
    cases r
    exact ⟨_, .nil, by simp⟩
  | d :: ds, _, _, hs, h, r => by
    cases h with
    | cons h1 h2 =>
      cases r with
      | cons r1 r2 =>
        obtain ⟨e1, e2⟩ := (show scE d = true ∧ ds.all scE = true by simpa using hs)
        obtain ⟨as, q1, n1⟩ := sc_reads I e1 h1 r1
        obtain ⟨bs, q2, n2⟩ := sc_readsAll I e2 h2 r2
        exact ⟨_, .cons q1 q2, fun hm => (List.mem_append.mp hm).elim n1 n2⟩
/-- of each part: it can be laid, or it is the empty dict -/
theorem sc_lay {K : PySem.W.Frag} {G : Hp} {v : V} {d : Dat} (hs : scE d = true) (h : Dq K G v d) : (pyE d).canLay0 = true ∨ pyE d = .dict [] := by
  cases h with
  | non => exact .inl (by unfold pyE toPy PyData.canLay0; rfl)
  | bl b => exact .inl (by unfold pyE toPy PyData.canLay0; rfl)
  | int i => exact .inl (by unfold pyE toPy PyData.canLay0; rfl)
  | str hx => exact .inl (by unfold pyE toPy PyData.canLay0; exact hx)
  | lst _ _ => cases hs
  | tup _ _ => cases hs
  | rtup _ _ => cases hs
  | @dK a kvs ks ds h1 h2 h3 h4 =>
    cases ks with
    | cons _ _ => cases hs
    | nil =>
      cases ds with
      | cons _ _ => cases hs
      | nil => exact .inr rfl
  | dT _ _ _ _ => cases hs
  | ins _ _ _ => cases hs
  | dN _ _ _ _ => cases hs
theorem sc_layAll {K : PySem.W.Frag} {G : Hp} : ∀ {ds : List Dat} {vs : List V}, ds.all scE = true → DqAll K G vs ds → ∀ p ∈ ds.map pyE, p.canLay0 = true ∨ p = .dict []
  | [], _, _, _ => fun p hp => nomatch hp
  | d :: ds, _, hs, h => by
    cases h with
    | cons h1 h2 =>
      obtain ⟨e1, e2⟩ := (show scE d = true ∧ ds.all scE = true by simpa using hs)
      intro p hp
      rcases List.mem_cons.mp hp with rfl | hp
      · exact sc_lay e1 h1
      · exact sc_layAll e2 h2 p hp
theorem shownAll_mem {x : Str} : ∀ {ps : List PyData}, x ∈ PyData.shownAll ps → ∃ p ∈ ps, x = p.shown
  | [], h => by unfold PyData.shownAll at h; cases h
  | p :: ps, h => by
    unfold PyData.shownAll at h
    rcases List.mem_cons.mp h with rfl | h
    · exact ⟨p, List.mem_cons_self, rfl⟩
    · obtain ⟨q, hq, e⟩ := shownAll_mem h
      exact ⟨q, List.mem_cons_of_mem _ hq, e⟩
theorem sgn_tupE {ps : List PyData} (h : ∀ p ∈ ps, p.canLay0 = true ∨ p = .dict []) : sgn (PyData.tuple ps).shown := by
  rw [PyData.shown_tuple]
  refine sgn_app (sgn_app (sgn_ofString _) (sgn_join (sgn_ofString _) _ fun t ht => ?_)) (sgn_ofString _)
  obtain ⟨p, hp, rfl⟩ := shownAll_mem ht
  rcases h p hp with h | rfl
  · exact sgn_shown p h
  · exact sgn_sok.mpr (by decide +kernel)
theorem intsAll {ps : List PyData} (h : PyData.intsShortAll 40 ps = true) : ∀ p ∈ ps, p.intsShort 40 = true := by
  induction ps with
  | nil => intro p hp; cases hp
  | cons q ps ih =>
    unfold PyData.intsShortAll at h
    obtain ⟨h1, h2⟩ := Bool.and_eq_true_iff.mp h
    intro p hp
    rcases List.mem_cons.mp hp with rfl | hp
    · exact h1
    · exact ih h2 p hp
theorem leavesAll {ps : List PyData} (h : ∀ p ∈ ps, p.leavesShort 40 = true) : PyData.leavesShortAll 40 ps = true := by
  induction ps with
  | nil => unfold PyData.leavesShortAll; rfl
  | cons q ps ih =>
    unfold PyData.leavesShortAll
    rw [h q List.mem_cons_self, ih fun p hp => h p (List.mem_cons_of_mem _ hp)]
    rfl
theorem fits_tupE {ps : List PyData} (h : ∀ p ∈ ps, p.canLay0 = true ∨ p = .dict []) (hk : repOk (.tuple ps) = true) : (PyData.tuple ps).shown.length ≤ sizeLine := by
  simp [repOk] at hk
  have hi : PyData.intsShortAll 40 ps = true := by
    have := hk.1.1.2
    unfold PyData.intsShort at this
    exact this
  have h2 := PyData.shown_le 40 (by decide) (.tuple ps) (by
    unfold PyData.leavesShort
    refine leavesAll fun p hp => ?_
    rcases h p hp with h | rfl
    · exact PyData.leavesShort_of_canLay0 40 p h (intsAll hi p hp)
    · unfold PyData.leavesShort PyData.leavesShortKv; rfl)
  have h3 := hk.1.1.1
  rw [sizeLine_eq]
  omega
def repE (ds : List Dat) : Option Str := if ds.all scE && repOk (.tuple (ds.map pyE)) then some (PyData.tuple (ds.map pyE)).shown else none
def reprY : Dat → Option Str
  | .tuple ds => if ds.any dk0 then repE ds else reprX (.tuple ds)
  | d => reprX d
def rReprY (K : PySem.W.Frag) : List V → Hp → VK → Prop := fun xs H Q => rReprX K xs H Q ∨ ∃ (a : Addr) (ds : List Dat), xs = [.ref a] ∧ Dq K H (.ref a) (.tuple ds) ∧ ds.all scE = true ∧ repOk (.tuple (ds.map pyE)) = true ∧ Q (.str (PyData.tuple (ds.map pyE)).shown) H
theorem cl_reprY {X : Cx} {K : PySem.W.Frag} (hg : X.A.guards = some []) (hu : X.A.units + 64 < cLine) (hK : X.K = K) : CallR X (.builtin "repr") (rReprY K) := by
  intro pins s σ H xs us Q I r h
  rcases h with h | ⟨a, ds, rfl, hd, hs, hk, q⟩
  · exact cl_reprX hg hu hK pins s σ H xs us Q I r h
  · subst hK
    cases r with
    | cons r1 r2 =>
      cases r2
      obtain rfl := r1
      cases hd with
      | tup ht ha =>
        obtain ⟨its, rv, ⟨o, ho, hc, n, hdd⟩, _⟩ := I.tuple ht.sq
        obtain ⟨as, hr, hn⟩ := sc_readsAll I hs ha rv
        have hl := sc_layAll hs ha
        have h1 := fits_tupE hl hk
        simp [repOk] at hk
        exact repr_of_reads' (PySem.Reads.tuple ho hc hdd hr) hk.1.2 (fun _ => hn) hg (by have := hk.2; omega) (fun _ _ e => e) (fun h' u tk kp => ⟨.str _, H, I.kept kp, ⟨_, rfl⟩, q⟩) h1
section
variable {K : PySem.W.Frag} {σ : L2.St} {G M M1 : Hp} {ta : TE} {d : Dat}
theorem ev_reprY [Tb] {x : Str} (hx : reprY d = some x) (ha : EvA (tCons ta tNil) σ G M M1 (conP (DD K d) nilP)) : Ev (tCB (rReprY K) (tCons ta tNil)) σ G M M1 (DD K (.str x)) := by
  have old : reprX d = some x → Ev (tCB (rReprY K) (tCons ta tNil)) σ G M M1 (DD K (.str x)) := fun h => ev_cb ha fun xs G0 H s k hxs Q q => by
    obtain ⟨v, rfl, hv⟩ := one_of (R := nilP) hxs
    have e : Ev (tCB (rReprX K) (tCons (fun σ H Q => Q v H) tNil)) ([] : L2.St) G0 M1 M1 (DD K (.str x)) := ev_reprX (d := d) h (ea_cons mo_dd (fun G1 H1 s1 k1 Q1 q1 => q1 v G1 H1 (Same.refl _) k1 (dp_up s1 d hv)) ea_nil)
    have := e G0 H (Same.refl _) k Q q
    exact .inl this
  cases d with
  | tuple ds =>
    by_cases e : ds.any dk0 = true
    · have hx2 : repE ds = some x := by
        have hx : (if ds.any dk0 = true then repE ds else reprX (.tuple ds)) = some x := hx
        rw [if_pos e] at hx
        exact hx
      unfold repE at hx2
      split at hx2
      · next g =>
        cases hx2
        obtain ⟨g1, g2⟩ := Bool.and_eq_true_iff.mp g
        exact ev_cb ha fun xs G0 H s k hxs Q q => by
          obtain ⟨v, rfl, hv⟩ := one_of (R := nilP) hxs
          have hv0 := dp_up k.g _ hv
          cases hv with
          | tup ht hd =>
            have hl := sc_layAll g1 hd
            exact .inr ⟨_, ds, rfl, hv0, g1, g2, q _ G0 H (Same.refl _) k (.str (sgn_sok.mp (sgn_tupE hl)))⟩
      · cases hx2
    · refine old ?_
      have hx : (if ds.any dk0 = true then repE ds else reprX (.tuple ds)) = some x := hx
      rw [if_neg e] at hx
      exact hx
  | none => exact old hx
  | bool b => exact old hx
  | int b => exact old hx
  | str b => exact old hx
  | list b => exact old hx
  | rtup b => exact old hx
  | dK a b => exact old hx
  | dT a b => exact old hx
  | ins a b c => exact old hx
  | dN a b c => exact old hx
end
end Kx
end
section
set_option maxHeartbeats 4000000
namespace K51
open PySem L2 Kx
def topS (i : Nat) : Stmt := PySem.Challenge.pw_sincerung_k51_weights_of_any_kind.main.body.getD i (.Pass ⟨0, 0, 0, 0⟩)
abbrev s_is_whole : Stmt := topS 19
abbrev s_is_within : Stmt := topS 20
abbrev s_is_name : Stmt := topS 21
abbrev s_is_bell : Stmt := topS 23
abbrev s_check_bells : Stmt := topS 24
abbrev s_is_notch : Stmt := topS 25
abbrev s_check_notches : Stmt := topS 26
abbrev s_Peal___init__ : Stmt := inClass (topS 27) 0
abbrev s_check_peal : Stmt := topS 28
abbrev s_check_name : Stmt := topS 29
abbrev s_Peal_names : Stmt := inClass (topS 27) 1
abbrev s_Peal_notch : Stmt := inClass (topS 27) 3
abbrev s_ahead_in : Stmt := topS 32
abbrev s_dials_of : Stmt := topS 33
abbrev s_swing_of : Stmt := topS 34
abbrev s_twos : Stmt := topS 35
abbrev s_swings : Stmt := topS 36
abbrev s_shared : Stmt := topS 11
abbrev s_common : Stmt := topS 38
abbrev s_all_marks : Stmt := topS 40
abbrev s_comes_whole : Stmt := topS 41
abbrev s_are_weights : Stmt := topS 42
abbrev s_is_weights : Stmt := topS 43
abbrev s__law_opened : Stmt := topS 45
abbrev s__law_pull : Stmt := topS 46
abbrev s__law_spelt : Stmt := topS 47
abbrev s__law_calls : Stmt := topS 48
abbrev s__law_figure : Stmt := topS 49
abbrev s__law_kit : Stmt := topS 50
abbrev s__law_table : Stmt := topS 51
abbrev s__law_twos : Stmt := topS 52
abbrev s__law_made : Stmt := topS 53
abbrev s__law_shared : Stmt := topS 55
abbrev s__law_keeps : Stmt := topS 56
abbrev s__law_plain : Stmt := topS 58
abbrev s__law_whole : Stmt := topS 54
abbrev s__law_all : Stmt := topS 57
abbrev s__law_due : Stmt := topS 59
abbrev s__law_odd : Stmt := topS 60
abbrev s__law_told_right : Stmt := topS 61
abbrev s__law_none_right : Stmt := topS 62
abbrev s__law_great_right : Stmt := topS 63
abbrev s__law_right : Stmt := topS 64
abbrev s_law : Stmt := topS 65
abbrev eX_Peal (r : ((List (Str × Int)) × (List (Str × Str × Int)) × (List (Str × Int)) × (List ((Str × Str) × Int)))) : Dat := .ins "Peal" ["bells", "notches", "sizes", "turning"] [(eT (eP2 Dat.str Dat.int)) r.1, (eT (eP3 Dat.str Dat.str Dat.int)) r.2.1, (eDS Dat.int) r.2.2.1, (eDP Dat.int) r.2.2.2]
def kw_is_weights_thing_peal {α : Type} : List α → List α
  | [x0, x1] => [x1, x0]
  | _ => []
structure Txt (K : PySem.W.Frag) (mg : Str → Option Value) where
  a_is_whole : Addr
  d_is_whole : FuncData
  F_is_whole : Fun K "is_whole" "is_whole" s_is_whole a_is_whole d_is_whole
  b_is_whole : Binds K d_is_whole ["thing"] []
  g_is_whole : mg "is_whole" = some (.ref a_is_whole)
  a_is_within : Addr
  d_is_within : FuncData
  F_is_within : Fun K "is_within" "is_within" s_is_within a_is_within d_is_within
  b_is_within : Binds K d_is_within ["thing", "low", "high"] []
  g_is_within : mg "is_within" = some (.ref a_is_within)
  a_is_name : Addr
  d_is_name : FuncData
  F_is_name : Fun K "is_name" "is_name" s_is_name a_is_name d_is_name
  b_is_name : Binds K d_is_name ["thing"] []
  g_is_name : mg "is_name" = some (.ref a_is_name)
  a_is_bell : Addr
  d_is_bell : FuncData
  F_is_bell : Fun K "is_bell" "is_bell" s_is_bell a_is_bell d_is_bell
  b_is_bell : Binds K d_is_bell ["thing"] []
  g_is_bell : mg "is_bell" = some (.ref a_is_bell)
  a_check_bells : Addr
  d_check_bells : FuncData
  F_check_bells : Fun K "check_bells" "check_bells" s_check_bells a_check_bells d_check_bells
  b_check_bells : Binds K d_check_bells ["bells"] []
  g_check_bells : mg "check_bells" = some (.ref a_check_bells)
  a_is_notch : Addr
  d_is_notch : FuncData
  F_is_notch : Fun K "is_notch" "is_notch" s_is_notch a_is_notch d_is_notch
  b_is_notch : Binds K d_is_notch ["thing", "names"] []
  g_is_notch : mg "is_notch" = some (.ref a_is_notch)
  a_check_notches : Addr
  d_check_notches : FuncData
  F_check_notches : Fun K "check_notches" "check_notches" s_check_notches a_check_notches d_check_notches
  b_check_notches : Binds K d_check_notches ["notches", "names"] []
  g_check_notches : mg "check_notches" = some (.ref a_check_notches)
  a_Peal___init__ : Addr
  d_Peal___init__ : FuncData
  e_Peal___init__ : Addr
  F_Peal___init__ : FunT K "__init__" "Peal.__init__" s_Peal___init__ e_Peal___init__ a_Peal___init__ d_Peal___init__
  b_Peal___init__ : Binds K d_Peal___init__ ["self", "bells", "notches"] []
  mk_Peal : Mk K (clsAt K "Peal") a_Peal___init__
  a_check_peal : Addr
  d_check_peal : FuncData
  F_check_peal : Fun K "check_peal" "check_peal" s_check_peal a_check_peal d_check_peal
  b_check_peal : Binds K d_check_peal ["thing"] []
  g_check_peal : mg "check_peal" = some (.ref a_check_peal)
  a_check_name : Addr
  d_check_name : FuncData
  F_check_name : Fun K "check_name" "check_name" s_check_name a_check_name d_check_name
  b_check_name : Binds K d_check_name ["peal", "name"] []
  g_check_name : mg "check_name" = some (.ref a_check_name)
  a_Peal_names : Addr
  d_Peal_names : FuncData
  F_Peal_names : Fun K "names" "Peal.names" s_Peal_names a_Peal_names d_Peal_names
  b_Peal_names : Binds K d_Peal_names ["self"] []
  me_Peal_names : Meth K (clsAt K "Peal") "names" a_Peal_names
  a_Peal_notch : Addr
  d_Peal_notch : FuncData
  F_Peal_notch : Fun K "notch" "Peal.notch" s_Peal_notch a_Peal_notch d_Peal_notch
  b_Peal_notch : Binds K d_Peal_notch ["self", "name", "other"] []
  me_Peal_notch : Meth K (clsAt K "Peal") "notch" a_Peal_notch
  a_ahead_in : Addr
  d_ahead_in : FuncData
  F_ahead_in : Fun K "ahead_in" "ahead_in" s_ahead_in a_ahead_in d_ahead_in
  b_ahead_in : Binds K d_ahead_in ["row"] []
  g_ahead_in : mg "ahead_in" = some (.ref a_ahead_in)
  a_dials_of : Addr
  d_dials_of : FuncData
  F_dials_of : Fun K "dials_of" "dials_of" s_dials_of a_dials_of d_dials_of
  b_dials_of : Binds K d_dials_of ["peal", "turned"] []
  g_dials_of : mg "dials_of" = some (.ref a_dials_of)
  a_swing_of : Addr
  d_swing_of : FuncData
  F_swing_of : Fun K "swing_of" "swing_of" s_swing_of a_swing_of d_swing_of
  b_swing_of : Binds K d_swing_of ["peal", "name", "other"] []
  g_swing_of : mg "swing_of" = some (.ref a_swing_of)
  a_twos : Addr
  d_twos : FuncData
  F_twos : Fun K "twos" "twos" s_twos a_twos d_twos
  b_twos : Binds K d_twos ["peal"] []
  g_twos : mg "twos" = some (.ref a_twos)
  a_swings : Addr
  d_swings : FuncData
  F_swings : Fun K "swings" "swings" s_swings a_swings d_swings
  b_swings : Binds K d_swings ["peal"] []
  g_swings : mg "swings" = some (.ref a_swings)
  a_shared : Addr
  d_shared : FuncData
  F_shared : Fun K "shared" "shared" s_shared a_shared d_shared
  b_shared : Binds K d_shared ["one", "other"] []
  g_shared : mg "shared" = some (.ref a_shared)
  a_common : Addr
  d_common : FuncData
  F_common : Fun K "common" "common" s_common a_common d_common
  b_common : Binds K d_common ["numbers"] []
  g_common : mg "common" = some (.ref a_common)
  a_all_marks : Addr
  d_all_marks : FuncData
  F_all_marks : Fun K "all_marks" "all_marks" s_all_marks a_all_marks d_all_marks
  b_all_marks : Binds K d_all_marks ["peal"] []
  g_all_marks : mg "all_marks" = some (.ref a_all_marks)
  a_comes_whole : Addr
  d_comes_whole : FuncData
  F_comes_whole : Fun K "comes_whole" "comes_whole" s_comes_whole a_comes_whole d_comes_whole
  b_comes_whole : Binds K d_comes_whole ["moduli", "weights", "vector"] []
  g_comes_whole : mg "comes_whole" = some (.ref a_comes_whole)
  a_are_weights : Addr
  d_are_weights : FuncData
  F_are_weights : Fun K "are_weights" "are_weights" s_are_weights a_are_weights d_are_weights
  b_are_weights : Binds K d_are_weights ["peal", "thing"] []
  g_are_weights : mg "are_weights" = some (.ref a_are_weights)
  a_is_weights : Addr
  d_is_weights : FuncData
  F_is_weights : Fun K "is_weights" "is_weights" s_is_weights a_is_weights d_is_weights
  b_is_weights : Binds K d_is_weights ["peal", "thing"] []
  g_is_weights : mg "is_weights" = some (.ref a_is_weights)
  a__law_opened : Addr
  d__law_opened : FuncData
  F__law_opened : Fun K "_law_opened" "_law_opened" s__law_opened a__law_opened d__law_opened
  b__law_opened : Binds K d__law_opened ["_law_script", "_law_k"] []
  g__law_opened : mg "_law_opened" = some (.ref a__law_opened)
  a__law_pull : Addr
  d__law_pull : FuncData
  F__law_pull : Fun K "_law_pull" "_law_pull" s__law_pull a__law_pull d__law_pull
  b__law_pull : Binds K d__law_pull ["_law_store", "_law_many"] []
  g__law_pull : mg "_law_pull" = some (.ref a__law_pull)
  a__law_spelt : Addr
  d__law_spelt : FuncData
  F__law_spelt : Fun K "_law_spelt" "_law_spelt" s__law_spelt a__law_spelt d__law_spelt
  b__law_spelt : Binds K d__law_spelt ["_law_figure_here", "_law_wide"] []
  g__law_spelt : mg "_law_spelt" = some (.ref a__law_spelt)
  a__law_calls : Addr
  d__law_calls : FuncData
  F__law_calls : Fun K "_law_calls" "_law_calls" s__law_calls a__law_calls d__law_calls
  b__law_calls : Binds K d__law_calls ["_law_store", "_law_many"] []
  g__law_calls : mg "_law_calls" = some (.ref a__law_calls)
  a__law_figure : Addr
  d__law_figure : FuncData
  F__law_figure : Fun K "_law_figure" "_law_figure" s__law_figure a__law_figure d__law_figure
  b__law_figure : Binds K d__law_figure ["_law_store", "_law_mode", "_law_size"] []
  g__law_figure : mg "_law_figure" = some (.ref a__law_figure)
  a__law_kit : Addr
  d__law_kit : FuncData
  F__law_kit : Fun K "_law_kit" "_law_kit" s__law_kit a__law_kit d__law_kit
  b__law_kit : Binds K d__law_kit ["_law_store", "_law_upto", "_law_most"] []
  g__law_kit : mg "_law_kit" = some (.ref a__law_kit)
  a__law_table : Addr
  d__law_table : FuncData
  F__law_table : Fun K "_law_table" "_law_table" s__law_table a__law_table d__law_table
  b__law_table : Binds K d__law_table ["_law_kit_here"] []
  g__law_table : mg "_law_table" = some (.ref a__law_table)
  a__law_twos : Addr
  d__law_twos : FuncData
  F__law_twos : Fun K "_law_twos" "_law_twos" s__law_twos a__law_twos d__law_twos
  b__law_twos : Binds K d__law_twos ["_law_kit_here"] []
  g__law_twos : mg "_law_twos" = some (.ref a__law_twos)
  a__law_made : Addr
  d__law_made : FuncData
  F__law_made : Fun K "_law_made" "_law_made" s__law_made a__law_made d__law_made
  b__law_made : Binds K d__law_made ["_law_kit_here"] []
  g__law_made : mg "_law_made" = some (.ref a__law_made)
  a__law_shared : Addr
  d__law_shared : FuncData
  F__law_shared : Fun K "_law_shared" "_law_shared" s__law_shared a__law_shared d__law_shared
  b__law_shared : Binds K d__law_shared ["_law_first", "_law_second"] []
  g__law_shared : mg "_law_shared" = some (.ref a__law_shared)
  a__law_keeps : Addr
  d__law_keeps : FuncData
  F__law_keeps : Fun K "_law_keeps" "_law_keeps" s__law_keeps a__law_keeps d__law_keeps
  b__law_keeps : Binds K d__law_keeps ["_law_kit_here", "_law_table_here", "_law_some"] []
  g__law_keeps : mg "_law_keeps" = some (.ref a__law_keeps)
  a__law_plain : Addr
  d__law_plain : FuncData
  F__law_plain : Fun K "_law_plain" "_law_plain" s__law_plain a__law_plain d__law_plain
  b__law_plain : Binds K d__law_plain ["_law_store", "_law_kit_here", "_law_table_here"] []
  g__law_plain : mg "_law_plain" = some (.ref a__law_plain)
  a__law_whole : Addr
  d__law_whole : FuncData
  F__law_whole : Fun K "_law_whole" "_law_whole" s__law_whole a__law_whole d__law_whole
  b__law_whole : Binds K d__law_whole ["_law_part"] []
  g__law_whole : mg "_law_whole" = some (.ref a__law_whole)
  a__law_all : Addr
  d__law_all : FuncData
  F__law_all : Fun K "_law_all" "_law_all" s__law_all a__law_all d__law_all
  b__law_all : Binds K d__law_all ["_law_kit_here"] []
  g__law_all : mg "_law_all" = some (.ref a__law_all)
  a__law_due : Addr
  d__law_due : FuncData
  F__law_due : Fun K "_law_due" "_law_due" s__law_due a__law_due d__law_due
  b__law_due : Binds K d__law_due ["_law_kit_here", "_law_table_here", "_law_some"] []
  g__law_due : mg "_law_due" = some (.ref a__law_due)
  a__law_odd : Addr
  d__law_odd : FuncData
  F__law_odd : Fun K "_law_odd" "_law_odd" s__law_odd a__law_odd d__law_odd
  b__law_odd : Binds K d__law_odd ["_law_store", "_law_kit_here", "_law_some"] []
  g__law_odd : mg "_law_odd" = some (.ref a__law_odd)
  a__law_told_right : Addr
  d__law_told_right : FuncData
  F__law_told_right : Fun K "_law_told_right" "_law_told_right" s__law_told_right a__law_told_right d__law_told_right
  b__law_told_right : Binds K d__law_told_right ["_law_kit_here", "_law_table_here", "_law_made_here", "_law_some"] []
  g__law_told_right : mg "_law_told_right" = some (.ref a__law_told_right)
  a__law_none_right : Addr
  d__law_none_right : FuncData
  F__law_none_right : Fun K "_law_none_right" "_law_none_right" s__law_none_right a__law_none_right d__law_none_right
  b__law_none_right : Binds K d__law_none_right ["_law_kit_here", "_law_some"] []
  g__law_none_right : mg "_law_none_right" = some (.ref a__law_none_right)
  a__law_great_right : Addr
  d__law_great_right : FuncData
  F__law_great_right : Fun K "_law_great_right" "_law_great_right" s__law_great_right a__law_great_right d__law_great_right
  b__law_great_right : Binds K d__law_great_right ["_law_store"] []
  g__law_great_right : mg "_law_great_right" = some (.ref a__law_great_right)
  a__law_right : Addr
  d__law_right : FuncData
  F__law_right : Fun K "_law_right" "_law_right" s__law_right a__law_right d__law_right
  b__law_right : Binds K d__law_right ["_law_store"] []
  g__law_right : mg "_law_right" = some (.ref a__law_right)
  a_law : Addr
  d_law : FuncData
  F_law : Fun K "law" "law" s_law a_law d_law
  b_law : Binds K d_law ["_law_script"] []
  g_law : mg "law" = some (.ref a_law)
  cl_Peal : Cls K (clsAt K "Peal")
  co_Peal : ClsOk K (clsAt K "Peal")
  cn_Peal : ClsNo K (clsAt K "Peal")
  ki_Peal : PySem.W.kitOne K (.ref (clsAt K "Peal")) (.ref (clsAt K "Peal")) = some true
  mg_Peal : mg "Peal" = some (.ref (clsAt K "Peal"))
  na_Peal_bells : NoAttr K (clsAt K "Peal") "bells"
  na_Peal_notches : NoAttr K (clsAt K "Peal") "notches"
  na_Peal_sizes : NoAttr K (clsAt K "Peal") "sizes"
  na_Peal_turning : NoAttr K (clsAt K "Peal") "turning"
  ci_Peal : ClsIs K (clsAt K "Peal")
  mc_BellError : mg "BellError" = some (.ref (clsAt K "BellError"))
  mc_NoPeal : mg "NoPeal" = some (.ref (clsAt K "NoPeal"))
  mc_NoWeights : mg "NoWeights" = some (.ref (clsAt K "NoWeights"))
  em_NoPeal_BellError : PySem.W.exmOne K (.ref (clsAt K "NoPeal")) (.ref (clsAt K "BellError")) = some true
  ec_NoPeal : L2.ExcC K (clsAt K "NoPeal")
  kx_NoPeal_NoPeal : PySem.W.kitOne K (.ref (clsAt K "NoPeal")) (.ref (clsAt K "NoPeal")) = some true
  kx_NoPeal_NoWeights : PySem.W.kitOne K (.ref (clsAt K "NoPeal")) (.ref (clsAt K "NoWeights")) = some false
  mx_NoPeal : mg "NoPeal" = some (.ref (clsAt K "NoPeal"))
  xi_NoPeal : PySem.W.excIn K (clsAt K "NoPeal") [.type "ValueError", .type "Exception", .type "BaseException", .type "object"] "ValueError.__new__" = true
  xk_NoPeal : PySem.W.keepIn K (.ref (clsAt K "NoPeal")) = true
  xb_NoPeal : PySem.W.subIn K (.ref (clsAt K "NoPeal")) (.type "BaseException") = some true
  xt_NoPeal : PySem.W.typeIn K (.ref (clsAt K "NoPeal")) = some (.type "type")
  kb_is_weights_thing_peal : KBw K d_is_weights ["peal", "thing"] ["thing", "peal"] @kw_is_weights_thing_peal
  n_int : mg "int" = none
  n_isinstance : mg "isinstance" = none
  n_bool : mg "bool" = none
  n_str : mg "str" = none
  n_len : mg "len" = none
  n_all : mg "all" = none
  n_tuple : mg "tuple" = none
  n_enumerate : mg "enumerate" = none
  n_dict : mg "dict" = none
  n_zip : mg "zip" = none
  n_sum : mg "sum" = none
  n_abs : mg "abs" = none
  n_divmod : mg "divmod" = none
  n_range : mg "range" = none
  n_sorted : mg "sorted" = none
  n_list : mg "list" = none
  n_repr : mg "repr" = none
  n_min : mg "min" = none
  n_max : mg "max" = none
  t_MOST_LETTERS : Tok
  c_MOST_LETTERS : mg "MOST_LETTERS" = some (.int 6 t_MOST_LETTERS)
  t_LETTERS : Tok
  c_LETTERS : mg "LETTERS" = some (.str "abcdefghijklmnopqrstuvwxyz" t_LETTERS)
  t_LEAST_MARKS : Tok
  c_LEAST_MARKS : mg "LEAST_MARKS" = some (.int 2 t_LEAST_MARKS)
  t_MOST_MARKS : Tok
  c_MOST_MARKS : mg "MOST_MARKS" = some (.int 24 t_MOST_MARKS)
  t_MOST_BELLS : Tok
  c_MOST_BELLS : mg "MOST_BELLS" = some (.int 8 t_MOST_BELLS)
  t_MOST_NUMBER : Tok
  c_MOST_NUMBER : mg "MOST_NUMBER" = some (.int 99 t_MOST_NUMBER)
/-! ### is_whole -/
theorem sc_is_whole : FnScope ["thing"] ["thing"] (defScope s_is_whole) := ⟨rfl, rfl, rfl, by decide +kernel, rfl, by decide +kernel, by decide +kernel⟩
def a_is_whole (K : PySem.W.Frag) (a : Int) : List V → Hp → Prop := conP (DD K (Dat.int a)) (nilP)
def m_is_whole (a : Int) : Option Bool :=
  some (true && (!false))
abbrev sp_is_whole [Tb] (K : PySem.W.Frag) : Sp := spP (a_is_whole K) (m_is_whole) fun r => DD K (Dat.bool r)
theorem ok_is_whole [Tb] {P : Program} {w : World} {K : PySem.W.Frag} {mg : Str → Option Value} {base : Heap} (T : Txt K mg) : FnOk P w K mg base CX0 (1) T.a_is_whole T.d_is_whole ["thing"] (sp_is_whole K) := by
  refine T.F_is_whole.ok sc_is_whole (fun vs H Q E h => ?_) (fun cdv A outer s0 H vs Q E hr h => ?_)
  · obtain ⟨G, M0, a, r, ok, ⟨v_thing, _, rfl, h_thing, rfl⟩, hm, q⟩ := h
    rfl
  · obtain ⟨G, M0, a, r, ok, ⟨v_thing, _, rfl, h_thing, rfl⟩, hm, q⟩ := h
    unfold m_is_whole at hm
    have sg := Same.refl G
    have hB := Same.refl M0
    refine ⟨_, (pss_cons (ps_ret (pe_and (pe_callB (call_isiKK (K := K)) (by rfl) T.n_isinstance (by decide +kernel) (pa_cons (pv 0) (pa_cons (pe_bltn (v := .ty "int") (by rfl) T.n_int (by decide +kernel) rfl) pa_nil))) (pe_one (pe_not (pe_callB (call_isiKK (K := K)) (by rfl) T.n_isinstance (by decide +kernel) (pa_cons (pv 0) (pa_cons (pe_bltn (v := .ty "bool") (by rfl) T.n_bool (by decide +kernel) rfl) pa_nil))))))) pss_nil), ?_⟩
    cases h_thing
    refine nrm (σ' := [some (.int a)]) rfl ?_
    refine q_ret (ev_and (ev_isi (d := Dat.int a) (n := "int") (b := true) rfl (show kitB "int" "int" = some true by decide +kernel) (ea_d (ev_d (K := K) rfl (.int _)) (ea_cons mo_cls ev_cls ea_nil))) fun _ => (ev_not (ev_isi (d := Dat.int a) (n := "bool") (b := false) rfl (show kitB "int" "bool" = some false by decide +kernel) (ea_d (ev_d (K := K) rfl (.int _)) (ea_cons mo_cls ev_cls ea_nil))))) ok (fun v G H s1 ok hv => ?_)
    have sg := sg.trans s1
    cases hm
    exact q v G H sg (ok.less hB) hv
/-! ### is_whole_2 -/
def a_is_whole_2 (K : PySem.W.Frag) (a : Dat) : List V → Hp → Prop := conP (DD K (id a)) (nilP)
def m_is_whole_2 (a : Dat) : Option Bool :=
  (isO1 "Peal" isI a).bind fun t1 => (cond t1 ((isO1 "Peal" isB a).bind fun t2 => some (!t2)) (some false)).bind fun t3 => some t3
abbrev sp_is_whole_2 [Tb] (K : PySem.W.Frag) : Sp := spP (a_is_whole_2 K) (m_is_whole_2) fun r => DD K (Dat.bool r)
theorem ok_is_whole_2 [Tb] {P : Program} {w : World} {K : PySem.W.Frag} {mg : Str → Option Value} {base : Heap} (T : Txt K mg) : FnOk P w K mg base CX0 (1) T.a_is_whole T.d_is_whole ["thing"] (sp_is_whole_2 K) := by
  refine T.F_is_whole.ok sc_is_whole (fun vs H Q E h => ?_) (fun cdv A outer s0 H vs Q E hr h => ?_)
  · obtain ⟨G, M0, a, r, ok, ⟨v_thing, _, rfl, h_thing, rfl⟩, hm, q⟩ := h
    rfl
  · obtain ⟨G, M0, a, r, ok, ⟨v_thing, _, rfl, h_thing, rfl⟩, hm, q⟩ := h
    unfold m_is_whole_2 at hm
    have sg := Same.refl G
    have hB := Same.refl M0
    refine ⟨_, (pss_cons (ps_ret (pe_and (pe_callB (call_isiKK (K := K)) (by rfl) T.n_isinstance (by decide +kernel) (pa_cons (pv 0) (pa_cons (pe_bltn (v := .ty "int") (by rfl) T.n_int (by decide +kernel) rfl) pa_nil))) (pe_one (pe_not (pe_callB (call_isiKK (K := K)) (by rfl) T.n_isinstance (by decide +kernel) (pa_cons (pv 0) (pa_cons (pe_bltn (v := .ty "bool") (by rfl) T.n_bool (by decide +kernel) rfl) pa_nil))))))) pss_nil), ?_⟩
    refine nrm (σ' := [some v_thing]) rfl ?_
    obtain ⟨t1, e_t1, hm⟩ := bs hm
    obtain ⟨t3, e_t3, hm⟩ := bs hm
    refine q_ret (ev_andG (c := t3) (ev_isiD1 isc_I isn_I T.co_Peal (kn_I T.cn_Peal) e_t1 (ea_d (ev_d (K := K) rfl h_thing) (ea_cons mo_cls ev_cls ea_nil))) (fun eb => by have e1 := cond_t eb e_t3; (obtain ⟨t2, e_t2, e1⟩ := bs e1); (have e1 := Option.some.inj e1); subst e1; exact (ev_not (ev_isiD1 isc_B isn_B T.co_Peal (kn_B T.cn_Peal) e_t2 (ea_d (ev_d (K := K) rfl h_thing) (ea_cons mo_cls ev_cls ea_nil))))) (fun eb => by have e1 := cond_f eb e_t3; cases e1; exact ⟨rfl, rfl⟩)) ok (fun v G H s1 ok hv => ?_)
    have sg := sg.trans s1
    cases hm
    exact q v G H sg (ok.less hB) hv
/-! ### is_within -/
theorem sc_is_within : FnScope ["thing", "low", "high"] ["thing", "low", "high"] (defScope s_is_within) := ⟨rfl, rfl, rfl, by decide +kernel, rfl, by decide +kernel, by decide +kernel⟩
def a_is_within (K : PySem.W.Frag) (a : Int × Int × Int) : List V → Hp → Prop := conP (DD K (Dat.int a.1)) (conP (DD K (Dat.int a.2.1)) (conP (DD K (Dat.int a.2.2)) (nilP)))
def m_is_within (a : Int × Int × Int) : Option Bool :=
  (m_is_whole a.1).bind fun t1 => some (t1 && ((decide (a.2.1 ≤ a.1)) && (decide (a.1 ≤ a.2.2))))
abbrev sp_is_within [Tb] (K : PySem.W.Frag) : Sp := spP (a_is_within K) (m_is_within) fun r => DD K (Dat.bool r)
theorem ok_is_within [Tb] {P : Program} {w : World} {K : PySem.W.Frag} {mg : Str → Option Value} {base : Heap} (T : Txt K mg) (O_is_whole : FnOk P w K mg base CX0 1 T.a_is_whole T.d_is_whole ["thing"] (sp_is_whole K)) : FnOk P w K mg base CX0 (2) T.a_is_within T.d_is_within ["thing", "low", "high"] (sp_is_within K) := by
  refine T.F_is_within.ok sc_is_within (fun vs H Q E h => ?_) (fun cdv A outer s0 H vs Q E hr h => ?_)
  · obtain ⟨G, M0, a, r, ok, ⟨v_thing, _, rfl, h_thing, v_low, _, rfl, h_low, v_high, _, rfl, h_high, rfl⟩, hm, q⟩ := h
    rfl
  · obtain ⟨G, M0, a, r, ok, ⟨v_thing, _, rfl, h_thing, v_low, _, rfl, h_low, v_high, _, rfl, h_high, rfl⟩, hm, q⟩ := h
    unfold m_is_within at hm
    have sg := Same.refl G
    have hB := Same.refl M0
    refine ⟨_, (pss_cons (ps_ret (pe_and (pe_call O_is_whole (hr.mono (by decide)) (by rfl) T.g_is_whole T.F_is_whole.kp T.b_is_whole .nil pass0 (pa_cons (pv 0) pa_nil)) (pe_one (pe_chain op_le op_le (pv 1) (pv 0) (pv 2))))) pss_nil), ?_⟩
    cases h_thing
    cases h_low
    cases h_high
    refine nrm (σ' := [some (.int a.1), some (.int a.2.1), some (.int a.2.2)]) rfl ?_
    obtain ⟨t1, e_t1, hm⟩ := bs hm
    refine q_ret (ev_and (ev_callP (res := fun r => DD K (Dat.bool r)) (a := a.1) e_t1 (ea_d (ev_d (K := K) rfl (.int _)) ea_nil)) fun _ => (ev_chainI (ev_d (K := K) rfl (.int _)) (ev_d (K := K) rfl (.int _)) (ev_d (K := K) rfl (.int _)))) ok (fun v G H s1 ok hv => ?_)
    have sg := sg.trans s1
    cases hm
    exact q v G H sg (ok.less hB) hv
/-! ### is_within_2 -/
def a_is_within_2 (K : PySem.W.Frag) (a : Dat × Int × Int) : List V → Hp → Prop := conP (DD K (id a.1)) (conP (DD K (Dat.int a.2.1)) (conP (DD K (Dat.int a.2.2)) (nilP)))
def m_is_within_2 (a : Dat × Int × Int) : Option Bool :=
  (m_is_whole_2 a.1).bind fun t1 => (cond t1 ((intD a.1).bind fun t2 => some ((decide (a.2.1 ≤ t2)) && (decide (t2 ≤ a.2.2)))) (some false)).bind fun t3 => some t3
abbrev sp_is_within_2 [Tb] (K : PySem.W.Frag) : Sp := spP (a_is_within_2 K) (m_is_within_2) fun r => DD K (Dat.bool r)
theorem ok_is_within_2 [Tb] {P : Program} {w : World} {K : PySem.W.Frag} {mg : Str → Option Value} {base : Heap} (T : Txt K mg) (O_is_whole_2 : FnOk P w K mg base CX0 1 T.a_is_whole T.d_is_whole ["thing"] (sp_is_whole_2 K)) : FnOk P w K mg base CX0 (2) T.a_is_within T.d_is_within ["thing", "low", "high"] (sp_is_within_2 K) := by
  refine T.F_is_within.ok sc_is_within (fun vs H Q E h => ?_) (fun cdv A outer s0 H vs Q E hr h => ?_)
  · obtain ⟨G, M0, a, r, ok, ⟨v_thing, _, rfl, h_thing, v_low, _, rfl, h_low, v_high, _, rfl, h_high, rfl⟩, hm, q⟩ := h
    rfl
  · obtain ⟨G, M0, a, r, ok, ⟨v_thing, _, rfl, h_thing, v_low, _, rfl, h_low, v_high, _, rfl, h_high, rfl⟩, hm, q⟩ := h
    unfold m_is_within_2 at hm
    have sg := Same.refl G
    have hB := Same.refl M0
    refine ⟨_, (pss_cons (ps_ret (pe_and (pe_call O_is_whole_2 (hr.mono (by decide)) (by rfl) T.g_is_whole T.F_is_whole.kp T.b_is_whole .nil pass0 (pa_cons (pv 0) pa_nil)) (pe_one (pe_chain op_le op_le (pv 1) (pv 0) (pv 2))))) pss_nil), ?_⟩
    cases h_low
    cases h_high
    refine nrm (σ' := [some v_thing, some (.int a.2.1), some (.int a.2.2)]) rfl ?_
    obtain ⟨t1, e_t1, hm⟩ := bs hm
    obtain ⟨t3, e_t3, hm⟩ := bs hm
    refine q_ret (ev_andG (c := t3) (ev_callP (res := fun r => DD K (Dat.bool r)) (a := a.1) e_t1 (ea_d (ev_d (K := K) rfl h_thing) ea_nil)) (fun eb => by have e1 := cond_t eb e_t3; (obtain ⟨t2, e_t2, e1⟩ := bs e1); (have e1 := Option.some.inj e1); subst e1; exact (ev_chainI (ev_d (K := K) rfl (.int _)) (ev_intD e_t2 (ev_d (K := K) rfl h_thing)) (ev_d (K := K) rfl (.int _)))) (fun eb => by have e1 := cond_f eb e_t3; cases e1; exact ⟨rfl, rfl⟩)) ok (fun v G H s1 ok hv => ?_)
    have sg := sg.trans s1
    cases hm
    exact q v G H sg (ok.less hB) hv
/-! ### is_name -/
theorem sc_is_name : FnScope ["thing", "sign"] ["thing"] (defScope s_is_name) := ⟨rfl, rfl, rfl, by decide +kernel, rfl, by decide +kernel, by decide +kernel⟩
def a_is_name (K : PySem.W.Frag) (a : Str) : List V → Hp → Prop := conP (DD K (Dat.str a)) (nilP)
def m_is_name (a : Str) : Option Bool :=
  (cond (!true) (some true) ((lenS a).bind fun t1 => some (!((decide ((1 : Int) ≤ t1)) && (decide (t1 ≤ (6 : Int))))))).bind fun t2 => cond t2 (some false) ((lcO (fun x3 : Str => (inSign x3 (Str.ofString "abcdefghijklmnopqrstuvwxyz")).bind fun t9 => some t9) (signs a)).bind fun t10 => some (t10.all id))
abbrev sp_is_name [Tb] (K : PySem.W.Frag) : Sp := spP (a_is_name K) (m_is_name) fun r => DD K (Dat.bool r)
theorem ok_is_name [Tb] {P : Program} {w : World} {K : PySem.W.Frag} {mg : Str → Option Value} {base : Heap} (T : Txt K mg) : FnOk P w K mg base CX0 (1) T.a_is_name T.d_is_name ["thing"] (sp_is_name K) := by
  refine T.F_is_name.ok sc_is_name (fun vs H Q E h => ?_) (fun cdv A outer s0 H vs Q E hr h => ?_)
  · obtain ⟨G, M0, a, r, ok, ⟨v_thing, _, rfl, h_thing, rfl⟩, hm, q⟩ := h
    rfl
  · obtain ⟨G, M0, a, r, ok, ⟨v_thing, _, rfl, h_thing, rfl⟩, hm, q⟩ := h
    unfold m_is_name at hm
    have sg := Same.refl G
    have hB := Same.refl M0
    refine ⟨_, (pss_cons (ps_if (PW.pt (pw_or (pt_not (pt_val (pe_callB (call_isiKK (K := K)) (by rfl) T.n_isinstance (by decide +kernel) (pa_cons (pv 0) (pa_cons (pe_bltn (v := .ty "str") (by rfl) T.n_str (by decide +kernel) rfl) pa_nil))))) (pw_or1 (pt_not (pt_chain op_le op_le pe_int (pe_callB cl_lenS (by rfl) T.n_len (by decide +kernel) (pa_cons (pv 0) pa_nil)) (pe_glob (v := .int 6) (by rfl) T.c_MOST_LETTERS ⟨_, rfl⟩)))))) (pss_cons (ps_ret pe_bl) pss_nil) pss_nil) (pss_cons (ps_ret (pe_callB (cr_allK (K := K) rfl) (by rfl) T.n_all (by decide +kernel) (pa_cons (pe_lc (own := [("sign", 1)]) (g := (gName 1)) (tt := tYes) rfl sc_is_name.nd (pi_str (pv 0)) (blkOk_by (own := [("sign", 1)]) (N := ["thing", "sign"]) (sc := defScope s_is_name) (by decide +kernel)) (fun _ _ _ _ _ => (pg_name (i := 1) sc_is_name.nd rfl (by first | exact .inl rfl | exact .inr rfl))) (fun _ _ _ _ _ => pts_nil) (fun _ _ _ _ _ => (pe_cmpR op_in_sign (pv 1) (pe_glob (v := .str "abcdefghijklmnopqrstuvwxyz") (by rfl) T.c_LETTERS ⟨_, rfl⟩) (by rfl)))) pa_nil))) pss_nil)), ?_⟩
    refine nrm (σ' := [some v_thing, none]) rfl ?_
    obtain ⟨t2, e_t2, hm⟩ := bs hm
    refine q_if (et_orG (c := t2) (et_not (et_B (ev_isi (d := Dat.str a) (n := "str") (b := true) rfl (show kitB "str" "str" = some true by decide +kernel) (ea_d (ev_d (K := K) rfl h_thing) (ea_cons mo_cls ev_cls ea_nil))))) (fun eb => by have e1 := cond_f eb e_t2; (obtain ⟨t1, e_t1, e1⟩ := bs e1); (have e1 := Option.some.inj e1); subst e1; exact (et_not (et_test (ev_chainI (ev_int (K := K)) (ev_lenS e_t1 (ea_d (ev_d (K := K) rfl h_thing) ea_nil)) (ev_int (K := K)))))) (fun eb => by have e1 := cond_t eb e_t2; cases e1; exact ⟨rfl, rfl⟩)) ok (fun hb G H s1 ok => ?_) (fun hb G H s1 ok => ?_)
    · have hm := cond_t hb hm
      have h_thing := dp_up s1 _ h_thing
      have sg := sg.trans s1
      refine q_ret (ev_bl (K := K)) ok (fun v G H s1 ok hv => ?_)
      have sg := sg.trans s1
      cases hm
      exact q v G H sg (ok.less hB) hv
    · have hm := cond_f hb hm
      have h_thing := dp_up s1 _ h_thing
      have sg := sg.trans s1
      refine q_nilU ?_
      obtain ⟨t10, e_t10, hm⟩ := bs hm
      refine q_ret (ev_allL (ea_d (EvL.ev (el_lcM (ea := Dat.str) (eb := Dat.bool) (xs := (signs a)) (ys := t10) (hf := e_t10) (Src.is (src_str (ev_d (K := K) rfl h_thing)) signs_map) (fun x3 _ Mx7 _ _ he8 sM6 sG5 hv4 => by (obtain ⟨t9, e_t9, he8⟩ := bs he8); (have he8 := Option.some.inj he8); subst he8; exact (tg_name ⟨rfl, (ev_inSign e_t9 (ev_d (K := K) rfl hv4) (ev_str (K := K) (by decide +kernel)))⟩)))) ea_nil)) ok (fun v G H s1 ok hv => ?_)
      have sg := sg.trans s1
      cases hm
      exact q v G H sg (ok.less hB) hv
/-! ### is_name_2 -/
def a_is_name_2 (K : PySem.W.Frag) (a : Dat) : List V → Hp → Prop := conP (DD K (id a)) (nilP)
def m_is_name_2 (a : Dat) : Option Bool :=
  (isO1 "Peal" isS a).bind fun t1 => (cond (!t1) (some true) ((strD a).bind fun t2 => (lenS t2).bind fun t3 => some (!((decide ((1 : Int) ≤ t3)) && (decide (t3 ≤ (6 : Int))))))).bind fun t4 => cond t4 (some false) ((strD a).bind fun t5 => (lcO (fun x6 : Str => (inSign x6 (Str.ofString "abcdefghijklmnopqrstuvwxyz")).bind fun t12 => some t12) (signs t5)).bind fun t13 => some (t13.all id))
abbrev sp_is_name_2 [Tb] (K : PySem.W.Frag) : Sp := spP (a_is_name_2 K) (m_is_name_2) fun r => DD K (Dat.bool r)
theorem ok_is_name_2 [Tb] {P : Program} {w : World} {K : PySem.W.Frag} {mg : Str → Option Value} {base : Heap} (T : Txt K mg) : FnOk P w K mg base CX0 (1) T.a_is_name T.d_is_name ["thing"] (sp_is_name_2 K) := by
  refine T.F_is_name.ok sc_is_name (fun vs H Q E h => ?_) (fun cdv A outer s0 H vs Q E hr h => ?_)
  · obtain ⟨G, M0, a, r, ok, ⟨v_thing, _, rfl, h_thing, rfl⟩, hm, q⟩ := h
    rfl
  · obtain ⟨G, M0, a, r, ok, ⟨v_thing, _, rfl, h_thing, rfl⟩, hm, q⟩ := h
    unfold m_is_name_2 at hm
    have sg := Same.refl G
    have hB := Same.refl M0
    refine ⟨_, (pss_cons (ps_if (PW.pt (pw_or (pt_not (pt_val (pe_callB (call_isiKK (K := K)) (by rfl) T.n_isinstance (by decide +kernel) (pa_cons (pv 0) (pa_cons (pe_bltn (v := .ty "str") (by rfl) T.n_str (by decide +kernel) rfl) pa_nil))))) (pw_or1 (pt_not (pt_chain op_le op_le pe_int (pe_callB cl_lenS (by rfl) T.n_len (by decide +kernel) (pa_cons (pv 0) pa_nil)) (pe_glob (v := .int 6) (by rfl) T.c_MOST_LETTERS ⟨_, rfl⟩)))))) (pss_cons (ps_ret pe_bl) pss_nil) pss_nil) (pss_cons (ps_ret (pe_callB (cr_allK (K := K) rfl) (by rfl) T.n_all (by decide +kernel) (pa_cons (pe_lc (own := [("sign", 1)]) (g := (gName 1)) (tt := tYes) rfl sc_is_name.nd (pi_str (pv 0)) (blkOk_by (own := [("sign", 1)]) (N := ["thing", "sign"]) (sc := defScope s_is_name) (by decide +kernel)) (fun _ _ _ _ _ => (pg_name (i := 1) sc_is_name.nd rfl (by first | exact .inl rfl | exact .inr rfl))) (fun _ _ _ _ _ => pts_nil) (fun _ _ _ _ _ => (pe_cmpR op_in_sign (pv 1) (pe_glob (v := .str "abcdefghijklmnopqrstuvwxyz") (by rfl) T.c_LETTERS ⟨_, rfl⟩) (by rfl)))) pa_nil))) pss_nil)), ?_⟩
    refine nrm (σ' := [some v_thing, none]) rfl ?_
    obtain ⟨t1, e_t1, hm⟩ := bs hm
    obtain ⟨t4, e_t4, hm⟩ := bs hm
    refine q_if (et_orG (c := t4) (et_not (et_B (ev_isiD1 isc_S isn_S T.co_Peal (kn_S T.cn_Peal) e_t1 (ea_d (ev_d (K := K) rfl h_thing) (ea_cons mo_cls ev_cls ea_nil))))) (fun eb => by have e1 := cond_f eb e_t4; (obtain ⟨t2, e_t2, e1⟩ := bs e1); (obtain ⟨t3, e_t3, e1⟩ := bs e1); (have e1 := Option.some.inj e1); subst e1; exact (et_not (et_test (ev_chainI (ev_int (K := K)) (ev_lenS e_t3 (ea_d (ev_strD e_t2 (ev_d (K := K) rfl h_thing)) ea_nil)) (ev_int (K := K)))))) (fun eb => by have e1 := cond_t eb e_t4; cases e1; exact ⟨rfl, rfl⟩)) ok (fun hb G H s1 ok => ?_) (fun hb G H s1 ok => ?_)
    · have hm := cond_t hb hm
      have h_thing := dp_up s1 _ h_thing
      have sg := sg.trans s1
      refine q_ret (ev_bl (K := K)) ok (fun v G H s1 ok hv => ?_)
      have sg := sg.trans s1
      cases hm
      exact q v G H sg (ok.less hB) hv
    · have hm := cond_f hb hm
      have h_thing := dp_up s1 _ h_thing
      have sg := sg.trans s1
      refine q_nilU ?_
      obtain ⟨t5, e_t5, hm⟩ := bs hm
      obtain ⟨t13, e_t13, hm⟩ := bs hm
      refine q_ret (ev_allL (ea_d (EvL.ev (el_lcM (ea := Dat.str) (eb := Dat.bool) (xs := (signs t5)) (ys := t13) (hf := e_t13) (Src.is (src_str (ev_strD e_t5 (ev_d (K := K) rfl h_thing))) signs_map) (fun x6 _ Mx10 _ _ he11 sM9 sG8 hv7 => by (obtain ⟨t12, e_t12, he11⟩ := bs he11); (have he11 := Option.some.inj he11); subst he11; exact (tg_name ⟨rfl, (ev_inSign e_t12 (ev_d (K := K) rfl hv7) (ev_str (K := K) (by decide +kernel)))⟩)))) ea_nil)) ok (fun v G H s1 ok hv => ?_)
      have sg := sg.trans s1
      cases hm
      exact q v G H sg (ok.less hB) hv
/-! ### is_bell -/
theorem sc_is_bell : FnScope ["thing"] ["thing"] (defScope s_is_bell) := ⟨rfl, rfl, rfl, by decide +kernel, rfl, by decide +kernel, by decide +kernel⟩
def a_is_bell (K : PySem.W.Frag) (a : (Str × Int)) : List V → Hp → Prop := conP (DD K ((eP2 Dat.str Dat.int) a)) (nilP)
def m_is_bell (a : (Str × Int)) : Option Bool :=
  cond ((!true) || (!decide ((2 : Int) = (2 : Int)))) (some false) ((m_is_name a.1).bind fun t1 => (cond t1 ((m_is_within (a.2, (2 : Int), (24 : Int))).bind fun t2 => some t2) (some false)).bind fun t3 => some t3)
abbrev sp_is_bell [Tb] (K : PySem.W.Frag) : Sp := spP (a_is_bell K) (m_is_bell) fun r => DD K (Dat.bool r)
theorem ok_is_bell [Tb] {P : Program} {w : World} {K : PySem.W.Frag} {mg : Str → Option Value} {base : Heap} (T : Txt K mg) (O_is_name : FnOk P w K mg base CX0 1 T.a_is_name T.d_is_name ["thing"] (sp_is_name K)) (O_is_within : FnOk P w K mg base CX0 2 T.a_is_within T.d_is_within ["thing", "low", "high"] (sp_is_within K)) : FnOk P w K mg base CX0 (3) T.a_is_bell T.d_is_bell ["thing"] (sp_is_bell K) := by
  refine T.F_is_bell.ok sc_is_bell (fun vs H Q E h => ?_) (fun cdv A outer s0 H vs Q E hr h => ?_)
  · obtain ⟨G, M0, a, r, ok, ⟨v_thing, _, rfl, h_thing, rfl⟩, hm, q⟩ := h
    rfl
  · obtain ⟨G, M0, a, r, ok, ⟨v_thing, _, rfl, h_thing, rfl⟩, hm, q⟩ := h
    unfold m_is_bell at hm
    have sg := Same.refl G
    have hB := Same.refl M0
    refine ⟨_, (pss_cons (ps_if (PW.pt (pw_or (pt_not (pt_val (pe_callB (call_isiKK (K := K)) (by rfl) T.n_isinstance (by decide +kernel) (pa_cons (pv 0) (pa_cons (pe_bltn (v := .ty "tuple") (by rfl) T.n_tuple (by decide +kernel) rfl) pa_nil))))) (pw_or1 (pt_cmpR op_ne (pe_callB (cl_lenK (K := K)) (by rfl) T.n_len (by decide +kernel) (pa_cons (pv 0) pa_nil)) pe_int (nomark _))))) (pss_cons (ps_ret pe_bl) pss_nil) pss_nil) (pss_cons (ps_ret (pe_and (pe_call O_is_name (hr.mono (by decide)) (by rfl) T.g_is_name T.F_is_name.kp T.b_is_name .nil pass0 (pa_cons (pe_ix (ix_tupK (K := K)) (pv 0) pe_int (fun _ _ => rfl)) pa_nil)) (pe_one (pe_call O_is_within (hr.mono (by decide)) (by rfl) T.g_is_within T.F_is_within.kp T.b_is_within .nil pass0 (pa_cons (pe_ix (ix_tupK (K := K)) (pv 0) pe_int (fun _ _ => rfl)) (pa_cons (pe_glob (v := .int 2) (by rfl) T.c_LEAST_MARKS ⟨_, rfl⟩) (pa_cons (pe_glob (v := .int 24) (by rfl) T.c_MOST_MARKS ⟨_, rfl⟩) pa_nil))))))) pss_nil)), ?_⟩
    refine nrm (σ' := [some v_thing]) rfl ?_
    refine q_if (et_or (et_not (et_B (ev_isi (d := (eP2 Dat.str Dat.int) a) (n := "tuple") (b := true) rfl (show kitB "tuple" "tuple" = some true by decide +kernel) (ea_d (ev_d (K := K) rfl h_thing) (ea_cons mo_cls ev_cls ea_nil))))) fun _ => (et_test (ev_neI (ev_lenT (ea_d (ev_d (K := K) rfl h_thing) ea_nil)) (ev_int (K := K))))) ok (fun hb G H s1 ok => ?_) (fun hb G H s1 ok => ?_)
    · have hm := cond_t hb hm
      have h_thing := dp_up s1 _ h_thing
      have sg := sg.trans s1
      refine q_ret (ev_bl (K := K)) ok (fun v G H s1 ok hv => ?_)
      have sg := sg.trans s1
      cases hm
      exact q v G H sg (ok.less hB) hv
    · have hm := cond_f hb hm
      have h_thing := dp_up s1 _ h_thing
      have sg := sg.trans s1
      refine q_nilU ?_
      obtain ⟨t1, e_t1, hm⟩ := bs hm
      obtain ⟨t3, e_t3, hm⟩ := bs hm
      refine q_ret (ev_andG (c := t3) (ev_callP (res := fun r => DD K (Dat.bool r)) (a := a.1) e_t1 (ea_d (ev_ixT (d := Dat.str a.1) rfl (ev_d (K := K) rfl h_thing) ev_int) ea_nil)) (fun eb => by have e1 := cond_t eb e_t3; (obtain ⟨t2, e_t2, e1⟩ := bs e1); (have e1 := Option.some.inj e1); subst e1; exact (ev_callP (res := fun r => DD K (Dat.bool r)) (a := (a.2, (2 : Int), (24 : Int))) e_t2 (ea_d (ev_ixT (d := Dat.int a.2) rfl (ev_d (K := K) rfl h_thing) ev_int) (ea_d (ev_int (K := K)) (ea_d (ev_int (K := K)) ea_nil))))) (fun eb => by have e1 := cond_f eb e_t3; cases e1; exact ⟨rfl, rfl⟩)) ok (fun v G H s1 ok hv => ?_)
      have sg := sg.trans s1
      cases hm
      exact q v G H sg (ok.less hB) hv
/-! ### check_bells -/
theorem sc_check_bells : FnScope ["bells", "place", "bell"] ["bells"] (defScope s_check_bells) := ⟨rfl, rfl, rfl, by decide +kernel, rfl, by decide +kernel, by decide +kernel⟩
def a_check_bells (K : PySem.W.Frag) (a : (List (Str × Int))) : List V → Hp → Prop := conP (DD K ((eT (eP2 Dat.str Dat.int)) a)) (nilP)
def m_check_bells (a : (List (Str × Int))) : Option Unit :=
  cond ((!true) || (!((decide ((1 : Int) ≤ (a.length : Int))) && (decide ((a.length : Int) ≤ (8 : Int)))))) (none) ((forO (fun (st2 : Unit) (x3 : (Int × (Str × Int))) => (m_is_bell x3.2).bind fun t12 => (cond (!t12) (some true) ((cond (decide ((0 : Int) < x3.1)) ((atI a (x3.1 - (1 : Int))).bind fun t13 => some (!sLt t13.1 x3.2.1)) (some false)).bind fun t14 => some t14)).bind fun t15 => cond t15 (none) (some ())) (enum a) ()).bind fun fin1 => some ())
abbrev sp_check_bells [Tb] (K : PySem.W.Frag) : Sp := spP (a_check_bells K) (m_check_bells) fun r => DD K (eN r)
theorem ok_check_bells [Tb] {P : Program} {w : World} {K : PySem.W.Frag} {mg : Str → Option Value} {base : Heap} (T : Txt K mg) (O_is_bell : FnOk P w K mg base CX0 3 T.a_is_bell T.d_is_bell ["thing"] (sp_is_bell K)) : FnOk P w K mg base CX0 (4) T.a_check_bells T.d_check_bells ["bells"] (sp_check_bells K) := by
  refine T.F_check_bells.ok sc_check_bells (fun vs H Q E h => ?_) (fun cdv A outer s0 H vs Q E hr h => ?_)
  · obtain ⟨G, M0, a, r, ok, ⟨v_bells, _, rfl, h_bells, rfl⟩, hm, q⟩ := h
    rfl
  · obtain ⟨G, M0, a, r, ok, ⟨v_bells, _, rfl, h_bells, rfl⟩, hm, q⟩ := h
    unfold m_check_bells at hm
    have sg := Same.refl G
    have hB := Same.refl M0
    refine ⟨_, (pss_cons (ps_if (PW.pt (pw_or (pt_not (pt_val (pe_callB (call_isiKK (K := K)) (by rfl) T.n_isinstance (by decide +kernel) (pa_cons (pv 0) (pa_cons (pe_bltn (v := .ty "tuple") (by rfl) T.n_tuple (by decide +kernel) rfl) pa_nil))))) (pw_or1 (pt_not (pt_chain op_le op_le pe_int (pe_callB (cl_lenK (K := K)) (by rfl) T.n_len (by decide +kernel) (pa_cons (pv 0) pa_nil)) (pe_glob (v := .int 8) (by rfl) T.c_MOST_BELLS ⟨_, rfl⟩)))))) (pss_cons ps_never pss_nil) pss_nil) (pss_cons (ps_for PassesOwn.never rfl (pi_enumTK (K := K) (by rfl) T.n_enumerate (pa_cons (pv 0) pa_nil)) (pg_tup rfl (pgs_cons (pg_name (i := 1) sc_check_bells.nd rfl (.inl rfl)) (pgs_cons (pg_name (i := 2) sc_check_bells.nd rfl (.inl rfl)) pgs_nil))) (pss_cons (ps_if (PW.pt (pw_or (pt_not (pt_val (pe_call O_is_bell (hr.mono (by decide)) (by rfl) T.g_is_bell T.F_is_bell.kp T.b_is_bell .nil pass0 (pa_cons (pv 2) pa_nil)))) (pw_or1 (PW.pt (pw_and (pt_cmpR op_gt (pv 1) pe_int (nomark _)) (pw_and1 (pt_cmpR op_le_str (pe_ix (ix_tupK (K := K)) (pv 2) pe_int (fun _ _ => rfl)) (pe_ix (ix_tupK (K := K)) (pe_ix (ix_tupK (K := K)) (pv 0) (pe_op op_sub (pv 1) pe_int) (fun _ _ => rfl)) pe_int (fun _ _ => rfl)) (nomark _)))))))) (pss_cons ps_never pss_nil) pss_nil) pss_nil)) pss_nil)), ?_⟩
    refine nrm (σ' := [some v_bells, none, none]) rfl ?_
    refine q_if (et_or (et_not (et_B (ev_isi (d := (eT (eP2 Dat.str Dat.int)) a) (n := "tuple") (b := true) rfl (show kitB "tuple" "tuple" = some true by decide +kernel) (ea_d (ev_d (K := K) rfl h_bells) (ea_cons mo_cls ev_cls ea_nil))))) fun _ => (et_not (et_test (ev_chainI (ev_int (K := K)) (ev_lenTM (e := (eP2 Dat.str Dat.int)) (ea_d (ev_d (K := K) rfl h_bells) ea_nil)) (ev_int (K := K)))))) ok (fun hb G H s1 ok => ?_) (fun hb G H s1 ok => ?_)
    · have hm := cond_t hb hm
      have h_bells := dp_up s1 _ h_bells
      have sg := sg.trans s1
      cases hm
    · have hm := cond_f hb hm
      have h_bells := dp_up s1 _ h_bells
      have sg := sg.trans s1
      refine q_nilU ?_
      obtain ⟨fin1, e_fin1, hm⟩ := bs hm
      have hmo4 := hm
      refine q_forO (ea := (eR2 Dat.int (eP2 Dat.str Dat.int))) (Src.is (src_enumT (ea_d (ev_d (K := K) rfl h_bells) ea_nil)) enumD_map) ok (fun (st2 : Unit) σ1 G1 M1 => ∃ (y_place : Option V) (y_bell : Option V), σ1 = [some v_bells, y_place, y_bell] ∧ (Same M0 M1)) e_fin1 (fun G1 s1 => ⟨_, _, rfl, hB⟩) (by rintro _ _ _ _ _ ⟨y_place, y_bell, rfl, hB⟩ s2; exact ⟨_, _, rfl, hB⟩) (fun x3 xv6 st2 st' σ1 G M H N hm hj s1 ok hv hN => ?_) (fun σ1 G M H s1 ok hj => ?_)
      · obtain ⟨y_place, y_bell, rfl, hB⟩ := hj
        have h_bells := dp_up s1 _ h_bells
        have sg := sg.trans s1
        have sl7 := Same.refl G
        refine gr2 hv ok.g (fun w8 w9 hw10 hw11 => ?_)
        refine gn ?_
        have h_place := hw10
        cases h_place
        refine gn ?_
        have h_bell := hw11
        refine nrm (σ' := [some v_bells, some (.int x3.1), some w9]) rfl ?_
        obtain ⟨t12, e_t12, hm⟩ := bs hm
        obtain ⟨t15, e_t15, hm⟩ := bs hm
        refine q_if (et_orG (c := t15) (et_not (et_B (ev_callP (res := fun r => DD K (Dat.bool r)) (a := x3.2) e_t12 (ea_d (ev_d (K := K) rfl h_bell) ea_nil)))) (fun eb => by have e1 := cond_f eb e_t15; (obtain ⟨t14, e_t14, e1⟩ := bs e1); (have e1 := Option.some.inj e1); subst e1; exact (et_andG (c := t14) (et_test (ev_gt (ev_d (K := K) rfl (.int _)) (ev_int (K := K)))) (fun eb => by have e1 := cond_t eb e_t14; (obtain ⟨t13, e_t13, e1⟩ := bs e1); (have e1 := Option.some.inj e1); subst e1; exact (et_test (ev_leS (ev_ixT (d := Dat.str x3.2.1) rfl (ev_d (K := K) rfl h_bell) ev_int) (ev_ixT (d := Dat.str t13.1) rfl (ev_ixTM (e := (eP2 Dat.str Dat.int)) e_t13 (ev_d (K := K) rfl h_bells) (ev_sub (ev_d (K := K) rfl (.int _)) (ev_int (K := K)))) ev_int)))) (fun eb => by have e1 := cond_f eb e_t14; cases e1; exact ⟨rfl, rfl⟩))) (fun eb => by have e1 := cond_t eb e_t15; cases e1; exact ⟨rfl, rfl⟩)) ok (fun hb G H s1 ok => ?_) (fun hb G H s1 ok => ?_)
        · have hm := cond_t hb hm
          have h_bells := dp_up s1 _ h_bells
          have h_bell := dp_up s1 _ h_bell
          have sg := sg.trans s1
          have sl7 := sl7.trans s1
          cases hm
        · have hm := cond_f hb hm
          have h_bells := dp_up s1 _ h_bells
          have h_bell := dp_up s1 _ h_bell
          have sg := sg.trans s1
          have sl7 := sl7.trans s1
          refine q_nilU ?_
          refine q_nil ?_
          cases hm
          exact hN _ _ _ _ sl7 ok ⟨_, _, rfl, hB⟩
      · obtain ⟨y_place, y_bell, rfl, hB⟩ := hj
        have h_bells := dp_up s1 _ h_bells
        have sg := sg.trans s1
        refine q_nil ?_
        cases hm
        exact q _ _ _ sg (ok.less hB) .non
/-! ### is_notch -/
theorem sc_is_notch : FnScope ["thing", "names", "part"] ["thing", "names"] (defScope s_is_notch) := ⟨rfl, rfl, rfl, by decide +kernel, rfl, by decide +kernel, by decide +kernel⟩
def a_is_notch (K : PySem.W.Frag) (a : (Str × Str × Int) × (List Str)) : List V → Hp → Prop := conP (DD K ((eP3 Dat.str Dat.str Dat.int) a.1)) (conP (DD K ((eL Dat.str) a.2)) (nilP))
def m_is_notch (a : (Str × Str × Int) × (List Str)) : Option Bool :=
  cond ((!true) || (!decide ((3 : Int) = (3 : Int)))) (some false) ((lcO (fun x1 : Str => (m_is_name x1).bind fun t7 => some (t7 && (memB x1 a.2))) [(a.1.1, a.1.2.1).1, (a.1.1, a.1.2.1).2]).bind fun t8 => cond (!(t8.all id)) (some false) ((cond (!decide (a.1.1 = a.1.2.1)) ((m_is_within (a.1.2.2, (1 : Int), (99 : Int))).bind fun t9 => some t9) (some false)).bind fun t10 => some t10))
abbrev sp_is_notch [Tb] (K : PySem.W.Frag) : Sp := spP (a_is_notch K) (m_is_notch) fun r => DD K (Dat.bool r)
theorem ok_is_notch [Tb] {P : Program} {w : World} {K : PySem.W.Frag} {mg : Str → Option Value} {base : Heap} (T : Txt K mg) (O_is_name : FnOk P w K mg base CX0 1 T.a_is_name T.d_is_name ["thing"] (sp_is_name K)) (O_is_within : FnOk P w K mg base CX0 2 T.a_is_within T.d_is_within ["thing", "low", "high"] (sp_is_within K)) : FnOk P w K mg base CX0 (3) T.a_is_notch T.d_is_notch ["thing", "names"] (sp_is_notch K) := by
  refine T.F_is_notch.ok sc_is_notch (fun vs H Q E h => ?_) (fun cdv A outer s0 H vs Q E hr h => ?_)
  · obtain ⟨G, M0, a, r, ok, ⟨v_thing, _, rfl, h_thing, v_names, _, rfl, h_names, rfl⟩, hm, q⟩ := h
    rfl
  · obtain ⟨G, M0, a, r, ok, ⟨v_thing, _, rfl, h_thing, v_names, _, rfl, h_names, rfl⟩, hm, q⟩ := h
    unfold m_is_notch at hm
    have sg := Same.refl G
    have hB := Same.refl M0
    refine ⟨_, (pss_cons (ps_if (PW.pt (pw_or (pt_not (pt_val (pe_callB (call_isiKK (K := K)) (by rfl) T.n_isinstance (by decide +kernel) (pa_cons (pv 0) (pa_cons (pe_bltn (v := .ty "tuple") (by rfl) T.n_tuple (by decide +kernel) rfl) pa_nil))))) (pw_or1 (pt_cmpR op_ne (pe_callB (cl_lenK (K := K)) (by rfl) T.n_len (by decide +kernel) (pa_cons (pv 0) pa_nil)) pe_int (nomark _))))) (pss_cons (ps_ret pe_bl) pss_nil) pss_nil) (pss_cons (ps_if (pt_not (pt_val (pe_callB (cr_allK (K := K) rfl) (by rfl) T.n_all (by decide +kernel) (pa_cons (pe_lc (own := [("part", 2)]) (g := (gName 2)) (tt := tYes) rfl sc_is_notch.nd (pi_tupK (K := K) (pe_slice (sl_tupK (K := K)) (pv 0) po_none (po_some pe_int))) (blkOk_by (own := [("part", 2)]) (N := ["thing", "names", "part"]) (sc := defScope s_is_notch) (by decide +kernel)) (fun _ _ _ _ _ => (pg_name (i := 2) sc_is_notch.nd rfl (by first | exact .inl rfl | exact .inr rfl))) (fun _ _ _ _ _ => pts_nil) (fun _ _ _ _ _ => (pe_and (pe_call O_is_name (hr.mono (by decide)) (by rfl) T.g_is_name T.F_is_name.kp T.b_is_name .nil pass0 (pa_cons (pv 2) pa_nil)) (pe_one (pe_cmpR (op_inSK (K := K)) (pv 2) (pv 1) (by rfl)))))) pa_nil)))) (pss_cons (ps_ret pe_bl) pss_nil) pss_nil) (pss_cons (ps_ret (pe_and (pe_cmpR op_ne (pe_ix (ix_tupK (K := K)) (pv 0) pe_int (fun _ _ => rfl)) (pe_ix (ix_tupK (K := K)) (pv 0) pe_int (fun _ _ => rfl)) (nomark _)) (pe_one (pe_call O_is_within (hr.mono (by decide)) (by rfl) T.g_is_within T.F_is_within.kp T.b_is_within .nil pass0 (pa_cons (pe_ix (ix_tupK (K := K)) (pv 0) pe_int (fun _ _ => rfl)) (pa_cons pe_int (pa_cons (pe_glob (v := .int 99) (by rfl) T.c_MOST_NUMBER ⟨_, rfl⟩) pa_nil))))))) pss_nil))), ?_⟩
    refine nrm (σ' := [some v_thing, some v_names, none]) rfl ?_
    refine q_if (et_or (et_not (et_B (ev_isi (d := (eP3 Dat.str Dat.str Dat.int) a.1) (n := "tuple") (b := true) rfl (show kitB "tuple" "tuple" = some true by decide +kernel) (ea_d (ev_d (K := K) rfl h_thing) (ea_cons mo_cls ev_cls ea_nil))))) fun _ => (et_test (ev_neI (ev_lenT (ea_d (ev_d (K := K) rfl h_thing) ea_nil)) (ev_int (K := K))))) ok (fun hb G H s1 ok => ?_) (fun hb G H s1 ok => ?_)
    · have hm := cond_t hb hm
      have h_thing := dp_up s1 _ h_thing
      have h_names := dp_up s1 _ h_names
      have sg := sg.trans s1
      refine q_ret (ev_bl (K := K)) ok (fun v G H s1 ok hv => ?_)
      have sg := sg.trans s1
      cases hm
      exact q v G H sg (ok.less hB) hv
    · have hm := cond_f hb hm
      have h_thing := dp_up s1 _ h_thing
      have h_names := dp_up s1 _ h_names
      have sg := sg.trans s1
      refine q_nilU ?_
      obtain ⟨t8, e_t8, hm⟩ := bs hm
      refine q_if (et_not (et_B (ev_allL (ea_d (EvL.ev (el_lcM (ea := Dat.str) (eb := Dat.bool) (xs := [(a.1.1, a.1.2.1).1, (a.1.1, a.1.2.1).2]) (ys := t8) (hf := e_t8) (Src.is (src_tup (ev_is (ev_slT (ev_d (K := K) rfl h_thing) eo_none (eo_some (ev_int (K := K)))) rfl)) rfl) (fun x1 _ Mx5 _ _ he6 sM4 sG3 hv2 => by (obtain ⟨t7, e_t7, he6⟩ := bs he6); cases he6; exact (tg_name ⟨rfl, (ev_and (ev_callP (res := fun r => DD K (Dat.bool r)) (a := x1) e_t7 (ea_d (ev_d (K := K) rfl hv2) ea_nil)) fun _ => (ev_inS (k := false) (xs := a.2) (ev_d (K := K) rfl hv2) (ev_d (K := K) rfl (dp_up sG3 _ h_names))))⟩)))) ea_nil)))) ok (fun hb G H s1 ok => ?_) (fun hb G H s1 ok => ?_)
      · have hm := cond_t hb hm
        have h_thing := dp_up s1 _ h_thing
        have h_names := dp_up s1 _ h_names
        have sg := sg.trans s1
        refine q_ret (ev_bl (K := K)) ok (fun v G H s1 ok hv => ?_)
        have sg := sg.trans s1
        cases hm
        exact q v G H sg (ok.less hB) hv
      · have hm := cond_f hb hm
        have h_thing := dp_up s1 _ h_thing
        have h_names := dp_up s1 _ h_names
        have sg := sg.trans s1
        refine q_nilU ?_
        obtain ⟨t10, e_t10, hm⟩ := bs hm
        refine q_ret (ev_andG (c := t10) (ev_neS (ev_ixT (d := Dat.str a.1.1) rfl (ev_d (K := K) rfl h_thing) ev_int) (ev_ixT (d := Dat.str a.1.2.1) rfl (ev_d (K := K) rfl h_thing) ev_int)) (fun eb => by have e1 := cond_t eb e_t10; (obtain ⟨t9, e_t9, e1⟩ := bs e1); (have e1 := Option.some.inj e1); subst e1; exact (ev_callP (res := fun r => DD K (Dat.bool r)) (a := (a.1.2.2, (1 : Int), (99 : Int))) e_t9 (ea_d (ev_ixT (d := Dat.int a.1.2.2) rfl (ev_d (K := K) rfl h_thing) ev_int) (ea_d (ev_int (K := K)) (ea_d (ev_int (K := K)) ea_nil))))) (fun eb => by have e1 := cond_f eb e_t10; cases e1; exact ⟨rfl, rfl⟩)) ok (fun v G H s1 ok hv => ?_)
        have sg := sg.trans s1
        cases hm
        exact q v G H sg (ok.less hB) hv
/-! ### check_notches -/
theorem sc_check_notches : FnScope ["notches", "names", "place", "notch"] ["notches", "names"] (defScope s_check_notches) := ⟨rfl, rfl, rfl, by decide +kernel, rfl, by decide +kernel, by decide +kernel⟩
def a_check_notches (K : PySem.W.Frag) (a : (List (Str × Str × Int)) × (List Str)) : List V → Hp → Prop := conP (DD K ((eT (eP3 Dat.str Dat.str Dat.int)) a.1)) (conP (DD K ((eL Dat.str) a.2)) (nilP))
def m_check_notches (a : (List (Str × Str × Int)) × (List Str)) : Option Unit :=
  cond (!true) (none) ((forO (fun (st2 : Unit) (x3 : (Int × (Str × Str × Int))) => (m_is_notch (x3.2, a.2)).bind fun t12 => (cond (!t12) (some true) ((cond (decide ((0 : Int) < x3.1)) ((atI a.1 (x3.1 - (1 : Int))).bind fun t13 => some (!ltP (t13.1, t13.2.1) (x3.2.1, x3.2.2.1))) (some false)).bind fun t14 => some t14)).bind fun t15 => cond t15 (none) (some ())) (enum a.1) ()).bind fun fin1 => some ())
abbrev sp_check_notches [Tb] (K : PySem.W.Frag) : Sp := spP (a_check_notches K) (m_check_notches) fun r => DD K (eN r)
theorem ok_check_notches [Tb] {P : Program} {w : World} {K : PySem.W.Frag} {mg : Str → Option Value} {base : Heap} (T : Txt K mg) (O_is_notch : FnOk P w K mg base CX0 3 T.a_is_notch T.d_is_notch ["thing", "names"] (sp_is_notch K)) : FnOk P w K mg base CX0 (4) T.a_check_notches T.d_check_notches ["notches", "names"] (sp_check_notches K) := by
  refine T.F_check_notches.ok sc_check_notches (fun vs H Q E h => ?_) (fun cdv A outer s0 H vs Q E hr h => ?_)
  · obtain ⟨G, M0, a, r, ok, ⟨v_notches, _, rfl, h_notches, v_names, _, rfl, h_names, rfl⟩, hm, q⟩ := h
    rfl
  · obtain ⟨G, M0, a, r, ok, ⟨v_notches, _, rfl, h_notches, v_names, _, rfl, h_names, rfl⟩, hm, q⟩ := h
    unfold m_check_notches at hm
    have sg := Same.refl G
    have hB := Same.refl M0
    refine ⟨_, (pss_cons (ps_if (pt_not (pt_val (pe_callB (call_isiKK (K := K)) (by rfl) T.n_isinstance (by decide +kernel) (pa_cons (pv 0) (pa_cons (pe_bltn (v := .ty "tuple") (by rfl) T.n_tuple (by decide +kernel) rfl) pa_nil))))) (pss_cons ps_never pss_nil) pss_nil) (pss_cons (ps_for PassesOwn.never rfl (pi_enumTK (K := K) (by rfl) T.n_enumerate (pa_cons (pv 0) pa_nil)) (pg_tup rfl (pgs_cons (pg_name (i := 2) sc_check_notches.nd rfl (.inl rfl)) (pgs_cons (pg_name (i := 3) sc_check_notches.nd rfl (.inl rfl)) pgs_nil))) (pss_cons (ps_if (PW.pt (pw_or (pt_not (pt_val (pe_call O_is_notch (hr.mono (by decide)) (by rfl) T.g_is_notch T.F_is_notch.kp T.b_is_notch .nil pass0 (pa_cons (pv 3) (pa_cons (pv 1) pa_nil))))) (pw_or1 (PW.pt (pw_and (pt_cmpR op_gt (pv 2) pe_int (nomark _)) (pw_and1 (pt_cmpR (op_leD (K := K) hr.units) (pe_slice (sl_tupK (K := K)) (pv 3) po_none (po_some pe_int)) (pe_slice (sl_tupK (K := K)) (pe_ix (ix_tupK (K := K)) (pv 0) (pe_op op_sub (pv 2) pe_int) (fun _ _ => rfl)) po_none (po_some pe_int)) (nomark _)))))))) (pss_cons ps_never pss_nil) pss_nil) pss_nil)) pss_nil)), ?_⟩
    refine nrm (σ' := [some v_notches, some v_names, none, none]) rfl ?_
    refine q_if (et_not (et_B (ev_isi (d := (eT (eP3 Dat.str Dat.str Dat.int)) a.1) (n := "tuple") (b := true) rfl (show kitB "tuple" "tuple" = some true by decide +kernel) (ea_d (ev_d (K := K) rfl h_notches) (ea_cons mo_cls ev_cls ea_nil))))) ok (fun hb G H s1 ok => ?_) (fun hb G H s1 ok => ?_)
    · have hm := cond_t hb hm
      have h_notches := dp_up s1 _ h_notches
      have h_names := dp_up s1 _ h_names
      have sg := sg.trans s1
      cases hm
    · have hm := cond_f hb hm
      have h_notches := dp_up s1 _ h_notches
      have h_names := dp_up s1 _ h_names
      have sg := sg.trans s1
      refine q_nilU ?_
      obtain ⟨fin1, e_fin1, hm⟩ := bs hm
      have hmo4 := hm
      refine q_forO (ea := (eR2 Dat.int (eP3 Dat.str Dat.str Dat.int))) (Src.is (src_enumT (ea_d (ev_d (K := K) rfl h_notches) ea_nil)) enumD_map) ok (fun (st2 : Unit) σ1 G1 M1 => ∃ (y_place : Option V) (y_notch : Option V), σ1 = [some v_notches, some v_names, y_place, y_notch] ∧ (Same M0 M1)) e_fin1 (fun G1 s1 => ⟨_, _, rfl, hB⟩) (by rintro _ _ _ _ _ ⟨y_place, y_notch, rfl, hB⟩ s2; exact ⟨_, _, rfl, hB⟩) (fun x3 xv6 st2 st' σ1 G M H N hm hj s1 ok hv hN => ?_) (fun σ1 G M H s1 ok hj => ?_)
      · obtain ⟨y_place, y_notch, rfl, hB⟩ := hj
        have h_notches := dp_up s1 _ h_notches
        have h_names := dp_up s1 _ h_names
        have sg := sg.trans s1
        have sl7 := Same.refl G
        refine gr2 hv ok.g (fun w8 w9 hw10 hw11 => ?_)
        refine gn ?_
        have h_place := hw10
        cases h_place
        refine gn ?_
        have h_notch := hw11
        refine nrm (σ' := [some v_notches, some v_names, some (.int x3.1), some w9]) rfl ?_
        obtain ⟨t12, e_t12, hm⟩ := bs hm
        obtain ⟨t15, e_t15, hm⟩ := bs hm
        refine q_if (et_orG (c := t15) (et_not (et_B (ev_callP (res := fun r => DD K (Dat.bool r)) (a := (x3.2, a.2)) e_t12 (ea_d (ev_d (K := K) rfl h_notch) (ea_d (ev_d (K := K) rfl h_names) ea_nil))))) (fun eb => by have e1 := cond_f eb e_t15; (obtain ⟨t14, e_t14, e1⟩ := bs e1); (have e1 := Option.some.inj e1); subst e1; exact (et_andG (c := t14) (et_test (ev_gt (ev_d (K := K) rfl (.int _)) (ev_int (K := K)))) (fun eb => by have e1 := cond_t eb e_t14; (obtain ⟨t13, e_t13, e1⟩ := bs e1); (have e1 := Option.some.inj e1); subst e1; exact (et_test (ev_leP (a := (x3.2.1, x3.2.2.1)) (b := (t13.1, t13.2.1)) (ev_is (ev_slT (ev_d (K := K) rfl h_notch) eo_none (eo_some (ev_int (K := K)))) rfl) (ev_is (ev_slT (ev_ixTM (e := (eP3 Dat.str Dat.str Dat.int)) e_t13 (ev_d (K := K) rfl h_notches) (ev_sub (ev_d (K := K) rfl (.int _)) (ev_int (K := K)))) eo_none (eo_some (ev_int (K := K)))) rfl)))) (fun eb => by have e1 := cond_f eb e_t14; cases e1; exact ⟨rfl, rfl⟩))) (fun eb => by have e1 := cond_t eb e_t15; cases e1; exact ⟨rfl, rfl⟩)) ok (fun hb G H s1 ok => ?_) (fun hb G H s1 ok => ?_)
        · have hm := cond_t hb hm
          have h_notches := dp_up s1 _ h_notches
          have h_names := dp_up s1 _ h_names
          have h_notch := dp_up s1 _ h_notch
          have sg := sg.trans s1
          have sl7 := sl7.trans s1
          cases hm
        · have hm := cond_f hb hm
          have h_notches := dp_up s1 _ h_notches
          have h_names := dp_up s1 _ h_names
          have h_notch := dp_up s1 _ h_notch
          have sg := sg.trans s1
          have sl7 := sl7.trans s1
          refine q_nilU ?_
          refine q_nil ?_
          cases hm
          exact hN _ _ _ _ sl7 ok ⟨_, _, rfl, hB⟩
      · obtain ⟨y_place, y_notch, rfl, hB⟩ := hj
        have h_notches := dp_up s1 _ h_notches
        have h_names := dp_up s1 _ h_names
        have sg := sg.trans s1
        refine q_nil ?_
        cases hm
        exact q _ _ _ sg (ok.less hB) .non
/-! ### Peal___init__ -/
theorem sc_Peal___init__ : FnScope ["self", "bells", "notches", "name", "other", "number", "bell"] ["self", "bells", "notches"] (defScope s_Peal___init__) := ⟨rfl, rfl, rfl, by decide +kernel, rfl, by decide +kernel, by decide +kernel⟩
def a_Peal___init__ (K : PySem.W.Frag) (a : (List (Str × Int)) × (List (Str × Str × Int))) : List V → Hp → Prop := conP (DD K ((eT (eP2 Dat.str Dat.int)) a.1)) (conP (DD K ((eT (eP3 Dat.str Dat.str Dat.int)) a.2)) (nilP))
def m_Peal___init__ (a : (List (Str × Int)) × (List (Str × Str × Int))) : Option ((List (Str × Int)) × (List (Str × Str × Int)) × (List (Str × Int)) × (List ((Str × Str) × Int))) :=
  (m_check_bells a.1).bind fun t1 => (lcO (fun x2 : (Str × Int) => some x2.1) a.1).bind fun t8 => (m_check_notches (a.2, t8)).bind fun t9 => (dictO a.1).bind fun t10 => (dcO (fun x11 : (Str × Str × Int) => some ((x11.1, x11.2.1), x11.2.2)) a.2).bind fun t20 => some (a.1, a.2, t10, t20)
abbrev sp_Peal___init__ [Tb] (K : PySem.W.Frag) : Sp := spI K (clsAt K "Peal") ["bells", "notches", "sizes", "turning"] (fun r => [(eT (eP2 Dat.str Dat.int)) r.1, (eT (eP3 Dat.str Dat.str Dat.int)) r.2.1, (eDS Dat.int) r.2.2.1, (eDP Dat.int) r.2.2.2]) (a_Peal___init__ K) m_Peal___init__
theorem ok_Peal___init__ [Tb] {P : Program} {w : World} {K : PySem.W.Frag} {mg : Str → Option Value} {base : Heap} (T : Txt K mg) (O_check_bells : FnOk P w K mg base CX0 4 T.a_check_bells T.d_check_bells ["bells"] (sp_check_bells K)) (O_check_notches : FnOk P w K mg base CX0 4 T.a_check_notches T.d_check_notches ["notches", "names"] (sp_check_notches K)) : FnOk P w K mg base CX0 (5) T.a_Peal___init__ T.d_Peal___init__ ["self", "bells", "notches"] (sp_Peal___init__ K) := by
  refine T.F_Peal___init__.ex.ok sc_Peal___init__ (fun vs H Q E h => ?_) (fun cdv A outer s0 H vs Q E hr h => ?_)
  · obtain ⟨G, M0, x, dx, ws, a, r, rfl, ok, hx0, ⟨v_bells, _, rfl, h_bells, v_notches, _, rfl, h_notches, rfl⟩, hm, q⟩ := h
    rfl
  · obtain ⟨G, M0, x, dx, ws, a, r, rfl, ok, hx0, ⟨v_bells, _, rfl, h_bells, v_notches, _, rfl, h_notches, rfl⟩, hm, q⟩ := h
    unfold m_Peal___init__ at hm
    have sg := Same.refl G
    have hB := Same.refl M0
    refine ⟨_, (pss_cons (ps_expr (pe_call O_check_bells (hr.mono (by decide)) (by rfl) T.g_check_bells T.F_check_bells.kp T.b_check_bells .nil pass0 (pa_cons (pv 1) pa_nil))) (pss_cons (ps_expr (pe_call O_check_notches (hr.mono (by decide)) (by rfl) T.g_check_notches T.F_check_notches.kp T.b_check_notches .nil pass0 (pa_cons (pv 2) (pa_cons (pe_lc (own := [("bell", 6)]) (g := (gName 6)) (tt := tYes) rfl sc_Peal___init__.nd (pi_tupK (K := K) (pv 1)) (blkOk_by (own := [("bell", 6)]) (N := ["self", "bells", "notches", "name", "other", "number", "bell"]) (sc := defScope s_Peal___init__) (by decide +kernel)) (fun _ _ _ _ _ => (pg_name (i := 6) sc_Peal___init__.nd rfl (by first | exact .inl rfl | exact .inr rfl))) (fun _ _ _ _ _ => pts_nil) (fun _ _ _ _ _ => (pe_ix (ix_tupK (K := K)) (pv 6) pe_int (fun _ _ => rfl)))) pa_nil)))) (pss_cons (ps_fld (pv 0) (pv 1) rfl) (pss_cons (ps_fld (pv 0) (pv 2) rfl) (pss_cons (ps_fld (pv 0) (pe_callTy (cl_dictTK (K := K) rfl) (by rfl) T.n_dict (by decide +kernel) (pa_cons (pv 1) pa_nil)) rfl) (pss_cons (ps_fld (pv 0) (pe_dcB true (own := [("name", 3), ("other", 4), ("number", 5)]) (g := (gTup K 3 (gCons (gName 3) (gCons (gName 4) (gCons (gName 5) gNil))))) (tt := tYes) (hu_of hr) rfl sc_Peal___init__.nd (pi_tupK (K := K) (pv 2)) (blkOk_by (own := [("name", 3), ("other", 4), ("number", 5)]) (N := ["self", "bells", "notches", "name", "other", "number", "bell"]) (sc := defScope s_Peal___init__) (by decide +kernel)) (fun _ _ _ _ _ => (pg_tup rfl (pgs_cons (pg_name (i := 3) sc_Peal___init__.nd rfl (by first | exact .inl rfl | exact .inr rfl)) (pgs_cons (pg_name (i := 4) sc_Peal___init__.nd rfl (by first | exact .inl rfl | exact .inr rfl)) (pgs_cons (pg_name (i := 5) sc_Peal___init__.nd rfl (by first | exact .inl rfl | exact .inr rfl)) pgs_nil))))) (fun _ _ _ _ _ => pts_nil) (fun _ _ _ _ _ => (pe_tup (pa_cons (pv 3) (pa_cons (pv 4) pa_nil)))) (fun _ _ _ _ _ => (pv 5))) rfl) pss_nil)))))), ?_⟩
    refine nrm (σ' := [some (.ref x), some v_bells, some v_notches, none, none, none, none]) rfl ?_
    obtain ⟨t1, e_t1, hm⟩ := bs hm
    refine q_expr (ev_callP (res := fun r => DD K (eN r)) (a := a.1) e_t1 (ea_d (ev_d (K := K) rfl h_bells) ea_nil)) ok (fun G H s1 ok => ?_)
    have h_bells := dp_up s1 _ h_bells
    have h_notches := dp_up s1 _ h_notches
    have sg := sg.trans s1
    obtain ⟨t8, e_t8, hm⟩ := bs hm
    obtain ⟨t9, e_t9, hm⟩ := bs hm
    refine q_expr (ev_callP (res := fun r => DD K (eN r)) (a := (a.2, t8)) e_t9 (ea_d (ev_d (K := K) rfl h_notches) (ea_d (EvL.ev (el_lcM (ea := (eP2 Dat.str Dat.int)) (eb := Dat.str) (xs := a.1) (ys := t8) (hf := e_t8) (src_tup (ev_d (K := K) rfl h_bells)) (fun x2 _ Mx6 _ _ he7 sM5 sG4 hv3 => by cases he7; exact (tg_name ⟨rfl, (ev_ixT (d := Dat.str x2.1) rfl (ev_d (K := K) rfl hv3) ev_int)⟩)))) ea_nil))) ok (fun G H s1 ok => ?_)
    have h_bells := dp_up s1 _ h_bells
    have h_notches := dp_up s1 _ h_notches
    have sg := sg.trans s1
    refine q_fld (K := K) (ns := []) T.cl_Peal T.na_Peal_bells (ev_d (K := K) rfl h_bells) (ev_own rfl) rfl (by decide +kernel) (by decide) ok (fun vf_bells G H s1 ok hf_bells => ?_)
    have h_bells := dp_up s1 _ h_bells
    have h_notches := dp_up s1 _ h_notches
    have sg := sg.trans s1
    refine q_fld (K := K) (ns := ["bells"]) T.cl_Peal T.na_Peal_notches (ev_d (K := K) rfl h_notches) (ev_own rfl) rfl (by decide +kernel) (by decide) ok (fun vf_notches G H s1 ok hf_notches => ?_)
    have h_bells := dp_up s1 _ h_bells
    have h_notches := dp_up s1 _ h_notches
    have hf_bells := dp_up s1 _ hf_bells
    have sg := sg.trans s1
    obtain ⟨t10, e_t10, hm⟩ := bs hm
    refine q_fld (K := K) (ns := ["bells", "notches"]) T.cl_Peal T.na_Peal_sizes (ev_dictT (e := Dat.int) e_t10 (ea_d (ev_d (K := K) rfl h_bells) ea_nil)) (ev_own rfl) rfl (by decide +kernel) (by decide) ok (fun vf_sizes G H s1 ok hf_sizes => ?_)
    have h_bells := dp_up s1 _ h_bells
    have h_notches := dp_up s1 _ h_notches
    have hf_bells := dp_up s1 _ hf_bells
    have hf_notches := dp_up s1 _ hf_notches
    have sg := sg.trans s1
    obtain ⟨t20, e_t20, hm⟩ := bs hm
    refine q_fld (K := K) (ns := ["bells", "notches", "sizes"]) T.cl_Peal T.na_Peal_turning (ev_dcP (e := Dat.int) (ea := (eP3 Dat.str Dat.str Dat.int)) (xs := a.2) (hf := e_t20) (src_tup (ev_d (K := K) rfl h_notches)) (fun x11 _ Mx15 _ _ he16 sM14 sG13 hv12 => by cases he16; exact (tg_t3 hv12 fun _ _ _ h17 h18 h19 => (tg_name (tg_name (tg_name ⟨rfl, (ev_rtup (ea_consD (ev_d (K := K) rfl h17) (ea_consD (ev_d (K := K) rfl h18) (ea_nilD (K := K))))), (ev_d (K := K) rfl h19)⟩)))))) (ev_own rfl) rfl (by decide +kernel) (by decide) ok (fun vf_turning G H s1 ok hf_turning => ?_)
    have h_bells := dp_up s1 _ h_bells
    have h_notches := dp_up s1 _ h_notches
    have hf_bells := dp_up s1 _ hf_bells
    have hf_notches := dp_up s1 _ hf_notches
    have hf_sizes := dp_up s1 _ hf_sizes
    have sg := sg.trans s1
    refine q_nil ?_
    cases hm
    exact q _ _ _ sg ok rfl (.cons hf_bells (.cons hf_notches (.cons hf_sizes (.cons hf_turning .nil))))
/-! ### check_peal -/
theorem sc_check_peal : FnScope ["thing"] ["thing"] (defScope s_check_peal) := ⟨rfl, rfl, rfl, by decide +kernel, rfl, by decide +kernel, by decide +kernel⟩
def a_check_peal (K : PySem.W.Frag) (a : ((List (Str × Int)) × (List (Str × Str × Int)) × (List (Str × Int)) × (List ((Str × Str) × Int)))) : List V → Hp → Prop := conP (DD K (eX_Peal a)) (nilP)
def m_check_peal (a : ((List (Str × Int)) × (List (Str × Str × Int)) × (List (Str × Int)) × (List ((Str × Str) × Int)))) : Option Unit :=
  cond (!true) (none) (some ())
abbrev sp_check_peal [Tb] (K : PySem.W.Frag) : Sp := spP (a_check_peal K) (m_check_peal) fun r => DD K (eN r)
theorem ok_check_peal [Tb] {P : Program} {w : World} {K : PySem.W.Frag} {mg : Str → Option Value} {base : Heap} (T : Txt K mg) : FnOk P w K mg base CX0 (1) T.a_check_peal T.d_check_peal ["thing"] (sp_check_peal K) := by
  refine T.F_check_peal.ok sc_check_peal (fun vs H Q E h => ?_) (fun cdv A outer s0 H vs Q E hr h => ?_)
  · obtain ⟨G, M0, a, r, ok, ⟨v_thing, _, rfl, h_thing, rfl⟩, hm, q⟩ := h
    rfl
  · obtain ⟨G, M0, a, r, ok, ⟨v_thing, _, rfl, h_thing, rfl⟩, hm, q⟩ := h
    unfold m_check_peal at hm
    have sg := Same.refl G
    have hB := Same.refl M0
    refine ⟨_, (pss_cons (ps_if (pt_not (pt_val (pe_callB (call_isiKK (K := K)) (by rfl) T.n_isinstance (by decide +kernel) (pa_cons (pv 0) (pa_cons (pe_glob (v := .ref (clsAt K "Peal")) (by rfl) T.mg_Peal rfl) pa_nil))))) (pss_cons ps_never pss_nil) pss_nil) pss_nil), ?_⟩
    refine nrm (σ' := [some v_thing]) rfl ?_
    refine q_if (et_not (et_B (ev_isiX (b := true) T.co_Peal T.ki_Peal (ea_d (ev_d (K := K) rfl h_thing) (ea_cons mo_clx ev_clx ea_nil))))) ok (fun hb G H s1 ok => ?_) (fun hb G H s1 ok => ?_)
    · have hm := cond_t hb hm
      have h_thing := dp_up s1 _ h_thing
      have sg := sg.trans s1
      cases hm
    · have hm := cond_f hb hm
      have h_thing := dp_up s1 _ h_thing
      have sg := sg.trans s1
      refine q_nilU ?_
      refine q_nil ?_
      cases hm
      exact q _ _ _ sg (ok.less hB) .non
/-! ### check_peal_2 -/
def a_check_peal_2 (K : PySem.W.Frag) (a : Dat) : List V → Hp → Prop := conP (DD K (id a)) (nilP)
def m_check_peal_2 (a : Dat) : Option (Unit ⊕ Ex) :=
  (isP "Peal" a).bind fun t1 => cond (!t1) (some (.inr ("NoPeal", none))) (some (.inl ()))
abbrev sp_check_peal_2 [Tb] (K : PySem.W.Frag) : Sp := spX K (a_check_peal_2 K) (m_check_peal_2) fun r => DD K (eN r)
theorem ok_check_peal_2 [Tb] {P : Program} {w : World} {K : PySem.W.Frag} {mg : Str → Option Value} {base : Heap} (T : Txt K mg) : FnOk P w K mg base (L2N.CX P w) (1) T.a_check_peal T.d_check_peal ["thing"] (sp_check_peal_2 K) := by
  refine okXN T.F_check_peal sc_check_peal (fun vs H Q E h => ?_) (fun cdv A outer s0 H vs Q E hr h => ?_)
  · obtain ⟨G, M0, a, r, ok, ⟨v_thing, _, rfl, h_thing, rfl⟩, hm, q, qx⟩ := h
    rfl
  · obtain ⟨G, M0, a, r, ok, ⟨v_thing, _, rfl, h_thing, rfl⟩, hm, q, qx⟩ := h
    unfold m_check_peal_2 at hm
    have sg := Same.refl G
    have hB := Same.refl M0
    refine ⟨_, (pss_cons (ps_if (pt_not (pt_val (pe_callB (call_isiKK (K := K)) (by rfl) T.n_isinstance (by decide +kernel) (pa_cons (pv 0) (pa_cons (pe_glob (v := .ref (clsAt K "Peal")) (by rfl) T.mg_Peal rfl) pa_nil))))) (pss_cons (L2N.ps_raise rfl (L2N.takes_of rfl rfl rfl rfl) (pmk_own0N PySem.F.excBase_ValueError T.xi_NoPeal T.mx_NoPeal T.xk_NoPeal (raises_own T.xb_NoPeal T.xt_NoPeal) (by rfl))) pss_nil) pss_nil) pss_nil), ?_⟩
    refine nrm (σ' := [some v_thing]) rfl ?_
    obtain ⟨t1, e_t1, hm⟩ := bs hm
    refine q_if (et_not (et_B (ev_isiP T.co_Peal T.ci_Peal T.ki_Peal e_t1 (ea_d (ev_d (K := K) rfl h_thing) (ea_cons mo_clx ev_clx ea_nil))))) ok (fun hb G H s1 ok => ?_) (fun hb G H s1 ok => ?_)
    · have hm := cond_t hb hm
      have h_thing := dp_up s1 _ h_thing
      have sg := sg.trans s1
      refine q_raise0 ?_
      cases hm
      exact qx _ rfl none _ _ sg (ok.less hB) rfl
    · have hm := cond_f hb hm
      have h_thing := dp_up s1 _ h_thing
      have sg := sg.trans s1
      refine q_nilU ?_
      refine q_nil ?_
      cases hm
      exact q _ rfl _ _ _ sg (ok.less hB) .non
/-! ### check_name -/
theorem sc_check_name : FnScope ["peal", "name"] ["peal", "name"] (defScope s_check_name) := ⟨rfl, rfl, rfl, by decide +kernel, rfl, by decide +kernel, by decide +kernel⟩
def a_check_name (K : PySem.W.Frag) (a : ((List (Str × Int)) × (List (Str × Str × Int)) × (List (Str × Int)) × (List ((Str × Str) × Int))) × Str) : List V → Hp → Prop := conP (DD K (eX_Peal a.1)) (conP (DD K (Dat.str a.2)) (nilP))
def m_check_name (a : ((List (Str × Int)) × (List (Str × Str × Int)) × (List (Str × Int)) × (List ((Str × Str) × Int))) × Str) : Option Unit :=
  (m_is_name a.2).bind fun t1 => cond ((!t1) || (!hasA a.1.2.2.1 a.2)) (none) (some ())
abbrev sp_check_name [Tb] (K : PySem.W.Frag) : Sp := spP (a_check_name K) (m_check_name) fun r => DD K (eN r)
theorem ok_check_name [Tb] {P : Program} {w : World} {K : PySem.W.Frag} {mg : Str → Option Value} {base : Heap} (T : Txt K mg) (O_is_name : FnOk P w K mg base CX0 1 T.a_is_name T.d_is_name ["thing"] (sp_is_name K)) : FnOk P w K mg base CX0 (2) T.a_check_name T.d_check_name ["peal", "name"] (sp_check_name K) := by
  refine T.F_check_name.ok sc_check_name (fun vs H Q E h => ?_) (fun cdv A outer s0 H vs Q E hr h => ?_)
  · obtain ⟨G, M0, a, r, ok, ⟨v_peal, _, rfl, h_peal, v_name, _, rfl, h_name, rfl⟩, hm, q⟩ := h
    rfl
  · obtain ⟨G, M0, a, r, ok, ⟨v_peal, _, rfl, h_peal, v_name, _, rfl, h_name, rfl⟩, hm, q⟩ := h
    unfold m_check_name at hm
    have sg := Same.refl G
    have hB := Same.refl M0
    refine ⟨_, (pss_cons (ps_if (PW.pt (pw_or (pt_not (pt_val (pe_call O_is_name (hr.mono (by decide)) (by rfl) T.g_is_name T.F_is_name.kp T.b_is_name .nil pass0 (pa_cons (pv 1) pa_nil)))) (pw_or1 (pt_cmp (pc_dnotin (hu_of hr) (pv 1) (pe_fldK (K := K) (pv 0))))))) (pss_cons ps_never pss_nil) pss_nil) pss_nil), ?_⟩
    refine nrm (σ' := [some v_peal, some v_name]) rfl ?_
    obtain ⟨t1, e_t1, hm⟩ := bs hm
    refine q_if (et_or (et_not (et_B (ev_callP (res := fun r => DD K (Dat.bool r)) (a := a.2) e_t1 (ea_d (ev_d (K := K) rfl h_name) ea_nil)))) fun _ => (et_B (ev_dninS (e := Dat.int) (xs := a.1.2.2.1) (ev_d (K := K) rfl h_name) (ev_fld (d := (eDS Dat.int) a.1.2.2.1) (i := 2) T.cl_Peal T.na_Peal_sizes (by decide +kernel) rfl (ev_d (K := K) rfl h_peal))))) ok (fun hb G H s1 ok => ?_) (fun hb G H s1 ok => ?_)
    · have hm := cond_t hb hm
      have h_peal := dp_up s1 _ h_peal
      have h_name := dp_up s1 _ h_name
      have sg := sg.trans s1
      cases hm
    · have hm := cond_f hb hm
      have h_peal := dp_up s1 _ h_peal
      have h_name := dp_up s1 _ h_name
      have sg := sg.trans s1
      refine q_nilU ?_
      refine q_nil ?_
      cases hm
      exact q _ _ _ sg (ok.less hB) .non
/-! ### Peal_names -/
theorem sc_Peal_names : FnScope ["self", "bell"] ["self"] (defScope s_Peal_names) := ⟨rfl, rfl, rfl, by decide +kernel, rfl, by decide +kernel, by decide +kernel⟩
def a_Peal_names (K : PySem.W.Frag) (a : ((List (Str × Int)) × (List (Str × Str × Int)) × (List (Str × Int)) × (List ((Str × Str) × Int)))) : List V → Hp → Prop := conP (DD K (eX_Peal a)) (nilP)
def m_Peal_names (a : ((List (Str × Int)) × (List (Str × Str × Int)) × (List (Str × Int)) × (List ((Str × Str) × Int)))) : Option (List Str) :=
  (lcO (fun x1 : (Str × Int) => some x1.1) a.1).bind fun t7 => some t7
abbrev sp_Peal_names [Tb] (K : PySem.W.Frag) : Sp := spP (a_Peal_names K) (m_Peal_names) fun r => DD K ((eT Dat.str) r)
theorem ok_Peal_names [Tb] {P : Program} {w : World} {K : PySem.W.Frag} {mg : Str → Option Value} {base : Heap} (T : Txt K mg) : FnOk P w K mg base CX0 (1) T.a_Peal_names T.d_Peal_names ["self"] (sp_Peal_names K) := by
  refine T.F_Peal_names.ok sc_Peal_names (fun vs H Q E h => ?_) (fun cdv A outer s0 H vs Q E hr h => ?_)
  · obtain ⟨G, M0, a, r, ok, ⟨v_self, _, rfl, h_self, rfl⟩, hm, q⟩ := h
    rfl
  · obtain ⟨G, M0, a, r, ok, ⟨v_self, _, rfl, h_self, rfl⟩, hm, q⟩ := h
    unfold m_Peal_names at hm
    have sg := Same.refl G
    have hB := Same.refl M0
    refine ⟨_, (pss_cons (ps_ret (pe_callTy (cl_tupleK (K := K)) (by rfl) T.n_tuple (by decide +kernel) (pa_cons (pe_lc (own := [("bell", 1)]) (g := (gName 1)) (tt := tYes) rfl sc_Peal_names.nd (pi_tupK (K := K) (pe_fldK (K := K) (pv 0))) (blkOk_by (own := [("bell", 1)]) (N := ["self", "bell"]) (sc := defScope s_Peal_names) (by decide +kernel)) (fun _ _ _ _ _ => (pg_name (i := 1) sc_Peal_names.nd rfl (by first | exact .inl rfl | exact .inr rfl))) (fun _ _ _ _ _ => pts_nil) (fun _ _ _ _ _ => (pe_ix (ix_tupK (K := K)) (pv 1) pe_int (fun _ _ => rfl)))) pa_nil))) pss_nil), ?_⟩
    refine nrm (σ' := [some v_self, none]) rfl ?_
    obtain ⟨t7, e_t7, hm⟩ := bs hm
    refine q_ret (ev_tupL (ea_d (EvL.ev (el_lcM (ea := (eP2 Dat.str Dat.int)) (eb := Dat.str) (xs := a.1) (ys := t7) (hf := e_t7) (src_tup (ev_fld (d := (eT (eP2 Dat.str Dat.int)) a.1) (i := 0) T.cl_Peal T.na_Peal_bells (by decide +kernel) rfl (ev_d (K := K) rfl h_self))) (fun x1 _ Mx5 _ _ he6 sM4 sG3 hv2 => by cases he6; exact (tg_name ⟨rfl, (ev_ixT (d := Dat.str x1.1) rfl (ev_d (K := K) rfl hv2) ev_int)⟩)))) ea_nil)) ok (fun v G H s1 ok hv => ?_)
    have sg := sg.trans s1
    cases hm
    exact q v G H sg (ok.less hB) hv
/-! ### Peal_notch -/
theorem sc_Peal_notch : FnScope ["self", "name", "other"] ["self", "name", "other"] (defScope s_Peal_notch) := ⟨rfl, rfl, rfl, by decide +kernel, rfl, by decide +kernel, by decide +kernel⟩
def a_Peal_notch (K : PySem.W.Frag) (a : ((List (Str × Int)) × (List (Str × Str × Int)) × (List (Str × Int)) × (List ((Str × Str) × Int))) × Str × Str) : List V → Hp → Prop := conP (DD K (eX_Peal a.1)) (conP (DD K (Dat.str a.2.1)) (conP (DD K (Dat.str a.2.2)) (nilP)))
def m_Peal_notch (a : ((List (Str × Int)) × (List (Str × Str × Int)) × (List (Str × Int)) × (List ((Str × Str) × Int))) × Str × Str) : Option Int :=
  (m_check_name (a.1, a.2.1)).bind fun t1 => (m_check_name (a.1, a.2.2)).bind fun t2 => some (getD' a.1.2.2.2 (a.2.1, a.2.2) (0 : Int))
abbrev sp_Peal_notch [Tb] (K : PySem.W.Frag) : Sp := spP (a_Peal_notch K) (m_Peal_notch) fun r => DD K (Dat.int r)
theorem ok_Peal_notch [Tb] {P : Program} {w : World} {K : PySem.W.Frag} {mg : Str → Option Value} {base : Heap} (T : Txt K mg) (O_check_name : FnOk P w K mg base CX0 2 T.a_check_name T.d_check_name ["peal", "name"] (sp_check_name K)) : FnOk P w K mg base CX0 (3) T.a_Peal_notch T.d_Peal_notch ["self", "name", "other"] (sp_Peal_notch K) := by
  refine T.F_Peal_notch.ok sc_Peal_notch (fun vs H Q E h => ?_) (fun cdv A outer s0 H vs Q E hr h => ?_)
  · obtain ⟨G, M0, a, r, ok, ⟨v_self, _, rfl, h_self, v_name, _, rfl, h_name, v_other, _, rfl, h_other, rfl⟩, hm, q⟩ := h
    rfl
  · obtain ⟨G, M0, a, r, ok, ⟨v_self, _, rfl, h_self, v_name, _, rfl, h_name, v_other, _, rfl, h_other, rfl⟩, hm, q⟩ := h
    unfold m_Peal_notch at hm
    have sg := Same.refl G
    have hB := Same.refl M0
    refine ⟨_, (pss_cons (ps_expr (pe_call O_check_name (hr.mono (by decide)) (by rfl) T.g_check_name T.F_check_name.kp T.b_check_name .nil pass0 (pa_cons (pv 0) (pa_cons (pv 1) pa_nil)))) (pss_cons (ps_expr (pe_call O_check_name (hr.mono (by decide)) (by rfl) T.g_check_name T.F_check_name.kp T.b_check_name .nil pass0 (pa_cons (pv 0) (pa_cons (pv 2) pa_nil)))) (pss_cons (ps_ret (pe_dget2 (hu_of hr) (pe_fldK (K := K) (pv 0)) (pe_tup (pa_cons (pv 1) (pa_cons (pv 2) pa_nil))) pe_int ⟨rfl, rfl, rfl, rfl⟩)) pss_nil))), ?_⟩
    refine nrm (σ' := [some v_self, some v_name, some v_other]) rfl ?_
    obtain ⟨t1, e_t1, hm⟩ := bs hm
    refine q_expr (ev_callP (res := fun r => DD K (eN r)) (a := (a.1, a.2.1)) e_t1 (ea_d (ev_d (K := K) rfl h_self) (ea_d (ev_d (K := K) rfl h_name) ea_nil))) ok (fun G H s1 ok => ?_)
    have h_self := dp_up s1 _ h_self
    have h_name := dp_up s1 _ h_name
    have h_other := dp_up s1 _ h_other
    have sg := sg.trans s1
    obtain ⟨t2, e_t2, hm⟩ := bs hm
    refine q_expr (ev_callP (res := fun r => DD K (eN r)) (a := (a.1, a.2.2)) e_t2 (ea_d (ev_d (K := K) rfl h_self) (ea_d (ev_d (K := K) rfl h_other) ea_nil))) ok (fun G H s1 ok => ?_)
    have h_self := dp_up s1 _ h_self
    have h_name := dp_up s1 _ h_name
    have h_other := dp_up s1 _ h_other
    have sg := sg.trans s1
    refine q_ret (ev_dget2P (e := Dat.int) (xs := a.1.2.2.2) (k := (a.2.1, a.2.2)) (z := (0 : Int)) (ev_fld (d := (eDP Dat.int) a.1.2.2.2) (i := 3) T.cl_Peal T.na_Peal_turning (by decide +kernel) rfl (ev_d (K := K) rfl h_self)) (ev_rtup (ea_consD (ev_d (K := K) rfl h_name) (ea_consD (ev_d (K := K) rfl h_other) (ea_nilD (K := K))))) (ev_int (K := K))) ok (fun v G H s1 ok hv => ?_)
    have sg := sg.trans s1
    cases hm
    exact q v G H sg (ok.less hB) hv
/-! ### ahead_in -/
theorem sc_ahead_in : FnScope ["row", "at", "name", "other"] ["row"] (defScope s_ahead_in) := ⟨rfl, rfl, rfl, by decide +kernel, rfl, by decide +kernel, by decide +kernel⟩
def a_ahead_in (K : PySem.W.Frag) (a : (List Str)) : List V → Hp → Prop := conP (DD K ((eT Dat.str) a)) (nilP)
def m_ahead_in (a : (List Str)) : Option (List (Str × Str)) :=
  (lc2O (fun x1 : (Int × Str) => some (cut a (some (x1.1 + (1 : Int))) none)) (fun (x1 : (Int × Str)) (y9 : Str) => some (x1.2, y9)) (enum a)).bind fun t15 => some t15
abbrev sp_ahead_in [Tb] (K : PySem.W.Frag) : Sp := spP (a_ahead_in K) (m_ahead_in) fun r => DD K ((eL (eP2 Dat.str Dat.str)) r)
theorem ok_ahead_in [Tb] {P : Program} {w : World} {K : PySem.W.Frag} {mg : Str → Option Value} {base : Heap} (T : Txt K mg) : FnOk P w K mg base CX0 (1) T.a_ahead_in T.d_ahead_in ["row"] (sp_ahead_in K) := by
  refine T.F_ahead_in.ok sc_ahead_in (fun vs H Q E h => ?_) (fun cdv A outer s0 H vs Q E hr h => ?_)
  · obtain ⟨G, M0, a, r, ok, ⟨v_row, _, rfl, h_row, rfl⟩, hm, q⟩ := h
    rfl
  · obtain ⟨G, M0, a, r, ok, ⟨v_row, _, rfl, h_row, rfl⟩, hm, q⟩ := h
    unfold m_ahead_in at hm
    have sg := Same.refl G
    have hB := Same.refl M0
    refine ⟨_, (pss_cons (ps_ret (pe_lc2 (own := [("at", 1), ("name", 2), ("other", 3)]) (vs1 := [3]) (g := (gTup K 2 (gCons (gName 1) (gCons (gName 2) gNil)))) (g1 := (gName 3)) (tt := tYes) (tt1 := tYes) rfl sc_ahead_in.nd (pi_enumTK (K := K) (by rfl) T.n_enumerate (pa_cons (pv 0) pa_nil)) (blkOk_by (own := [("at", 1), ("name", 2), ("other", 3)]) (N := ["row", "at", "name", "other"]) (sc := defScope s_ahead_in) (by decide +kernel)) (by decide) (fun _ _ _ _ _ => (pg_tup rfl (pgs_cons (pg_name (i := 1) sc_ahead_in.nd rfl (by first | exact .inl rfl | exact .inr rfl)) (pgs_cons (pg_name (i := 2) sc_ahead_in.nd rfl (by first | exact .inl rfl | exact .inr rfl)) pgs_nil)))) (fun _ _ _ _ _ => pts_nil) (fun _ _ _ _ _ => (pi_tupK (K := K) (pe_slice (sl_tupK (K := K)) (pv 0) (po_some (pe_op op_add (pv 1) pe_int)) po_none))) (fun _ _ _ _ _ => (pg_name (i := 3) sc_ahead_in.nd rfl (by first | exact .inl rfl | exact .inr rfl))) (fun _ _ _ _ _ => pts_nil) (fun _ _ _ _ _ => (pe_tupF (pa_cons (pv 2) (pa_cons (pv 3) pa_nil)))))) pss_nil), ?_⟩
    refine nrm (σ' := [some v_row, none, none, none]) rfl ?_
    obtain ⟨t15, e_t15, hm⟩ := bs hm
    refine q_ret (EvL.ev (el_lc2M (ea := (eR2 Dat.int Dat.str)) (ec := Dat.str) (eb := (eP2 Dat.str Dat.str)) (xs := (enum a)) (hf := e_t15) (Src.is (src_enumT (ea_d (ev_d (K := K) rfl h_row) ea_nil)) enumD_map) (fun x1 _ Mx5 _ _ he6 sM4 sG3 hv2 => by cases he6; exact (tg_r2 hv2 fun _ _ h7 h8 => (tg_name (tg_name ⟨rfl, (src_tup (ev_slTM (e := Dat.str) (ev_d (K := K) rfl (dp_up sG3 _ h_row)) (eo_some (ev_add (ev_d (K := K) rfl h7) (ev_int (K := K)))) eo_none)), (fun y9 _ Mx13 _ _ he14 sM12 sG11 hv10 => by cases he14; exact (tg_name ⟨rfl, (ev_tup (ea_consD (ev_d (K := K) rfl (dp_up sG11 _ h8)) (ea_consD (ev_d (K := K) rfl hv10) (ea_nilD (K := K)))))⟩))⟩)))))) ok (fun v G H s1 ok hv => ?_)
    have sg := sg.trans s1
    cases hm
    exact q v G H sg (ok.less hB) hv
/-! ### dials_of -/
theorem sc_dials_of : FnScope ["peal", "turned", "name", "marks"] ["peal", "turned"] (defScope s_dials_of) := ⟨rfl, rfl, rfl, by decide +kernel, rfl, by decide +kernel, by decide +kernel⟩
def a_dials_of (K : PySem.W.Frag) (a : ((List (Str × Int)) × (List (Str × Str × Int)) × (List (Str × Int)) × (List ((Str × Str) × Int))) × (List (Str × Int))) : List V → Hp → Prop := conP (DD K (eX_Peal a.1)) (conP (DD K ((eDS Dat.int) a.2)) (nilP))
def m_dials_of (a : ((List (Str × Int)) × (List (Str × Str × Int)) × (List (Str × Int)) × (List ((Str × Str) × Int))) × (List (Str × Int))) : Option (List Int) :=
  (lcO (fun x1 : (Str × Int) => (modO (getD' a.2 x1.1 (0 : Int)) x1.2).bind fun t9 => some t9) a.1.1).bind fun t10 => some t10
abbrev sp_dials_of [Tb] (K : PySem.W.Frag) : Sp := spP (a_dials_of K) (m_dials_of) fun r => DD K ((eT Dat.int) r)
theorem ok_dials_of [Tb] {P : Program} {w : World} {K : PySem.W.Frag} {mg : Str → Option Value} {base : Heap} (T : Txt K mg) : FnOk P w K mg base CX0 (1) T.a_dials_of T.d_dials_of ["peal", "turned"] (sp_dials_of K) := by
  refine T.F_dials_of.ok sc_dials_of (fun vs H Q E h => ?_) (fun cdv A outer s0 H vs Q E hr h => ?_)
  · obtain ⟨G, M0, a, r, ok, ⟨v_peal, _, rfl, h_peal, v_turned, _, rfl, h_turned, rfl⟩, hm, q⟩ := h
    rfl
  · obtain ⟨G, M0, a, r, ok, ⟨v_peal, _, rfl, h_peal, v_turned, _, rfl, h_turned, rfl⟩, hm, q⟩ := h
    unfold m_dials_of at hm
    have sg := Same.refl G
    have hB := Same.refl M0
    refine ⟨_, (pss_cons (ps_ret (pe_callTy (cl_tupleK (K := K)) (by rfl) T.n_tuple (by decide +kernel) (pa_cons (pe_lc (own := [("name", 2), ("marks", 3)]) (g := (gTup K 2 (gCons (gName 2) (gCons (gName 3) gNil)))) (tt := tYes) rfl sc_dials_of.nd (pi_tupK (K := K) (pe_fldK (K := K) (pv 0))) (blkOk_by (own := [("name", 2), ("marks", 3)]) (N := ["peal", "turned", "name", "marks"]) (sc := defScope s_dials_of) (by decide +kernel)) (fun _ _ _ _ _ => (pg_tup rfl (pgs_cons (pg_name (i := 2) sc_dials_of.nd rfl (by first | exact .inl rfl | exact .inr rfl)) (pgs_cons (pg_name (i := 3) sc_dials_of.nd rfl (by first | exact .inl rfl | exact .inr rfl)) pgs_nil)))) (fun _ _ _ _ _ => pts_nil) (fun _ _ _ _ _ => (pe_op op_modN (pe_dget2 (hu_of hr) (pv 1) (pv 2) pe_int ⟨rfl, rfl, rfl, rfl⟩) (pv 3)))) pa_nil))) pss_nil), ?_⟩
    refine nrm (σ' := [some v_peal, some v_turned, none, none]) rfl ?_
    obtain ⟨t10, e_t10, hm⟩ := bs hm
    refine q_ret (ev_tupL (ea_d (EvL.ev (el_lcM (ea := (eP2 Dat.str Dat.int)) (eb := Dat.int) (xs := a.1.1) (ys := t10) (hf := e_t10) (src_tup (ev_fld (d := (eT (eP2 Dat.str Dat.int)) a.1.1) (i := 0) T.cl_Peal T.na_Peal_bells (by decide +kernel) rfl (ev_d (K := K) rfl h_peal))) (fun x1 _ Mx5 _ _ he6 sM4 sG3 hv2 => by (obtain ⟨t9, e_t9, he6⟩ := bs he6); (have he6 := Option.some.inj he6); subst he6; exact (tg_t2 hv2 fun _ _ h7 h8 => (tg_name (tg_name ⟨rfl, (ev_modO e_t9 (ev_dget2S (e := Dat.int) (xs := a.2) (k := x1.1) (z := (0 : Int)) (ev_d (K := K) rfl (dp_up sG3 _ h_turned)) (ev_d (K := K) rfl h7) (ev_int (K := K))) (ev_d (K := K) rfl h8))⟩)))))) ea_nil)) ok (fun v G H s1 ok hv => ?_)
    have sg := sg.trans s1
    cases hm
    exact q v G H sg (ok.less hB) hv
/-! ### swing_of -/
theorem sc_swing_of : FnScope ["peal", "name", "other"] ["peal", "name", "other"] (defScope s_swing_of) := ⟨rfl, rfl, rfl, by decide +kernel, rfl, by decide +kernel, by decide +kernel⟩
def a_swing_of (K : PySem.W.Frag) (a : ((List (Str × Int)) × (List (Str × Str × Int)) × (List (Str × Int)) × (List ((Str × Str) × Int))) × Str × Str) : List V → Hp → Prop := conP (DD K (eX_Peal a.1)) (conP (DD K (Dat.str a.2.1)) (conP (DD K (Dat.str a.2.2)) (nilP)))
def m_swing_of (a : ((List (Str × Int)) × (List (Str × Str × Int)) × (List (Str × Int)) × (List ((Str × Str) × Int))) × Str × Str) : Option (List Int) :=
  (m_Peal_notch (a.1, a.2.1, a.2.2)).bind fun t1 => (m_Peal_notch (a.1, a.2.2, a.2.1)).bind fun t2 => (m_dials_of (a.1, (mergeA [] [(a.2.2, t1), (a.2.1, t2)]))).bind fun t3 => some t3
abbrev sp_swing_of [Tb] (K : PySem.W.Frag) : Sp := spP (a_swing_of K) (m_swing_of) fun r => DD K ((eT Dat.int) r)
theorem ok_swing_of [Tb] {P : Program} {w : World} {K : PySem.W.Frag} {mg : Str → Option Value} {base : Heap} (T : Txt K mg) (O_dials_of : FnOk P w K mg base CX0 1 T.a_dials_of T.d_dials_of ["peal", "turned"] (sp_dials_of K)) (O_Peal_notch : FnOk P w K mg base CX0 3 T.a_Peal_notch T.d_Peal_notch ["self", "name", "other"] (sp_Peal_notch K)) : FnOk P w K mg base CX0 (4) T.a_swing_of T.d_swing_of ["peal", "name", "other"] (sp_swing_of K) := by
  refine T.F_swing_of.ok sc_swing_of (fun vs H Q E h => ?_) (fun cdv A outer s0 H vs Q E hr h => ?_)
  · obtain ⟨G, M0, a, r, ok, ⟨v_peal, _, rfl, h_peal, v_name, _, rfl, h_name, v_other, _, rfl, h_other, rfl⟩, hm, q⟩ := h
    rfl
  · obtain ⟨G, M0, a, r, ok, ⟨v_peal, _, rfl, h_peal, v_name, _, rfl, h_name, v_other, _, rfl, h_other, rfl⟩, hm, q⟩ := h
    unfold m_swing_of at hm
    have sg := Same.refl G
    have hB := Same.refl M0
    refine ⟨_, (pss_cons (ps_ret (pe_call O_dials_of (hr.mono (by decide)) (by rfl) T.g_dials_of T.F_dials_of.kp T.b_dials_of .nil pass0 (pa_cons (pv 0) (pa_cons (pe_disp (pps_cons (pv 2) (pe_meth (pv 0) T.cl_Peal T.me_Peal_notch O_Peal_notch (hr.mono (by decide)) T.b_Peal_notch .nil pass0 (pa_cons (pv 1) (pa_cons (pv 2) pa_nil))) (pps_cons (pv 1) (pe_meth (pv 0) T.cl_Peal T.me_Peal_notch O_Peal_notch (hr.mono (by decide)) T.b_Peal_notch .nil pass0 (pa_cons (pv 2) (pa_cons (pv 1) pa_nil))) pps_nil)) rfl rfl (by simp) (by decide)) pa_nil)))) pss_nil), ?_⟩
    refine nrm (σ' := [some v_peal, some v_name, some v_other]) rfl ?_
    obtain ⟨t1, e_t1, hm⟩ := bs hm
    obtain ⟨t2, e_t2, hm⟩ := bs hm
    obtain ⟨t3, e_t3, hm⟩ := bs hm
    refine q_ret (ev_callP (res := fun r => DD K ((eT Dat.int) r)) (a := (a.1, (mergeA [] [(a.2.2, t1), (a.2.1, t2)]))) e_t3 (ea_d (ev_d (K := K) rfl h_peal) (ea_d (ev_disp2 (e := Dat.int) (fun _ _ => (ev_d (K := K) rfl h_other)) (fun _ _ => (ev_meth (args := a_Peal_notch K) (a := (a.1, a.2.1, a.2.2)) (by decide +kernel) rfl e_t1 (ev_d (K := K) rfl h_peal) (ea_d (ev_d (K := K) rfl h_name) (ea_d (ev_d (K := K) rfl h_other) ea_nil)))) (fun _ _ => (ev_d (K := K) rfl h_name)) (fun _ _ => (ev_meth (args := a_Peal_notch K) (a := (a.1, a.2.2, a.2.1)) (by decide +kernel) rfl e_t2 (ev_d (K := K) rfl h_peal) (ea_d (ev_d (K := K) rfl h_other) (ea_d (ev_d (K := K) rfl h_name) ea_nil))))) ea_nil))) ok (fun v G H s1 ok hv => ?_)
    have sg := sg.trans s1
    cases hm
    exact q v G H sg (ok.less hB) hv
/-! ### twos -/
theorem sc_twos : FnScope ["peal"] ["peal"] (defScope s_twos) := ⟨rfl, rfl, rfl, by decide +kernel, rfl, by decide +kernel, by decide +kernel⟩
def a_twos (K : PySem.W.Frag) (a : ((List (Str × Int)) × (List (Str × Str × Int)) × (List (Str × Int)) × (List ((Str × Str) × Int)))) : List V → Hp → Prop := conP (DD K (eX_Peal a)) (nilP)
def m_twos (a : ((List (Str × Int)) × (List (Str × Str × Int)) × (List (Str × Int)) × (List ((Str × Str) × Int)))) : Option (List (Str × Str)) :=
  (m_Peal_names a).bind fun t1 => (m_ahead_in t1).bind fun t2 => some t2
abbrev sp_twos [Tb] (K : PySem.W.Frag) : Sp := spP (a_twos K) (m_twos) fun r => DD K ((eL (eP2 Dat.str Dat.str)) r)
theorem ok_twos [Tb] {P : Program} {w : World} {K : PySem.W.Frag} {mg : Str → Option Value} {base : Heap} (T : Txt K mg) (O_ahead_in : FnOk P w K mg base CX0 1 T.a_ahead_in T.d_ahead_in ["row"] (sp_ahead_in K)) (O_Peal_names : FnOk P w K mg base CX0 1 T.a_Peal_names T.d_Peal_names ["self"] (sp_Peal_names K)) : FnOk P w K mg base CX0 (2) T.a_twos T.d_twos ["peal"] (sp_twos K) := by
  refine T.F_twos.ok sc_twos (fun vs H Q E h => ?_) (fun cdv A outer s0 H vs Q E hr h => ?_)
  · obtain ⟨G, M0, a, r, ok, ⟨v_peal, _, rfl, h_peal, rfl⟩, hm, q⟩ := h
    rfl
  · obtain ⟨G, M0, a, r, ok, ⟨v_peal, _, rfl, h_peal, rfl⟩, hm, q⟩ := h
    unfold m_twos at hm
    have sg := Same.refl G
    have hB := Same.refl M0
    refine ⟨_, (pss_cons (ps_ret (pe_call O_ahead_in (hr.mono (by decide)) (by rfl) T.g_ahead_in T.F_ahead_in.kp T.b_ahead_in .nil pass0 (pa_cons (pe_meth0 (pv 0) T.cl_Peal T.me_Peal_names O_Peal_names (hr.mono (by decide)) T.b_Peal_names .nil pass0) pa_nil))) pss_nil), ?_⟩
    refine nrm (σ' := [some v_peal]) rfl ?_
    obtain ⟨t1, e_t1, hm⟩ := bs hm
    obtain ⟨t2, e_t2, hm⟩ := bs hm
    refine q_ret (ev_callP (res := fun r => DD K ((eL (eP2 Dat.str Dat.str)) r)) (a := t1) e_t2 (ea_d (ev_meth (args := a_Peal_names K) (a := a) (by decide +kernel) rfl e_t1 (ev_d (K := K) rfl h_peal) ea_nil) ea_nil)) ok (fun v G H s1 ok hv => ?_)
    have sg := sg.trans s1
    cases hm
    exact q v G H sg (ok.less hB) hv
/-! ### swings -/
theorem sc_swings : FnScope ["peal", "name", "other"] ["peal"] (defScope s_swings) := ⟨rfl, rfl, rfl, by decide +kernel, rfl, by decide +kernel, by decide +kernel⟩
def a_swings (K : PySem.W.Frag) (a : ((List (Str × Int)) × (List (Str × Str × Int)) × (List (Str × Int)) × (List ((Str × Str) × Int)))) : List V → Hp → Prop := conP (DD K (eX_Peal a)) (nilP)
def m_swings (a : ((List (Str × Int)) × (List (Str × Str × Int)) × (List (Str × Int)) × (List ((Str × Str) × Int)))) : Option (List (List Int)) :=
  (m_twos a).bind fun t1 => (lcO (fun x2 : (Str × Str) => (m_swing_of (a, x2.1, x2.2)).bind fun t10 => some t10) t1).bind fun t11 => some t11
abbrev sp_swings [Tb] (K : PySem.W.Frag) : Sp := spP (a_swings K) (m_swings) fun r => DD K ((eT (eT Dat.int)) r)
theorem ok_swings [Tb] {P : Program} {w : World} {K : PySem.W.Frag} {mg : Str → Option Value} {base : Heap} (T : Txt K mg) (O_twos : FnOk P w K mg base CX0 2 T.a_twos T.d_twos ["peal"] (sp_twos K)) (O_swing_of : FnOk P w K mg base CX0 4 T.a_swing_of T.d_swing_of ["peal", "name", "other"] (sp_swing_of K)) : FnOk P w K mg base CX0 (5) T.a_swings T.d_swings ["peal"] (sp_swings K) := by
  refine T.F_swings.ok sc_swings (fun vs H Q E h => ?_) (fun cdv A outer s0 H vs Q E hr h => ?_)
  · obtain ⟨G, M0, a, r, ok, ⟨v_peal, _, rfl, h_peal, rfl⟩, hm, q⟩ := h
    rfl
  · obtain ⟨G, M0, a, r, ok, ⟨v_peal, _, rfl, h_peal, rfl⟩, hm, q⟩ := h
    unfold m_swings at hm
    have sg := Same.refl G
    have hB := Same.refl M0
    refine ⟨_, (pss_cons (ps_ret (pe_callTy (cl_tupleK (K := K)) (by rfl) T.n_tuple (by decide +kernel) (pa_cons (pe_lc (own := [("name", 1), ("other", 2)]) (g := (gTup K 2 (gCons (gName 1) (gCons (gName 2) gNil)))) (tt := tYes) rfl sc_swings.nd (pi_listK (K := K) (pe_call O_twos (hr.mono (by decide)) (by rfl) T.g_twos T.F_twos.kp T.b_twos .nil pass0 (pa_cons (pv 0) pa_nil))) (blkOk_by (own := [("name", 1), ("other", 2)]) (N := ["peal", "name", "other"]) (sc := defScope s_swings) (by decide +kernel)) (fun _ _ _ _ _ => (pg_tup rfl (pgs_cons (pg_name (i := 1) sc_swings.nd rfl (by first | exact .inl rfl | exact .inr rfl)) (pgs_cons (pg_name (i := 2) sc_swings.nd rfl (by first | exact .inl rfl | exact .inr rfl)) pgs_nil)))) (fun _ _ _ _ _ => pts_nil) (fun _ _ _ _ _ => (pe_call O_swing_of (hr.mono (by decide)) (by rfl) T.g_swing_of T.F_swing_of.kp T.b_swing_of .nil pass0 (pa_cons (pv 0) (pa_cons (pv 1) (pa_cons (pv 2) pa_nil)))))) pa_nil))) pss_nil), ?_⟩
    refine nrm (σ' := [some v_peal, none, none]) rfl ?_
    obtain ⟨t1, e_t1, hm⟩ := bs hm
    obtain ⟨t11, e_t11, hm⟩ := bs hm
    refine q_ret (ev_tupL (ea_d (EvL.ev (el_lcM (ea := (eP2 Dat.str Dat.str)) (eb := (eT Dat.int)) (xs := t1) (ys := t11) (hf := e_t11) (src_list (ev_callP (res := fun r => DD K ((eL (eP2 Dat.str Dat.str)) r)) (a := a) e_t1 (ea_d (ev_d (K := K) rfl h_peal) ea_nil))) (fun x2 _ Mx6 _ _ he7 sM5 sG4 hv3 => by (obtain ⟨t10, e_t10, he7⟩ := bs he7); (have he7 := Option.some.inj he7); subst he7; exact (tg_t2 hv3 fun _ _ h8 h9 => (tg_name (tg_name ⟨rfl, (ev_callP (res := fun r => DD K ((eT Dat.int) r)) (a := (a, x2.1, x2.2)) e_t10 (ea_d (ev_d (K := K) rfl (dp_up sG4 _ h_peal)) (ea_d (ev_d (K := K) rfl h8) (ea_d (ev_d (K := K) rfl h9) ea_nil))))⟩)))))) ea_nil)) ok (fun v G H s1 ok hv => ?_)
    have sg := sg.trans s1
    cases hm
    exact q v G H sg (ok.less hB) hv
/-! ### shared -/
theorem sc_shared : FnScope ["one", "other"] ["one", "other"] (defScope s_shared) := ⟨rfl, rfl, rfl, by decide +kernel, rfl, by decide +kernel, by decide +kernel⟩
def a_shared (K : PySem.W.Frag) (a : Int × Int) : List V → Hp → Prop := conP (DD K (Dat.int a.1)) (conP (DD K (Dat.int a.2)) (nilP))
def m_shared (a : Int × Int) : Option Int :=
  (whileO (fun (st2 : Int × Int) => some (decide ((0 : Int) < st2.2))) (fun (st2 : Int × Int) => (modO st2.1 st2.2).bind fun t6 => some (st2.2, t6)) ((a.2).toNat + 1) (a.1, a.2)).bind fun fin1 => some fin1.1
abbrev sp_shared [Tb] (K : PySem.W.Frag) : Sp := spP (a_shared K) (m_shared) fun r => DD K (Dat.int r)
theorem ok_shared [Tb] {P : Program} {w : World} {K : PySem.W.Frag} {mg : Str → Option Value} {base : Heap} (T : Txt K mg) : FnOk P w K mg base CX0 (1) T.a_shared T.d_shared ["one", "other"] (sp_shared K) := by
  refine T.F_shared.ok sc_shared (fun vs H Q E h => ?_) (fun cdv A outer s0 H vs Q E hr h => ?_)
  · obtain ⟨G, M0, a, r, ok, ⟨v_one, _, rfl, h_one, v_other, _, rfl, h_other, rfl⟩, hm, q⟩ := h
    rfl
  · obtain ⟨G, M0, a, r, ok, ⟨v_one, _, rfl, h_one, v_other, _, rfl, h_other, rfl⟩, hm, q⟩ := h
    unfold m_shared at hm
    have sg := Same.refl G
    have hB := Same.refl M0
    refine ⟨_, (pss_cons (ps_while PassesOwn.never (pt_cmpR op_gt (pv 1) pe_int (nomark _)) (pss_cons (ps_par (i := 0) (j := 1) rfl sc_shared.nd rfl rfl (by decide) rfl rfl (pa_cons (pv 1) (pa_cons (pe_op op_modN (pv 0) (pv 1)) pa_nil)) (by rfl)) pss_nil)) (pss_cons (ps_ret (pv 0)) pss_nil)), ?_⟩
    cases h_one
    cases h_other
    refine nrm (σ' := [some (.int a.1), some (.int a.2)]) rfl ?_
    obtain ⟨fin1, e_fin1, hm⟩ := bs hm
    refine q_whileO ok (fun (st2 : Int × Int) σ1 G1 M1 => σ1 = [some (.int st2.1), some (.int st2.2)] ∧ (Same M0 M1)) e_fin1 ⟨rfl, hB⟩ (fun st2 b σ1 G M H hm hj s1 ok => ?_) (by rintro _ _ _ _ _ ⟨rfl, hB⟩ s2; exact ⟨rfl, hB⟩) (fun st2 st' σ1 G M H N hc hm hj s1 ok hN => ?_) (fun σ1 G M H hc s1 ok hj => ?_)
    · obtain ⟨rfl, hB⟩ := hj
      have sg := sg.trans s1
      rw [← Option.some.inj hm]
      exact (et_test (ev_gt (ev_d (K := K) rfl (.int _)) (ev_int (K := K))))
    · obtain ⟨rfl, hB⟩ := hj
      have sg := sg.trans s1
      have sl5 := Same.refl G
      obtain ⟨t6, e_t6, hm⟩ := bs hm
      refine q_par (σ' := fun v w => [some v, some w]) (ea_d (ev_d (K := K) rfl (.int _)) (ea_d (ev_modO e_t6 (ev_d (K := K) rfl (.int _)) (ev_d (K := K) rfl (.int _))) ea_nil)) ok (fun _ _ => rfl) (fun v_one v_other G H s1 ok h_one h_other => ?_)
      have sg := sg.trans s1
      have sl5 := sl5.trans s1
      cases h_one
      cases h_other
      refine q_nil ?_
      cases hm
      exact hN _ _ _ _ sl5 ok ⟨rfl, hB⟩
    · obtain ⟨rfl, hB⟩ := hj
      have sg := sg.trans s1
      refine q_ret (ev_d (K := K) rfl (.int _)) ok (fun v G H s1 ok hv => ?_)
      have sg := sg.trans s1
      cases hm
      exact q v G H sg (ok.less hB) hv
/-! ### common -/
theorem sc_common : FnScope ["numbers", "found", "number"] ["numbers"] (defScope s_common) := ⟨rfl, rfl, rfl, by decide +kernel, rfl, by decide +kernel, by decide +kernel⟩
def a_common (K : PySem.W.Frag) (a : (List Int)) : List V → Hp → Prop := conP (DD K ((eT Dat.int) a)) (nilP)
def m_common (a : (List Int)) : Option Int :=
  (forO (fun (st2 : Int) (x3 : Int) => (m_shared (st2, x3)).bind fun t8 => (fdivO st2 t8).bind fun t9 => (mulO t9 x3).bind fun t10 => some t10) a (1 : Int)).bind fun fin1 => some fin1
abbrev sp_common [Tb] (K : PySem.W.Frag) : Sp := spP (a_common K) (m_common) fun r => DD K (Dat.int r)
theorem ok_common [Tb] {P : Program} {w : World} {K : PySem.W.Frag} {mg : Str → Option Value} {base : Heap} (T : Txt K mg) (O_shared : FnOk P w K mg base CX0 1 T.a_shared T.d_shared ["one", "other"] (sp_shared K)) : FnOk P w K mg base CX0 (2) T.a_common T.d_common ["numbers"] (sp_common K) := by
  refine T.F_common.ok sc_common (fun vs H Q E h => ?_) (fun cdv A outer s0 H vs Q E hr h => ?_)
  · obtain ⟨G, M0, a, r, ok, ⟨v_numbers, _, rfl, h_numbers, rfl⟩, hm, q⟩ := h
    rfl
  · obtain ⟨G, M0, a, r, ok, ⟨v_numbers, _, rfl, h_numbers, rfl⟩, hm, q⟩ := h
    unfold m_common at hm
    have sg := Same.refl G
    have hB := Same.refl M0
    refine ⟨_, (pss_cons (ps_set (i := 1) sc_common.nd rfl (.inl rfl) pe_int) (pss_cons (ps_for PassesOwn.never rfl (pi_tupK (K := K) (pv 0)) (pg_name (i := 2) sc_common.nd rfl (.inl rfl)) (pss_cons (ps_set (i := 1) sc_common.nd rfl (.inl rfl) (pe_op op_mulO (pe_op op_fdivO (pv 1) (pe_call O_shared (hr.mono (by decide)) (by rfl) T.g_shared T.F_shared.kp T.b_shared .nil pass0 (pa_cons (pv 1) (pa_cons (pv 2) pa_nil)))) (pv 2))) pss_nil)) (pss_cons (ps_ret (pv 1)) pss_nil))), ?_⟩
    refine nrm (σ' := [some v_numbers, none, none]) rfl ?_
    refine q_set (σ' := fun v => [some v_numbers, some v, none]) (ev_int (K := K)) ok (fun _ => rfl) (fun v_found G H s1 ok h_found => ?_)
    have h_numbers := dp_up s1 _ h_numbers
    have sg := sg.trans s1
    cases h_found
    obtain ⟨fin1, e_fin1, hm⟩ := bs hm
    have hmo4 := hm
    refine q_forO (ea := Dat.int) (src_tup (ev_d (K := K) rfl h_numbers)) ok (fun (st2 : Int) σ1 G1 M1 => ∃ (y_number : Option V), σ1 = [some v_numbers, some (.int st2), y_number] ∧ (Same M0 M1)) e_fin1 (fun G1 s1 => ⟨_, rfl, hB⟩) (by rintro _ _ _ _ _ ⟨y_number, rfl, hB⟩ s2; exact ⟨_, rfl, hB⟩) (fun x3 xv6 st2 st' σ1 G M H N hm hj s1 ok hv hN => ?_) (fun σ1 G M H s1 ok hj => ?_)
    · obtain ⟨y_number, rfl, hB⟩ := hj
      have h_numbers := dp_up s1 _ h_numbers
      have sg := sg.trans s1
      have sl7 := Same.refl G
      refine gn ?_
      have h_number := hv
      cases h_number
      refine nrm (σ' := [some v_numbers, some (.int st2), some (.int x3)]) rfl ?_
      obtain ⟨t8, e_t8, hm⟩ := bs hm
      obtain ⟨t9, e_t9, hm⟩ := bs hm
      obtain ⟨t10, e_t10, hm⟩ := bs hm
      refine q_set (σ' := fun v => [some v_numbers, some v, some (.int x3)]) (ev_mulO e_t10 (ev_fdivO e_t9 (ev_d (K := K) rfl (.int _)) (ev_callP (res := fun r => DD K (Dat.int r)) (a := (st2, x3)) e_t8 (ea_d (ev_d (K := K) rfl (.int _)) (ea_d (ev_d (K := K) rfl (.int _)) ea_nil)))) (ev_d (K := K) rfl (.int _))) ok (fun _ => rfl) (fun v_found G H s1 ok h_found => ?_)
      have h_numbers := dp_up s1 _ h_numbers
      have sg := sg.trans s1
      have sl7 := sl7.trans s1
      cases h_found
      refine q_nil ?_
      cases hm
      exact hN _ _ _ _ sl7 ok ⟨_, rfl, hB⟩
    · obtain ⟨y_number, rfl, hB⟩ := hj
      have h_numbers := dp_up s1 _ h_numbers
      have sg := sg.trans s1
      refine q_ret (ev_d (K := K) rfl (.int _)) ok (fun v G H s1 ok hv => ?_)
      have sg := sg.trans s1
      cases hm
      exact q v G H sg (ok.less hB) hv
/-! ### all_marks -/
theorem sc_all_marks : FnScope ["peal", "name", "marks"] ["peal"] (defScope s_all_marks) := ⟨rfl, rfl, rfl, by decide +kernel, rfl, by decide +kernel, by decide +kernel⟩
def a_all_marks (K : PySem.W.Frag) (a : ((List (Str × Int)) × (List (Str × Str × Int)) × (List (Str × Int)) × (List ((Str × Str) × Int)))) : List V → Hp → Prop := conP (DD K (eX_Peal a)) (nilP)
def m_all_marks (a : ((List (Str × Int)) × (List (Str × Str × Int)) × (List (Str × Int)) × (List ((Str × Str) × Int)))) : Option (List Int) :=
  (lcO (fun x1 : (Str × Int) => some x1.2) a.1).bind fun t9 => some t9
abbrev sp_all_marks [Tb] (K : PySem.W.Frag) : Sp := spP (a_all_marks K) (m_all_marks) fun r => DD K ((eT Dat.int) r)
theorem ok_all_marks [Tb] {P : Program} {w : World} {K : PySem.W.Frag} {mg : Str → Option Value} {base : Heap} (T : Txt K mg) : FnOk P w K mg base CX0 (1) T.a_all_marks T.d_all_marks ["peal"] (sp_all_marks K) := by
  refine T.F_all_marks.ok sc_all_marks (fun vs H Q E h => ?_) (fun cdv A outer s0 H vs Q E hr h => ?_)
  · obtain ⟨G, M0, a, r, ok, ⟨v_peal, _, rfl, h_peal, rfl⟩, hm, q⟩ := h
    rfl
  · obtain ⟨G, M0, a, r, ok, ⟨v_peal, _, rfl, h_peal, rfl⟩, hm, q⟩ := h
    unfold m_all_marks at hm
    have sg := Same.refl G
    have hB := Same.refl M0
    refine ⟨_, (pss_cons (ps_ret (pe_callTy (cl_tupleK (K := K)) (by rfl) T.n_tuple (by decide +kernel) (pa_cons (pe_lc (own := [("name", 1), ("marks", 2)]) (g := (gTup K 2 (gCons (gName 1) (gCons (gName 2) gNil)))) (tt := tYes) rfl sc_all_marks.nd (pi_tupK (K := K) (pe_fldK (K := K) (pv 0))) (blkOk_by (own := [("name", 1), ("marks", 2)]) (N := ["peal", "name", "marks"]) (sc := defScope s_all_marks) (by decide +kernel)) (fun _ _ _ _ _ => (pg_tup rfl (pgs_cons (pg_name (i := 1) sc_all_marks.nd rfl (by first | exact .inl rfl | exact .inr rfl)) (pgs_cons (pg_name (i := 2) sc_all_marks.nd rfl (by first | exact .inl rfl | exact .inr rfl)) pgs_nil)))) (fun _ _ _ _ _ => pts_nil) (fun _ _ _ _ _ => (pv 2))) pa_nil))) pss_nil), ?_⟩
    refine nrm (σ' := [some v_peal, none, none]) rfl ?_
    obtain ⟨t9, e_t9, hm⟩ := bs hm
    refine q_ret (ev_tupL (ea_d (EvL.ev (el_lcM (ea := (eP2 Dat.str Dat.int)) (eb := Dat.int) (xs := a.1) (ys := t9) (hf := e_t9) (src_tup (ev_fld (d := (eT (eP2 Dat.str Dat.int)) a.1) (i := 0) T.cl_Peal T.na_Peal_bells (by decide +kernel) rfl (ev_d (K := K) rfl h_peal))) (fun x1 _ Mx5 _ _ he6 sM4 sG3 hv2 => by cases he6; exact (tg_t2 hv2 fun _ _ h7 h8 => (tg_name (tg_name ⟨rfl, (ev_d (K := K) rfl h8)⟩)))))) ea_nil)) ok (fun v G H s1 ok hv => ?_)
    have sg := sg.trans s1
    cases hm
    exact q v G H sg (ok.less hB) hv
/-! ### comes_whole -/
theorem sc_comes_whole : FnScope ["moduli", "weights", "vector", "whole", "total", "one", "part", "modulus"] ["moduli", "weights", "vector"] (defScope s_comes_whole) := ⟨rfl, rfl, rfl, by decide +kernel, rfl, by decide +kernel, by decide +kernel⟩
def a_comes_whole (K : PySem.W.Frag) (a : (List Int) × (List Int) × (List Int)) : List V → Hp → Prop := conP (DD K ((eT Dat.int) a.1)) (conP (DD K ((eT Dat.int) a.2.1)) (conP (DD K ((eT Dat.int) a.2.2)) (nilP)))
def m_comes_whole (a : (List Int) × (List Int) × (List Int)) : Option Bool :=
  (m_common a.1).bind fun t1 => (lcO (fun x2 : (Int × Int × Int) => (mulO x2.1 x2.2.1).bind fun t11 => (fdivO t1 x2.2.2).bind fun t12 => (mulO t11 t12).bind fun t13 => some t13) (a.2.1.zip (a.2.2.zip a.1))).bind fun t14 => (modO t14.sum t1).bind fun t15 => some (decide (t15 = (0 : Int)))
abbrev sp_comes_whole [Tb] (K : PySem.W.Frag) : Sp := spP (a_comes_whole K) (m_comes_whole) fun r => DD K (Dat.bool r)
theorem ok_comes_whole [Tb] {P : Program} {w : World} {K : PySem.W.Frag} {mg : Str → Option Value} {base : Heap} (T : Txt K mg) (O_common : FnOk P w K mg base CX0 2 T.a_common T.d_common ["numbers"] (sp_common K)) : FnOk P w K mg base CX0 (3) T.a_comes_whole T.d_comes_whole ["moduli", "weights", "vector"] (sp_comes_whole K) := by
  refine T.F_comes_whole.ok sc_comes_whole (fun vs H Q E h => ?_) (fun cdv A outer s0 H vs Q E hr h => ?_)
  · obtain ⟨G, M0, a, r, ok, ⟨v_moduli, _, rfl, h_moduli, v_weights, _, rfl, h_weights, v_vector, _, rfl, h_vector, rfl⟩, hm, q⟩ := h
    rfl
  · obtain ⟨G, M0, a, r, ok, ⟨v_moduli, _, rfl, h_moduli, v_weights, _, rfl, h_weights, v_vector, _, rfl, h_vector, rfl⟩, hm, q⟩ := h
    unfold m_comes_whole at hm
    have sg := Same.refl G
    have hB := Same.refl M0
    refine ⟨_, (pss_cons (ps_set (i := 3) sc_comes_whole.nd rfl (.inr rfl) (pe_call O_common (hr.mono (by decide)) (by rfl) T.g_common T.F_common.kp T.b_common .nil pass0 (pa_cons (pv 0) pa_nil))) (pss_cons (ps_set (i := 4) sc_comes_whole.nd rfl (.inl rfl) (pe_callB (cr_sumK (K := K) rfl) (by rfl) T.n_sum (by decide +kernel) (pa_cons (pe_lc (own := [("one", 5), ("part", 6), ("modulus", 7)]) (g := (gTup K 3 (gCons (gName 5) (gCons (gName 6) (gCons (gName 7) gNil))))) (tt := tYes) rfl sc_comes_whole.nd (pi_zip3K (K := K) true true true (by rfl) T.n_zip (pa_cons (pv 1) (pa_cons (pv 2) (pa_cons (pv 0) pa_nil)))) (blkOk_by (own := [("one", 5), ("part", 6), ("modulus", 7)]) (N := ["moduli", "weights", "vector", "whole", "total", "one", "part", "modulus"]) (sc := defScope s_comes_whole) (by decide +kernel)) (fun _ _ _ _ _ => (pg_tup rfl (pgs_cons (pg_name (i := 5) sc_comes_whole.nd rfl (by first | exact .inl rfl | exact .inr rfl)) (pgs_cons (pg_name (i := 6) sc_comes_whole.nd rfl (by first | exact .inl rfl | exact .inr rfl)) (pgs_cons (pg_name (i := 7) sc_comes_whole.nd rfl (by first | exact .inl rfl | exact .inr rfl)) pgs_nil))))) (fun _ _ _ _ _ => pts_nil) (fun _ _ _ _ _ => (pe_op op_mulO (pe_op op_mulO (pv 5) (pv 6)) (pe_op op_fdivO (pv 3) (pv 7))))) pa_nil))) (pss_cons (ps_ret (pe_cmpR op_eq (pe_op op_modN (pv 4) (pv 3)) pe_int (nomark _))) pss_nil))), ?_⟩
    refine nrm (σ' := [some v_moduli, some v_weights, some v_vector, none, none, none, none, none]) rfl ?_
    obtain ⟨t1, e_t1, hm⟩ := bs hm
    refine q_set (σ' := fun v => [some v_moduli, some v_weights, some v_vector, some v, none, none, none, none]) (ev_callP (res := fun r => DD K (Dat.int r)) (a := a.1) e_t1 (ea_d (ev_d (K := K) rfl h_moduli) ea_nil)) ok (fun _ => rfl) (fun v_whole G H s1 ok h_whole => ?_)
    have h_moduli := dp_up s1 _ h_moduli
    have h_weights := dp_up s1 _ h_weights
    have h_vector := dp_up s1 _ h_vector
    have sg := sg.trans s1
    cases h_whole
    obtain ⟨t14, e_t14, hm⟩ := bs hm
    refine q_set (σ' := fun v => [some v_moduli, some v_weights, some v_vector, some (.int t1), some v, none, none, none]) (ev_sumL (ea_d (EvL.ev (el_lcM (ea := (eR3 Dat.int Dat.int Dat.int)) (eb := Dat.int) (xs := (a.2.1.zip (a.2.2.zip a.1))) (ys := t14) (hf := e_t14) (Src.is (src_zip3 (ka := true) (kb := true) (kc := true) (ea_d (ev_d (K := K) rfl h_weights) (ea_d (ev_d (K := K) rfl h_vector) (ea_d (ev_d (K := K) rfl h_moduli) ea_nil)))) zip3D_map) (fun x2 _ Mx6 _ _ he7 sM5 sG4 hv3 => by (obtain ⟨t11, e_t11, he7⟩ := bs he7); (obtain ⟨t12, e_t12, he7⟩ := bs he7); (obtain ⟨t13, e_t13, he7⟩ := bs he7); (have he7 := Option.some.inj he7); subst he7; exact (tg_r3 hv3 fun _ _ _ h8 h9 h10 => (tg_name (tg_name (tg_name ⟨rfl, (ev_mulO e_t13 (ev_mulO e_t11 (ev_d (K := K) rfl h8) (ev_d (K := K) rfl h9)) (ev_fdivO e_t12 (ev_d (K := K) rfl (.int _)) (ev_d (K := K) rfl h10)))⟩))))))) ea_nil)) ok (fun _ => rfl) (fun v_total G H s1 ok h_total => ?_)
    have h_moduli := dp_up s1 _ h_moduli
    have h_weights := dp_up s1 _ h_weights
    have h_vector := dp_up s1 _ h_vector
    have sg := sg.trans s1
    cases h_total
    obtain ⟨t15, e_t15, hm⟩ := bs hm
    refine q_ret (ev_eqI (ev_modO e_t15 (ev_d (K := K) rfl (.int _)) (ev_d (K := K) rfl (.int _))) (ev_int (K := K))) ok (fun v G H s1 ok hv => ?_)
    have sg := sg.trans s1
    cases hm
    exact q v G H sg (ok.less hB) hv
/-! ### are_weights -/
theorem sc_are_weights : FnScope ["peal", "thing", "moduli", "vector", "part", "marks"] ["peal", "thing"] (defScope s_are_weights) := ⟨rfl, rfl, rfl, by decide +kernel, rfl, by decide +kernel, by decide +kernel⟩
def a_are_weights (K : PySem.W.Frag) (a : ((List (Str × Int)) × (List (Str × Str × Int)) × (List (Str × Int)) × (List ((Str × Str) × Int))) × Dat) : List V → Hp → Prop := conP (DD K (eX_Peal a.1)) (conP (DD K (id a.2)) (nilP))
def m_are_weights (a : ((List (Str × Int)) × (List (Str × Str × Int)) × (List (Str × Int)) × (List ((Str × Str) × Int))) × Dat) : Option Bool :=
  (m_all_marks a.1).bind fun t1 => (isO1 "Peal" isT a.2).bind fun t2 => (cond (!t2) (some true) ((lenD a.2).bind fun t3 => some (!decide (t3 = (t1.length : Int))))).bind fun t4 => cond t4 (some false) ((tupD a.2).bind fun t5 => (lcO (fun x6 : (Dat × Int) => (m_is_within_2 (x6.1, (0 : Int), (x6.2 - (1 : Int)))).bind fun t14 => some t14) (t5.zip t1)).bind fun t15 => cond (!(t15.all id)) (some false) ((m_swings a.1).bind fun t16 => (lcO (fun x17 : (List Int) => (intsD a.2).bind fun t23 => (m_comes_whole (t1, t23, x17)).bind fun t24 => some t24) t16).bind fun t25 => some (t25.all id)))
abbrev sp_are_weights [Tb] (K : PySem.W.Frag) : Sp := spP (a_are_weights K) (m_are_weights) fun r => DD K (Dat.bool r)
theorem ok_are_weights [Tb] {P : Program} {w : World} {K : PySem.W.Frag} {mg : Str → Option Value} {base : Heap} (T : Txt K mg) (O_all_marks : FnOk P w K mg base CX0 1 T.a_all_marks T.d_all_marks ["peal"] (sp_all_marks K)) (O_is_within_2 : FnOk P w K mg base CX0 2 T.a_is_within T.d_is_within ["thing", "low", "high"] (sp_is_within_2 K)) (O_swings : FnOk P w K mg base CX0 5 T.a_swings T.d_swings ["peal"] (sp_swings K)) (O_comes_whole : FnOk P w K mg base CX0 3 T.a_comes_whole T.d_comes_whole ["moduli", "weights", "vector"] (sp_comes_whole K)) : FnOk P w K mg base CX0 (6) T.a_are_weights T.d_are_weights ["peal", "thing"] (sp_are_weights K) := by
  refine T.F_are_weights.ok sc_are_weights (fun vs H Q E h => ?_) (fun cdv A outer s0 H vs Q E hr h => ?_)
  · obtain ⟨G, M0, a, r, ok, ⟨v_peal, _, rfl, h_peal, v_thing, _, rfl, h_thing, rfl⟩, hm, q⟩ := h
    rfl
  · obtain ⟨G, M0, a, r, ok, ⟨v_peal, _, rfl, h_peal, v_thing, _, rfl, h_thing, rfl⟩, hm, q⟩ := h
    unfold m_are_weights at hm
    have sg := Same.refl G
    have hB := Same.refl M0
    refine ⟨_, (pss_cons (ps_set (i := 2) sc_are_weights.nd rfl (.inr rfl) (pe_call O_all_marks (hr.mono (by decide)) (by rfl) T.g_all_marks T.F_all_marks.kp T.b_all_marks .nil pass0 (pa_cons (pv 0) pa_nil))) (pss_cons (ps_if (PW.pt (pw_or (pt_not (pt_val (pe_callB (call_isiKK (K := K)) (by rfl) T.n_isinstance (by decide +kernel) (pa_cons (pv 1) (pa_cons (pe_bltn (v := .ty "tuple") (by rfl) T.n_tuple (by decide +kernel) rfl) pa_nil))))) (pw_or1 (pt_cmpR op_ne (pe_callB (cl_lenK (K := K)) (by rfl) T.n_len (by decide +kernel) (pa_cons (pv 1) pa_nil)) (pe_callB (cl_lenK (K := K)) (by rfl) T.n_len (by decide +kernel) (pa_cons (pv 2) pa_nil)) (nomark _))))) (pss_cons (ps_ret pe_bl) pss_nil) pss_nil) (pss_cons (ps_if (pt_not (pt_val (pe_callB (cr_allK (K := K) rfl) (by rfl) T.n_all (by decide +kernel) (pa_cons (pe_lc (own := [("part", 4), ("marks", 5)]) (g := (gTup K 2 (gCons (gName 4) (gCons (gName 5) gNil)))) (tt := tYes) rfl sc_are_weights.nd (pi_zipBK (K := K) true true (by rfl) T.n_zip (pa_cons (pv 1) (pa_cons (pv 2) pa_nil))) (blkOk_by (own := [("part", 4), ("marks", 5)]) (N := ["peal", "thing", "moduli", "vector", "part", "marks"]) (sc := defScope s_are_weights) (by decide +kernel)) (fun _ _ _ _ _ => (pg_tup rfl (pgs_cons (pg_name (i := 4) sc_are_weights.nd rfl (by first | exact .inl rfl | exact .inr rfl)) (pgs_cons (pg_name (i := 5) sc_are_weights.nd rfl (by first | exact .inl rfl | exact .inr rfl)) pgs_nil)))) (fun _ _ _ _ _ => pts_nil) (fun _ _ _ _ _ => (pe_call O_is_within_2 (hr.mono (by decide)) (by rfl) T.g_is_within T.F_is_within.kp T.b_is_within .nil pass0 (pa_cons (pv 4) (pa_cons pe_int (pa_cons (pe_op op_sub (pv 5) pe_int) pa_nil)))))) pa_nil)))) (pss_cons (ps_ret pe_bl) pss_nil) pss_nil) (pss_cons (ps_ret (pe_callB (cr_allK (K := K) rfl) (by rfl) T.n_all (by decide +kernel) (pa_cons (pe_lc (own := [("vector", 3)]) (g := (gName 3)) (tt := tYes) rfl sc_are_weights.nd (pi_tupK (K := K) (pe_call O_swings (hr.mono (by decide)) (by rfl) T.g_swings T.F_swings.kp T.b_swings .nil pass0 (pa_cons (pv 0) pa_nil))) (blkOk_by (own := [("vector", 3)]) (N := ["peal", "thing", "moduli", "vector", "part", "marks"]) (sc := defScope s_are_weights) (by decide +kernel)) (fun _ _ _ _ _ => (pg_name (i := 3) sc_are_weights.nd rfl (by first | exact .inl rfl | exact .inr rfl))) (fun _ _ _ _ _ => pts_nil) (fun _ _ _ _ _ => (pe_call O_comes_whole (hr.mono (by decide)) (by rfl) T.g_comes_whole T.F_comes_whole.kp T.b_comes_whole .nil pass0 (pa_cons (pv 2) (pa_cons (pv 1) (pa_cons (pv 3) pa_nil)))))) pa_nil))) pss_nil)))), ?_⟩
    refine nrm (σ' := [some v_peal, some v_thing, none, none, none, none]) rfl ?_
    obtain ⟨t1, e_t1, hm⟩ := bs hm
    refine q_set (σ' := fun v => [some v_peal, some v_thing, some v, none, none, none]) (ev_callP (res := fun r => DD K ((eT Dat.int) r)) (a := a.1) e_t1 (ea_d (ev_d (K := K) rfl h_peal) ea_nil)) ok (fun _ => rfl) (fun v_moduli G H s1 ok h_moduli => ?_)
    have h_peal := dp_up s1 _ h_peal
    have h_thing := dp_up s1 _ h_thing
    have sg := sg.trans s1
    obtain ⟨t2, e_t2, hm⟩ := bs hm
    obtain ⟨t4, e_t4, hm⟩ := bs hm
    refine q_if (et_orG (c := t4) (et_not (et_B (ev_isiD1 isc_T isn_T T.co_Peal (kn_T T.cn_Peal) e_t2 (ea_d (ev_d (K := K) rfl h_thing) (ea_cons mo_cls ev_cls ea_nil))))) (fun eb => by have e1 := cond_f eb e_t4; (obtain ⟨t3, e_t3, e1⟩ := bs e1); (have e1 := Option.some.inj e1); subst e1; exact (et_test (ev_neI (ev_lenD e_t3 (ea_d (ev_d (K := K) rfl h_thing) ea_nil)) (ev_lenTM (e := Dat.int) (ea_d (ev_d (K := K) rfl h_moduli) ea_nil))))) (fun eb => by have e1 := cond_t eb e_t4; cases e1; exact ⟨rfl, rfl⟩)) ok (fun hb G H s1 ok => ?_) (fun hb G H s1 ok => ?_)
    · have hm := cond_t hb hm
      have h_peal := dp_up s1 _ h_peal
      have h_thing := dp_up s1 _ h_thing
      have h_moduli := dp_up s1 _ h_moduli
      have sg := sg.trans s1
      refine q_ret (ev_bl (K := K)) ok (fun v G H s1 ok hv => ?_)
      have sg := sg.trans s1
      cases hm
      exact q v G H sg (ok.less hB) hv
    · have hm := cond_f hb hm
      have h_peal := dp_up s1 _ h_peal
      have h_thing := dp_up s1 _ h_thing
      have h_moduli := dp_up s1 _ h_moduli
      have sg := sg.trans s1
      refine q_nilU ?_
      obtain ⟨t5, e_t5, hm⟩ := bs hm
      obtain ⟨t15, e_t15, hm⟩ := bs hm
      refine q_if (et_not (et_B (ev_allL (ea_d (EvL.ev (el_lcM (ea := (eR2 id Dat.int)) (eb := Dat.bool) (xs := (t5.zip t1)) (ys := t15) (hf := e_t15) (Src.is (src_zipB (ka := true) (kb := true) (ea_d (ev_tupD e_t5 (ev_d (K := K) rfl h_thing)) (ea_d (ev_d (K := K) rfl h_moduli) ea_nil))) zipD_map) (fun x6 _ Mx10 _ _ he11 sM9 sG8 hv7 => by (obtain ⟨t14, e_t14, he11⟩ := bs he11); (have he11 := Option.some.inj he11); subst he11; exact (tg_r2 hv7 fun _ _ h12 h13 => (tg_name (tg_name ⟨rfl, (ev_callP (res := fun r => DD K (Dat.bool r)) (a := (x6.1, (0 : Int), (x6.2 - (1 : Int)))) e_t14 (ea_d (ev_d (K := K) rfl h12) (ea_d (ev_int (K := K)) (ea_d (ev_sub (ev_d (K := K) rfl h13) (ev_int (K := K))) ea_nil))))⟩)))))) ea_nil)))) ok (fun hb G H s1 ok => ?_) (fun hb G H s1 ok => ?_)
      · have hm := cond_t hb hm
        have h_peal := dp_up s1 _ h_peal
        have h_thing := dp_up s1 _ h_thing
        have h_moduli := dp_up s1 _ h_moduli
        have sg := sg.trans s1
        refine q_ret (ev_bl (K := K)) ok (fun v G H s1 ok hv => ?_)
        have sg := sg.trans s1
        cases hm
        exact q v G H sg (ok.less hB) hv
      · have hm := cond_f hb hm
        have h_peal := dp_up s1 _ h_peal
        have h_thing := dp_up s1 _ h_thing
        have h_moduli := dp_up s1 _ h_moduli
        have sg := sg.trans s1
        refine q_nilU ?_
        obtain ⟨t16, e_t16, hm⟩ := bs hm
        obtain ⟨t25, e_t25, hm⟩ := bs hm
        refine q_ret (ev_allL (ea_d (EvL.ev (el_lcM (ea := (eT Dat.int)) (eb := Dat.bool) (xs := t16) (ys := t25) (hf := e_t25) (src_tup (ev_callP (res := fun r => DD K ((eT (eT Dat.int)) r)) (a := a.1) e_t16 (ea_d (ev_d (K := K) rfl h_peal) ea_nil))) (fun x17 _ Mx21 _ _ he22 sM20 sG19 hv18 => by (obtain ⟨t23, e_t23, he22⟩ := bs he22); (obtain ⟨t24, e_t24, he22⟩ := bs he22); (have he22 := Option.some.inj he22); subst he22; exact (tg_name ⟨rfl, (ev_callP (res := fun r => DD K (Dat.bool r)) (a := (t1, t23, x17)) e_t24 (ea_d (ev_d (K := K) rfl (dp_up sG19 _ h_moduli)) (ea_d (ev_intsD e_t23 (ev_d (K := K) rfl (dp_up sG19 _ h_thing))) (ea_d (ev_d (K := K) rfl hv18) ea_nil))))⟩)))) ea_nil)) ok (fun v G H s1 ok hv => ?_)
        have sg := sg.trans s1
        cases hm
        exact q v G H sg (ok.less hB) hv
/-! ### is_weights -/
theorem sc_is_weights : FnScope ["peal", "thing"] ["peal", "thing"] (defScope s_is_weights) := ⟨rfl, rfl, rfl, by decide +kernel, rfl, by decide +kernel, by decide +kernel⟩
def a_is_weights (K : PySem.W.Frag) (a : ((List (Str × Int)) × (List (Str × Str × Int)) × (List (Str × Int)) × (List ((Str × Str) × Int))) × Dat) : List V → Hp → Prop := conP (DD K (eX_Peal a.1)) (conP (DD K (id a.2)) (nilP))
def m_is_weights (a : ((List (Str × Int)) × (List (Str × Str × Int)) × (List (Str × Int)) × (List ((Str × Str) × Int))) × Dat) : Option Bool :=
  (m_check_peal a.1).bind fun t1 => (m_are_weights (a.1, a.2)).bind fun t2 => some t2
abbrev sp_is_weights [Tb] (K : PySem.W.Frag) : Sp := spP (a_is_weights K) (m_is_weights) fun r => DD K (Dat.bool r)
theorem ok_is_weights [Tb] {P : Program} {w : World} {K : PySem.W.Frag} {mg : Str → Option Value} {base : Heap} (T : Txt K mg) (O_check_peal : FnOk P w K mg base CX0 1 T.a_check_peal T.d_check_peal ["thing"] (sp_check_peal K)) (O_are_weights : FnOk P w K mg base CX0 6 T.a_are_weights T.d_are_weights ["peal", "thing"] (sp_are_weights K)) : FnOk P w K mg base CX0 (7) T.a_is_weights T.d_is_weights ["peal", "thing"] (sp_is_weights K) := by
  refine T.F_is_weights.ok sc_is_weights (fun vs H Q E h => ?_) (fun cdv A outer s0 H vs Q E hr h => ?_)
  · obtain ⟨G, M0, a, r, ok, ⟨v_peal, _, rfl, h_peal, v_thing, _, rfl, h_thing, rfl⟩, hm, q⟩ := h
    rfl
  · obtain ⟨G, M0, a, r, ok, ⟨v_peal, _, rfl, h_peal, v_thing, _, rfl, h_thing, rfl⟩, hm, q⟩ := h
    unfold m_is_weights at hm
    have sg := Same.refl G
    have hB := Same.refl M0
    refine ⟨_, (pss_cons (ps_expr (pe_call O_check_peal (hr.mono (by decide)) (by rfl) T.g_check_peal T.F_check_peal.kp T.b_check_peal .nil pass0 (pa_cons (pv 0) pa_nil))) (pss_cons (ps_ret (pe_call O_are_weights (hr.mono (by decide)) (by rfl) T.g_are_weights T.F_are_weights.kp T.b_are_weights .nil pass0 (pa_cons (pv 0) (pa_cons (pv 1) pa_nil)))) pss_nil)), ?_⟩
    refine nrm (σ' := [some v_peal, some v_thing]) rfl ?_
    obtain ⟨t1, e_t1, hm⟩ := bs hm
    refine q_expr (ev_callP (res := fun r => DD K (eN r)) (a := a.1) e_t1 (ea_d (ev_d (K := K) rfl h_peal) ea_nil)) ok (fun G H s1 ok => ?_)
    have h_peal := dp_up s1 _ h_peal
    have h_thing := dp_up s1 _ h_thing
    have sg := sg.trans s1
    obtain ⟨t2, e_t2, hm⟩ := bs hm
    refine q_ret (ev_callP (res := fun r => DD K (Dat.bool r)) (a := (a.1, a.2)) e_t2 (ea_d (ev_d (K := K) rfl h_peal) (ea_d (ev_d (K := K) rfl h_thing) ea_nil))) ok (fun v G H s1 ok hv => ?_)
    have sg := sg.trans s1
    cases hm
    exact q v G H sg (ok.less hB) hv
/-! ### is_weights_2 -/
def a_is_weights_2 (K : PySem.W.Frag) (a : Dat × Dat) : List V → Hp → Prop := conP (DD K (id a.1)) (conP (DD K (id a.2)) (nilP))
def m_is_weights_2 (a : Dat × Dat) : Option (Bool ⊕ Ex) :=
  (m_check_peal_2 a.1).bind fun t1 => orX t1 (fun y2 => (pealD a.1).bind fun t3 => (m_are_weights (t3, a.2)).bind fun t4 => some (.inl t4)) (fun x => some (.inr x))
abbrev sp_is_weights_2 [Tb] (K : PySem.W.Frag) : Sp := spX K (a_is_weights_2 K) (m_is_weights_2) fun r => DD K (Dat.bool r)
theorem ok_is_weights_2 [Tb] {P : Program} {w : World} {K : PySem.W.Frag} {mg : Str → Option Value} {base : Heap} (T : Txt K mg) (O_check_peal_2 : FnOk P w K mg base (L2N.CX P w) 1 T.a_check_peal T.d_check_peal ["thing"] (sp_check_peal_2 K)) (O_are_weights : FnOk P w K mg base CX0 6 T.a_are_weights T.d_are_weights ["peal", "thing"] (sp_are_weights K)) : FnOk P w K mg base (L2N.CX P w) (7) T.a_is_weights T.d_is_weights ["peal", "thing"] (sp_is_weights_2 K) := by
  refine okXN T.F_is_weights sc_is_weights (fun vs H Q E h => ?_) (fun cdv A outer s0 H vs Q E hr h => ?_)
  · obtain ⟨G, M0, a, r, ok, ⟨v_peal, _, rfl, h_peal, v_thing, _, rfl, h_thing, rfl⟩, hm, q, qx⟩ := h
    rfl
  · obtain ⟨G, M0, a, r, ok, ⟨v_peal, _, rfl, h_peal, v_thing, _, rfl, h_thing, rfl⟩, hm, q, qx⟩ := h
    unfold m_is_weights_2 at hm
    have sg := Same.refl G
    have hB := Same.refl M0
    refine ⟨_, (pss_cons (ps_expr (pe_call O_check_peal_2 (hr.mono (by decide)) (by rfl) T.g_check_peal T.F_check_peal.kp T.b_check_peal .nil (L2N.passes_call (L2N.takes_of rfl rfl rfl rfl) (fun _ _ _ _ h => h)) (pa_cons (pv 0) pa_nil))) (pss_cons (ps_ret (pe_call O_are_weights (hr.mono (by decide)) (by rfl) T.g_are_weights T.F_are_weights.kp T.b_are_weights .nil pass0 (pa_cons (pv 0) (pa_cons (pv 1) pa_nil)))) pss_nil)), ?_⟩
    refine nrm (σ' := [some v_peal, some v_thing]) rfl ?_
    obtain ⟨t1, e_t1, hm⟩ := bs hm
    refine q_exprX (evr_call (res := fun r => DD K (eN r)) (a := a.1) e_t1 (ea_d (ev_d (K := K) rfl h_peal) ea_nil)) ok (fun y2 ey G H s1 ok => ?_) (fun x ex d G H s1 ok hd => by subst ex; have hm := orX_r hm; have sg := sg.trans s1; cases hm; exact qx _ rfl d _ _ sg (ok.less hB) hd)
    subst ey
    have hm := orX_l hm
    have h_peal := dp_up s1 _ h_peal
    have h_thing := dp_up s1 _ h_thing
    have sg := sg.trans s1
    obtain ⟨t3, e_t3, hm⟩ := bs hm
    obtain ⟨t4, e_t4, hm⟩ := bs hm
    refine q_ret (ev_callP (res := fun r => DD K (Dat.bool r)) (a := (t3, a.2)) e_t4 (ea_d (ev_pealD e_t3 (ev_d (K := K) rfl h_peal)) (ea_d (ev_d (K := K) rfl h_thing) ea_nil))) ok (fun v G H s1 ok hv => ?_)
    have sg := sg.trans s1
    cases hm
    exact q _ rfl v G H sg (ok.less hB) hv
/-! ### _law_opened -/
theorem sc__law_opened : FnScope ["_law_script", "_law_k", "_law_cell", "_law_great"] ["_law_script", "_law_k"] (defScope s__law_opened) := ⟨rfl, rfl, rfl, by decide +kernel, rfl, by decide +kernel, by decide +kernel⟩
def a__law_opened (K : PySem.W.Frag) (a : (List Int) × Int) : List V → Hp → Prop := conP (SCP K a.1) (conP (DD K (Dat.int a.2)) (nilP))
def m__law_opened (a : (List Int) × Int) : Option Sto :=
  (mulO (90901 : Int) a.2).bind fun t1 => (cond (decide (a.2 < (a.1.length : Int))) ((atI a.1 a.2).bind fun t4 => some t4) (some (t1 + (433 : Int)))).bind fun j2 => (cond (decide (j2 < (0 : Int))) (some true) ((powO (10 : Int) (17 : Int)).bind fun t6 => some (decide (t6 < j2)))).bind fun t7 => (mulO (if j2 < 0 then -j2 else j2) (if t7 then 1 else 0 : Int)).bind fun t8 => (mulO (2 : Int) (if j2 < 0 then -j2 else j2)).bind fun t9 => (mulO (7919 : Int) a.2).bind fun t10 => (modO (((t9 + (if t7 then 1 else 0 : Int)) + t10) + (13 : Int)) (998244353 : Int)).bind fun t11 => some (t8, (t11 + (1 : Int)), (0 : Int))
abbrev sp__law_opened [Tb] (K : PySem.W.Frag) : Sp := spO (a__law_opened K) m__law_opened
theorem ok__law_opened [Tb] {P : Program} {w : World} {K : PySem.W.Frag} {mg : Str → Option Value} {base : Heap} (T : Txt K mg) : FnOk P w K mg base CX0 (1) T.a__law_opened T.d__law_opened ["_law_script", "_law_k"] (sp__law_opened K) := by
  refine T.F__law_opened.ok sc__law_opened (fun vs H Q E h => ?_) (fun cdv A outer s0 H vs Q E hr h => ?_)
  · obtain ⟨G, M0, a, r, ok, ⟨v_l_script, _, rfl, h_l_script, v_l_k, _, rfl, h_l_k, rfl⟩, hm, q⟩ := h
    rfl
  · obtain ⟨G, M0, a, r, ok, ⟨v_l_script, _, rfl, h_l_script, v_l_k, _, rfl, h_l_k, rfl⟩, hm, q⟩ := h
    unfold m__law_opened at hm
    have sg := Same.refl G
    have hB := Same.refl M0
    refine ⟨_, (pss_cons (ps_set (i := 2) sc__law_opened.nd rfl (.inl rfl) (pe_op op_add (pe_op op_mulO pe_int (pv 1)) pe_int)) (pss_cons (ps_if (pt_cmpR op_lt (pv 1) (pe_callB (cl_lenK (K := K)) (by rfl) T.n_len (by decide +kernel) (pa_cons (pv 0) pa_nil)) (nomark _)) (pss_cons (ps_set (i := 2) sc__law_opened.nd rfl (.inl rfl) (pe_ix (ix_listK (K := K)) (pv 0) (pv 1) (fun _ _ => rfl))) pss_nil) pss_nil) (pss_cons (ps_set (i := 3) sc__law_opened.nd rfl (.inl rfl) (pe_callTy cl_int (by rfl) T.n_int (by decide +kernel) (pa_cons (pe_or (pe_cmpR op_lt (pv 2) pe_int (nomark _)) (pe_one (pe_cmpR op_gt (pv 2) (pe_op op_pow pe_int pe_int) (nomark _)))) pa_nil))) (pss_cons (ps_ret (pe_lst (pa_cons (pe_op op_mulO (pe_callB cl_abs (by rfl) T.n_abs (by decide +kernel) (pa_cons (pv 2) pa_nil)) (pv 3)) (pa_cons (pe_op op_add (pe_op op_modN (pe_op op_add (pe_op op_add (pe_op op_add (pe_op op_mulO pe_int (pe_callB cl_abs (by rfl) T.n_abs (by decide +kernel) (pa_cons (pv 2) pa_nil))) (pv 3)) (pe_op op_mulO pe_int (pv 1))) pe_int) pe_int) pe_int) (pa_cons pe_int pa_nil))))) pss_nil)))), ?_⟩
    cases h_l_k
    refine nrm (σ' := [some v_l_script, some (.int a.2), none, none]) rfl ?_
    obtain ⟨t1, e_t1, hm⟩ := bs hm
    refine q_set (σ' := fun v => [some v_l_script, some (.int a.2), some v, none]) (ev_add (ev_mulO e_t1 (ev_int (K := K)) (ev_d (K := K) rfl (.int _))) (ev_int (K := K))) ok (fun _ => rfl) (fun v_l_cell G H s1 ok h_l_cell => ?_)
    have h_l_script := mo_scp _ _ _ s1 h_l_script
    have sg := sg.trans s1
    cases h_l_cell
    obtain ⟨j2, e_j2, hm⟩ := bs hm
    refine q_ifJ (fun σ1 G1 M1 => σ1 = [some v_l_script, some (.int a.2), some (.int j2), none] ∧ (Same M0 M1)) (et_test (ev_lt (ev_d (K := K) rfl (.int _)) (ev_lenScr (ea_cons mo_scp (ev_var rfl mo_scp h_l_script) ea_nil)))) ok (fun hb G H D1 s1 ok _ _ _ kD => ?_) (fun hb G H D1 s1 ok _ _ _ kD => ?_) (fun σ1 G M H s1 ok hj => ?_)
    · have hm := cond_t hb e_j2
      have h_l_script := mo_scp _ _ _ s1 h_l_script
      have sg := sg.trans s1
      have sl3 := Same.refl G
      obtain ⟨t4, e_t4, hm⟩ := bs hm
      refine q_set (σ' := fun v => [some v_l_script, some (.int a.2), some v, none]) (ev_ixScr e_t4 (ev_var rfl mo_scp h_l_script) (ev_d (K := K) rfl (.int _))) ok (fun _ => rfl) (fun v_l_cell G H s1 ok h_l_cell => ?_)
      have h_l_script := mo_scp _ _ _ s1 h_l_script
      have sg := sg.trans s1
      have sl3 := sl3.trans s1
      cases h_l_cell
      refine q_nil ?_
      cases hm
      exact kD _ _ _ _ sl3 ok ⟨rfl, hB⟩
    · have hm := cond_f hb e_j2
      have h_l_script := mo_scp _ _ _ s1 h_l_script
      have sg := sg.trans s1
      have sl5 := Same.refl G
      refine q_nil ?_
      cases hm
      exact kD _ _ _ _ sl5 ok ⟨rfl, hB⟩
    · obtain ⟨rfl, hB⟩ := hj
      have h_l_script := mo_scp _ _ _ s1 h_l_script
      have sg := sg.trans s1
      obtain ⟨t7, e_t7, hm⟩ := bs hm
      refine q_set (σ' := fun v => [some v_l_script, some (.int a.2), some (.int j2), some v]) (ev_intB (ea_d (ev_orG (c := t7) (ev_lt (ev_d (K := K) rfl (.int _)) (ev_int (K := K))) (fun eb => by have e1 := cond_f eb e_t7; (obtain ⟨t6, e_t6, e1⟩ := bs e1); (have e1 := Option.some.inj e1); subst e1; exact (ev_gt (ev_d (K := K) rfl (.int _)) (ev_powO e_t6 (ev_int (K := K)) (ev_int (K := K))))) (fun eb => by have e1 := cond_t eb e_t7; cases e1; exact ⟨rfl, rfl⟩)) ea_nil)) ok (fun _ => rfl) (fun v_l_great G H s1 ok h_l_great => ?_)
      have h_l_script := mo_scp _ _ _ s1 h_l_script
      have sg := sg.trans s1
      cases h_l_great
      obtain ⟨t8, e_t8, hm⟩ := bs hm
      obtain ⟨t9, e_t9, hm⟩ := bs hm
      obtain ⟨t10, e_t10, hm⟩ := bs hm
      obtain ⟨t11, e_t11, hm⟩ := bs hm
      cases hm
      refine q_retL (el_lst (ea_consD (ev_mulO e_t8 (ev_abs (ea_d (ev_d (K := K) rfl (.int _)) ea_nil)) (ev_d (K := K) rfl (.int _))) (ea_consD (ev_add (ev_modO e_t11 (ev_add (ev_add (ev_add (ev_mulO e_t9 (ev_int (K := K)) (ev_abs (ea_d (ev_d (K := K) rfl (.int _)) ea_nil))) (ev_d (K := K) rfl (.int _))) (ev_mulO e_t10 (ev_int (K := K)) (ev_d (K := K) rfl (.int _)))) (ev_int (K := K))) (ev_int (K := K))) (ev_int (K := K))) (ea_consD (ev_int (K := K)) (ea_nilD (K := K)))))) ok (fun p vs G H s1 ok hp hd => ?_)
      have sg := sg.trans s1
      cases vs_sto hd
      exact q _ _ _ sg (ok.less (same_upd2 hB)) (hB.free hp)
/-! ### _law_pull -/
theorem sc__law_pull : FnScope ["_law_store", "_law_many", "_law_found", "_law_state"] ["_law_store", "_law_many"] (defScope s__law_pull) := ⟨rfl, rfl, rfl, by decide +kernel, rfl, by decide +kernel, by decide +kernel⟩
def a__law_pull (K : PySem.W.Frag) (a : Int) : List V → Hp → Prop := conP (DD K (Dat.int a)) (nilP)
def m__law_pull (a : Int) (z : Sto) : Option (Int × Sto) := pullM a z
abbrev sp__law_pull [Tb] (K : PySem.W.Frag) : Sp := spD (a__law_pull K) m__law_pull fun r => DD K (Dat.int r)
theorem ok__law_pull [Tb] {P : Program} {w : World} {K : PySem.W.Frag} {mg : Str → Option Value} {base : Heap} (T : Txt K mg) : FnOk P w K mg base CX0 1 T.a__law_pull T.d__law_pull ["_law_store", "_law_many"] (sp__law_pull K) := by
  refine T.F__law_pull.ok sc__law_pull (fun vs H Q E h => ?_) (fun cdv A outer s0 H vs Q E hr h => ?_)
  · obtain ⟨G, M0, s, z, z1, a, r, ws, rfl, ok, hs, ⟨v_m, _, rfl, h_m, rfl⟩, hm, q⟩ := h
    rfl
  · obtain ⟨G, M0, s, z, z1, a, r, ws, rfl, ok, hs, ⟨v_m, _, rfl, h_m, rfl⟩, hm, q⟩ := h
    cases h_m
    unfold m__law_pull pullM at hm
    refine ⟨_, (pss_cons (ps_asg (pe_op op_add (pe_ix (ix_listK (K := K)) (pv 0) pe_int (fun _ _ => rfl)) pe_int) (pg_sub (pv 0) pe_int set_list))
      (pss_cons (ps_if (pt_cmpR op_gt (pe_ix (ix_listK (K := K)) (pv 0) pe_int (fun _ _ => rfl)) pe_int (nomark _))
        (pss_cons (ps_asg (pe_callB cl_divmod (by rfl) T.n_divmod (by decide +kernel) (pa_cons (pe_ix (ix_listK (K := K)) (pv 0) pe_int (fun _ _ => rfl)) (pa_cons (pv 1) pa_nil))) (pg_tup rfl (pgs_cons (pg_sub (pv 0) pe_int set_list) (pgs_cons (pg_name (i := 2) sc__law_pull.nd rfl (.inl rfl)) pgs_nil))))
          (pss_cons (ps_ret (pv 2)) pss_nil)) pss_nil)
      (pss_cons (ps_set (i := 3) sc__law_pull.nd rfl (.inl rfl) (pe_ix (ix_listK (K := K)) (pv 0) pe_int (fun _ _ => rfl)))
      (pss_cons (ps_asg (pe_op op_modN (pe_op op_add (pe_op op_add (pe_op op_mulO (pv 3) (pe_op op_add (pe_op op_modN (pv 3) pe_int) pe_int)) (pe_op op_mulO pe_int (pe_ix (ix_listK (K := K)) (pv 0) pe_int (fun _ _ => rfl)))) pe_int) pe_int) (pg_sub (pv 0) pe_int set_list))
      (pss_cons (ps_ret (pe_op op_modN (pe_op op_fdivO (pe_ix (ix_listK (K := K)) (pv 0) pe_int (fun _ _ => rfl)) pe_int) (pv 1))) pss_nil))))), ?_⟩
    refine nrm (σ' := [some (.ref s), some (.int a), none, none]) rfl ?_
    have d3 : ∀ (x y z : Int) (G : Hp), DqAll K G [.int x, .int y, .int z] [.int x, .int y, .int z] := fun x y z G => .cons (.int x) (.cons (.int y) (.cons (.int z) .nil))
    refine q_setItem (K := K) (d := .int (z.2.2 + 1)) (ev_add (ev_ixO (ds := [.int z.1, .int z.2.1, .int z.2.2]) (d := .int z.2.2) (ev_own rfl) (ev_int (K := K)) hs (d3 _ _ _ _) rfl) (ev_int (K := K))) (ev_own rfl) (ev_int (K := K)) hs rfl ok (fun v G H s1 ok hv => ?_)
    cases hv
    have sg := s1
    have hs1 : (upd M0 s (.lst [.int z.1, .int z.2.1, .int (z.2.2 + 1)])) s = some (.lst [.int z.1, .int z.2.1, .int (z.2.2 + 1)]) := upd_same
    refine q_if (et_test (ev_gt (ev_ixO (ds := [.int z.1, .int z.2.1, .int (z.2.2 + 1)]) (d := .int z.1) (ev_own rfl) (ev_int (K := K)) hs1 (d3 _ _ _ _) rfl) (ev_int (K := K)))) ok (fun hb G H s1 ok => ?_) (fun hb G H s1 ok => ?_)
    · have hm := cond_t hb hm
      have sg := sg.trans s1
      obtain ⟨t1, e_t1, hm⟩ := bs hm
      refine q_asgG (ev_dmO e_t1 (ea_d (ev_ixO (ds := [.int z.1, .int z.2.1, .int (z.2.2 + 1)]) (d := .int z.1) (ev_own rfl) (ev_int (K := K)) hs1 (d3 _ _ _ _) rfl) (ea_d (ev_d (K := K) rfl (.int _)) ea_nil))) ok (fun v G H s1 ok hv => ?_)
      have sg := sg.trans s1
      refine gr2 hv ok.g (fun w1 w2 hw1 hw2 => ?_)
      cases hw1
      refine gs_list (K := K) (ev_own rfl) (ev_int (K := K)) hs1 rfl ok (fun G H s1 ok => ?_)
      have sg := sg.trans s1
      cases hw2
      refine gn ?_
      refine nrm (σ' := [some (.ref s), some (.int a), some (.int t1.2), none]) rfl ?_
      refine q_ret (ev_d (K := K) rfl (.int _)) ok (fun v G H s1 ok hv => ?_)
      cases hm
      rw [upd_upd] at ok
      exact q v G H (sg.trans s1) ok hv
    · have hm := cond_f hb hm
      have sg := sg.trans s1
      refine q_nilU ?_
      refine q_set (σ' := fun v => [some (.ref s), some (.int a), none, some v]) (ev_ixO (K := K) (ds := [.int z.1, .int z.2.1, .int (z.2.2 + 1)]) (d := .int z.2.1) (ev_own rfl) (ev_int (K := K)) hs1 (d3 _ _ _ _) rfl) ok (fun _ => rfl) (fun v G H s1 ok hv => ?_)
      cases hv
      have sg := sg.trans s1
      obtain ⟨t1, e_t1, hm⟩ := bs hm
      obtain ⟨t2, e_t2, hm⟩ := bs hm
      obtain ⟨t3, e_t3, hm⟩ := bs hm
      obtain ⟨t4, e_t4, hm⟩ := bs hm
      obtain ⟨t5, e_t5, hm⟩ := bs hm
      obtain ⟨t6, e_t6, hm⟩ := bs hm
      refine q_setItem (K := K) (ev_modO e_t4 (ev_add (ev_add (ev_mulO e_t2 (ev_d (K := K) rfl (.int _)) (ev_add (ev_modO e_t1 (ev_d (K := K) rfl (.int _)) (ev_int (K := K))) (ev_int (K := K)))) (ev_mulO e_t3 (ev_int (K := K)) (ev_ixO (ds := [.int z.1, .int z.2.1, .int (z.2.2 + 1)]) (d := .int (z.2.2 + 1)) (ev_own rfl) (ev_int (K := K)) hs1 (d3 _ _ _ _) rfl))) (ev_int (K := K))) (ev_int (K := K))) (ev_own rfl) (ev_int (K := K)) hs1 rfl ok (fun v G H s1 ok hv => ?_)
      cases hv
      have sg := sg.trans s1
      rw [upd_upd] at ok
      have hs2 : (upd M0 s (.lst [.int z.1, .int t4, .int (z.2.2 + 1)])) s = some (.lst [.int z.1, .int t4, .int (z.2.2 + 1)]) := upd_same
      refine q_ret (ev_modO e_t6 (ev_fdivO e_t5 (ev_ixO (K := K) (ds := [.int z.1, .int t4, .int (z.2.2 + 1)]) (d := .int t4) (ev_own rfl) (ev_int (K := K)) hs2 (d3 _ _ _ _) rfl) (ev_int (K := K))) (ev_d (K := K) rfl (.int _))) ok (fun v G H s1 ok hv => ?_)
      cases hm
      exact q v G H (sg.trans s1) ok hv
/-! ### _law_spelt -/
theorem sc__law_spelt : FnScope ["_law_figure_here", "_law_wide", "_law_word", "_law_turn"] ["_law_figure_here", "_law_wide"] (defScope s__law_spelt) := ⟨rfl, rfl, rfl, by decide +kernel, rfl, by decide +kernel, by decide +kernel⟩
def a__law_spelt (K : PySem.W.Frag) (a : Int × Int) : List V → Hp → Prop := conP (DD K (Dat.int a.1)) (conP (DD K (Dat.int a.2)) (nilP))
def m__law_spelt (a : Int × Int) : Option Str :=
  (rngO a.2).bind fun t1 => (forO (fun (st3 : Str × Int) (x4 : Int) => (modO st3.2 (26 : Int)).bind fun t9 => (atS (Str.ofString "abcdefghijklmnopqrstuvwxyz") t9).bind fun t10 => (addS t10 st3.1).bind fun t11 => (fdivO st3.2 (26 : Int)).bind fun t12 => some (t11, t12)) t1 ((Str.ofString ""), a.1)).bind fun fin2 => some fin2.1
abbrev sp__law_spelt [Tb] (K : PySem.W.Frag) : Sp := spP (a__law_spelt K) (m__law_spelt) fun r => DD K (Dat.str r)
theorem ok__law_spelt [Tb] {P : Program} {w : World} {K : PySem.W.Frag} {mg : Str → Option Value} {base : Heap} (T : Txt K mg) : FnOk P w K mg base CX0 (1) T.a__law_spelt T.d__law_spelt ["_law_figure_here", "_law_wide"] (sp__law_spelt K) := by
  refine T.F__law_spelt.ok sc__law_spelt (fun vs H Q E h => ?_) (fun cdv A outer s0 H vs Q E hr h => ?_)
  · obtain ⟨G, M0, a, r, ok, ⟨v_l_figure_here, _, rfl, h_l_figure_here, v_l_wide, _, rfl, h_l_wide, rfl⟩, hm, q⟩ := h
    rfl
  · obtain ⟨G, M0, a, r, ok, ⟨v_l_figure_here, _, rfl, h_l_figure_here, v_l_wide, _, rfl, h_l_wide, rfl⟩, hm, q⟩ := h
    unfold m__law_spelt at hm
    have sg := Same.refl G
    have hB := Same.refl M0
    refine ⟨_, (pss_cons (ps_set (i := 2) sc__law_spelt.nd rfl (.inl rfl) pe_str) (pss_cons (ps_for PassesOwn.never rfl (pi_range1 (by rfl) T.n_range (pa_cons (pv 1) pa_nil)) (pg_name (i := 3) sc__law_spelt.nd rfl (.inl rfl)) (pss_cons (ps_set (i := 2) sc__law_spelt.nd rfl (.inl rfl) (pe_op op_add_str (pe_ix ix_str pe_str (pe_op op_modN (pv 0) pe_int) (fun _ _ => rfl)) (pv 2))) (pss_cons (ps_set (i := 0) sc__law_spelt.nd rfl (.inl rfl) (pe_op op_fdivO (pv 0) pe_int)) pss_nil))) (pss_cons (ps_ret (pv 2)) pss_nil))), ?_⟩
    cases h_l_figure_here
    cases h_l_wide
    refine nrm (σ' := [some (.int a.1), some (.int a.2), none, none]) rfl ?_
    refine q_set (σ' := fun v => [some (.int a.1), some (.int a.2), some v, none]) (ev_str (K := K) (by decide +kernel)) ok (fun _ => rfl) (fun v_l_word G H s1 ok h_l_word => ?_)
    have sg := sg.trans s1
    obtain ⟨t1, e_t1, hm⟩ := bs hm
    obtain ⟨fin2, e_fin2, hm⟩ := bs hm
    have hmo5 := hm
    refine q_forO (ea := Dat.int) (src_rngO e_t1 (ea_d (ev_d (K := K) rfl (.int _)) ea_nil)) ok (fun (st3 : Str × Int) σ1 G1 M1 => ∃ (y_l_turn : Option V) (v_l_word : V), σ1 = [some (.int st3.2), some (.int a.2), some v_l_word, y_l_turn] ∧ (Dq K G1 v_l_word (Dat.str st3.1)) ∧ (Same M0 M1)) e_fin2 (fun G1 s1 => ⟨_, _, rfl, dp_up s1 _ h_l_word, hB⟩) (by rintro _ _ _ _ _ ⟨y_l_turn, v_l_word, rfl, h_l_word, hB⟩ s2; exact ⟨_, _, rfl, dp_up s2 _ h_l_word, hB⟩) (fun x4 xv7 st3 st' σ1 G M H N hm hj s1 ok hv hN => ?_) (fun σ1 G M H s1 ok hj => ?_)
    · obtain ⟨y_l_turn, v_l_word, rfl, h_l_word, hB⟩ := hj
      have sg := sg.trans s1
      have sl8 := Same.refl G
      refine gn ?_
      have h_l_turn := hv
      cases h_l_turn
      refine nrm (σ' := [some (.int st3.2), some (.int a.2), some v_l_word, some (.int x4)]) rfl ?_
      obtain ⟨t9, e_t9, hm⟩ := bs hm
      obtain ⟨t10, e_t10, hm⟩ := bs hm
      obtain ⟨t11, e_t11, hm⟩ := bs hm
      refine q_set (σ' := fun v => [some (.int st3.2), some (.int a.2), some v, some (.int x4)]) (ev_addS e_t11 (ev_ixS e_t10 (ev_str (K := K) (by decide +kernel)) (ev_modO e_t9 (ev_d (K := K) rfl (.int _)) (ev_int (K := K)))) (ev_d (K := K) rfl h_l_word)) ok (fun _ => rfl) (fun v_l_word G H s1 ok h_l_word => ?_)
      have sg := sg.trans s1
      have sl8 := sl8.trans s1
      obtain ⟨t12, e_t12, hm⟩ := bs hm
      refine q_set (σ' := fun v => [some v, some (.int a.2), some v_l_word, some (.int x4)]) (ev_fdivO e_t12 (ev_d (K := K) rfl (.int _)) (ev_int (K := K))) ok (fun _ => rfl) (fun v_l_figure_here G H s1 ok h_l_figure_here => ?_)
      have h_l_word := dp_up s1 _ h_l_word
      have sg := sg.trans s1
      have sl8 := sl8.trans s1
      cases h_l_figure_here
      refine q_nil ?_
      cases hm
      exact hN _ _ _ _ sl8 ok ⟨_, _, rfl, h_l_word, hB⟩
    · obtain ⟨y_l_turn, v_l_word, rfl, h_l_word, hB⟩ := hj
      have sg := sg.trans s1
      refine q_ret (ev_d (K := K) rfl h_l_word) ok (fun v G H s1 ok hv => ?_)
      have sg := sg.trans s1
      cases hm
      exact q v G H sg (ok.less hB) hv
/-! ### _law_calls -/
theorem sc__law_calls : FnScope ["_law_store", "_law_many", "_law_words", "_law_first", "_law_leap", "_law_wide", "_law_most", "_law_k"] ["_law_store", "_law_many"] (defScope s__law_calls) := ⟨rfl, rfl, rfl, by decide +kernel, rfl, by decide +kernel, by decide +kernel⟩
def a__law_calls (K : PySem.W.Frag) (a : Int) : List V → Hp → Prop := conP (DD K (Dat.int a)) (nilP)
def m__law_calls (a : Int) (z : Sto) : Option ((List Str) × Sto) :=
  (m__law_pull (5 : Int) z).bind fun t1 => cond (decide (t1.1 = (1 : Int))) ((m__law_pull (12 : Int) t1.2).bind fun t2 => (m__law_pull (4 : Int) t2.2).bind fun t3 => (atI ([(1 : Int), (5 : Int), (7 : Int), (11 : Int)] : (List Int)) t3.1).bind fun t4 => (rngO a).bind fun t5 => (lcO (fun x6 : Int => (mulO t4 x6).bind fun t12 => (modO (t2.1 + t12) (12 : Int)).bind fun t13 => (atI ([(Str.ofString "bell"), (Str.ofString "turns"), (Str.ofString "ring"), (Str.ofString "go"), (Str.ofString "tell"), (Str.ofString "hang"), (Str.ofString "down"), (Str.ofString "put"), (Str.ofString "strike"), (Str.ofString "back"), (Str.ofString "lots"), (Str.ofString "home")] : (List Str)) t13).bind fun t14 => some t14) t5).bind fun t15 => (sortS t15).bind fun t16 => some (t16, t3.2)) ((m__law_pull (6 : Int) t1.2).bind fun t17 => (m__law_pull (4 : Int) t17.2).bind fun t18 => (atI ([(1 : Int), (3 : Int), (7 : Int), (25 : Int)] : (List Int)) t18.1).bind fun t19 => (atI ([(26 : Int), (676 : Int), (17576 : Int), (456976 : Int), (11881376 : Int), (308915776 : Int)] : (List Int)) (((1 : Int) + t17.1) - (1 : Int))).bind fun t20 => (m__law_pull t20 t18.2).bind fun t21 => (rngO a).bind fun t22 => (lcO (fun x23 : Int => (mulO t19 x23).bind fun t29 => (modO (t21.1 + t29) t20).bind fun t30 => (m__law_spelt (t30, ((1 : Int) + t17.1))).bind fun t31 => some t31) t22).bind fun t32 => (sortS t32).bind fun t33 => some (t33, t21.2))
abbrev sp__law_calls [Tb] (K : PySem.W.Frag) : Sp := spD (a__law_calls K) (m__law_calls) fun r => DD K ((eL Dat.str) r)
theorem ok__law_calls [Tb] {P : Program} {w : World} {K : PySem.W.Frag} {mg : Str → Option Value} {base : Heap} (T : Txt K mg) (O__law_pull : FnOk P w K mg base CX0 1 T.a__law_pull T.d__law_pull ["_law_store", "_law_many"] (sp__law_pull K)) (O__law_spelt : FnOk P w K mg base CX0 1 T.a__law_spelt T.d__law_spelt ["_law_figure_here", "_law_wide"] (sp__law_spelt K)) : FnOk P w K mg base CX0 (2) T.a__law_calls T.d__law_calls ["_law_store", "_law_many"] (sp__law_calls K) := by
  refine T.F__law_calls.ok sc__law_calls (fun vs H Q E h => ?_) (fun cdv A outer s0 H vs Q E hr h => ?_)
  · obtain ⟨G, M0, s, z, z1, a, r, ws, rfl, ok, hs, ⟨v_l_many, _, rfl, h_l_many, rfl⟩, hm, q⟩ := h
    rfl
  · obtain ⟨G, M0, s, z, z1, a, r, ws, rfl, ok, hs, ⟨v_l_many, _, rfl, h_l_many, rfl⟩, hm, q⟩ := h
    unfold m__law_calls at hm
    have sg := Same.refl G
    have hB : ∀ a u, a ≠ s → M0 a = some u → M0 a = some u := fun _ _ _ h => h
    refine ⟨_, (pss_cons (ps_set (i := 2) sc__law_calls.nd rfl (.inr rfl) (pe_lst (pa_cons pe_str (pa_cons pe_str (pa_cons pe_str (pa_cons pe_str (pa_cons pe_str (pa_cons pe_str (pa_cons pe_str (pa_cons pe_str (pa_cons pe_str (pa_cons pe_str (pa_cons pe_str (pa_cons pe_str pa_nil)))))))))))))) (pss_cons (ps_if (pt_cmpR op_eq (pe_call O__law_pull (hr.mono (by decide)) (by rfl) T.g__law_pull T.F__law_pull.kp T.b__law_pull .nil pass0 (pa_cons (pv 0) (pa_cons pe_int pa_nil))) pe_int (nomark _)) (pss_cons (ps_asg (pe_tup (pa_cons (pe_call O__law_pull (hr.mono (by decide)) (by rfl) T.g__law_pull T.F__law_pull.kp T.b__law_pull .nil pass0 (pa_cons (pv 0) (pa_cons pe_int pa_nil))) (pa_cons (pe_ix (ix_listK (K := K)) (pe_lst (pa_cons pe_int (pa_cons pe_int (pa_cons pe_int (pa_cons pe_int pa_nil))))) (pe_call O__law_pull (hr.mono (by decide)) (by rfl) T.g__law_pull T.F__law_pull.kp T.b__law_pull .nil pass0 (pa_cons (pv 0) (pa_cons pe_int pa_nil))) (fun _ _ => rfl)) pa_nil))) (pg_tup rfl (pgs_cons (pg_name (i := 3) sc__law_calls.nd rfl (.inr rfl)) (pgs_cons (pg_name (i := 4) sc__law_calls.nd rfl (.inr rfl)) pgs_nil)))) (pss_cons (ps_ret (pe_callB (cr_sortedSK (K := K)) (by rfl) T.n_sorted (by decide +kernel) (pa_cons (pe_lc (own := [("_law_k", 7)]) (g := (gName 7)) (tt := tYes) rfl sc__law_calls.nd (pi_range1 (by rfl) T.n_range (pa_cons (pv 1) pa_nil)) (blkOk_by (own := [("_law_k", 7)]) (N := ["_law_store", "_law_many", "_law_words", "_law_first", "_law_leap", "_law_wide", "_law_most", "_law_k"]) (sc := defScope s__law_calls) (by decide +kernel)) (fun _ _ _ _ _ => (pg_name (i := 7) sc__law_calls.nd rfl (by first | exact .inl rfl | exact .inr rfl))) (fun _ _ _ _ _ => pts_nil) (fun _ _ _ _ _ => (pe_ix (ix_listK (K := K)) (pv 2) (pe_op op_modN (pe_op op_add (pv 3) (pe_op op_mulO (pv 4) (pv 7))) pe_int) (fun _ _ => rfl)))) pa_nil))) pss_nil)) pss_nil) (pss_cons (ps_asg (pe_tup (pa_cons (pe_op op_add pe_int (pe_call O__law_pull (hr.mono (by decide)) (by rfl) T.g__law_pull T.F__law_pull.kp T.b__law_pull .nil pass0 (pa_cons (pv 0) (pa_cons pe_int pa_nil)))) (pa_cons (pe_ix (ix_listK (K := K)) (pe_lst (pa_cons pe_int (pa_cons pe_int (pa_cons pe_int (pa_cons pe_int pa_nil))))) (pe_call O__law_pull (hr.mono (by decide)) (by rfl) T.g__law_pull T.F__law_pull.kp T.b__law_pull .nil pass0 (pa_cons (pv 0) (pa_cons pe_int pa_nil))) (fun _ _ => rfl)) pa_nil))) (pg_tup rfl (pgs_cons (pg_name (i := 5) sc__law_calls.nd rfl (.inr rfl)) (pgs_cons (pg_name (i := 4) sc__law_calls.nd rfl (.inr rfl)) pgs_nil)))) (pss_cons (ps_set (i := 6) sc__law_calls.nd rfl (.inr rfl) (pe_ix (ix_listK (K := K)) (pe_lst (pa_cons pe_int (pa_cons pe_int (pa_cons pe_int (pa_cons pe_int (pa_cons pe_int (pa_cons pe_int pa_nil))))))) (pe_op op_sub (pv 5) pe_int) (fun _ _ => rfl))) (pss_cons (ps_set (i := 3) sc__law_calls.nd rfl (.inr rfl) (pe_call O__law_pull (hr.mono (by decide)) (by rfl) T.g__law_pull T.F__law_pull.kp T.b__law_pull .nil pass0 (pa_cons (pv 0) (pa_cons (pv 6) pa_nil)))) (pss_cons (ps_ret (pe_callB (cr_sortedSK (K := K)) (by rfl) T.n_sorted (by decide +kernel) (pa_cons (pe_lc (own := [("_law_k", 7)]) (g := (gName 7)) (tt := tYes) rfl sc__law_calls.nd (pi_range1 (by rfl) T.n_range (pa_cons (pv 1) pa_nil)) (blkOk_by (own := [("_law_k", 7)]) (N := ["_law_store", "_law_many", "_law_words", "_law_first", "_law_leap", "_law_wide", "_law_most", "_law_k"]) (sc := defScope s__law_calls) (by decide +kernel)) (fun _ _ _ _ _ => (pg_name (i := 7) sc__law_calls.nd rfl (by first | exact .inl rfl | exact .inr rfl))) (fun _ _ _ _ _ => pts_nil) (fun _ _ _ _ _ => (pe_call O__law_spelt (hr.mono (by decide)) (by rfl) T.g__law_spelt T.F__law_spelt.kp T.b__law_spelt .nil pass0 (pa_cons (pe_op op_modN (pe_op op_add (pv 3) (pe_op op_mulO (pv 4) (pv 7))) (pv 6)) (pa_cons (pv 5) pa_nil))))) pa_nil))) pss_nil)))))), ?_⟩
    cases h_l_many
    refine nrm (σ' := [some (.ref s), some (.int a), none, none, none, none, none, none]) rfl ?_
    refine q_set (σ' := fun v => [some (.ref s), some (.int a), some v, none, none, none, none, none]) (EvL.ev (el_lst (ea_consD (ev_str (K := K) (by decide +kernel)) (ea_consD (ev_str (K := K) (by decide +kernel)) (ea_consD (ev_str (K := K) (by decide +kernel)) (ea_consD (ev_str (K := K) (by decide +kernel)) (ea_consD (ev_str (K := K) (by decide +kernel)) (ea_consD (ev_str (K := K) (by decide +kernel)) (ea_consD (ev_str (K := K) (by decide +kernel)) (ea_consD (ev_str (K := K) (by decide +kernel)) (ea_consD (ev_str (K := K) (by decide +kernel)) (ea_consD (ev_str (K := K) (by decide +kernel)) (ea_consD (ev_str (K := K) (by decide +kernel)) (ea_consD (ev_str (K := K) (by decide +kernel)) (ea_nilD (K := K)))))))))))))))) ok (fun _ => rfl) (fun v_l_words G H s1 ok h_l_words => ?_)
    have sg := sg.trans s1
    obtain ⟨t1, e_t1, hm⟩ := bs hm
    refine q_if (et_test (ev_eqI (ev_callD (a := (5 : Int)) (r := t1.1) (z' := t1.2) hs e_t1 (ea_cons mo_ow (ev_own rfl) (ea_d (ev_int (K := K)) ea_nil))) (ev_int (K := K)))) ok (fun hb G H s1 ok => ?_) (fun hb G H s1 ok => ?_)
    · have hm := cond_t hb hm
      have h_l_words := dp_up s1 _ h_l_words
      have sg := sg.trans s1
      have ok : Ok _ (upd M0 s (sto t1.2)) _ := ok
      have hs : (upd M0 s (sto t1.2)) s = some (sto t1.2) := upd_same
      have hB : ∀ a u, a ≠ s → M0 a = some u → (upd M0 s (sto t1.2)) a = some u := (hB_draw hB)
      obtain ⟨M, eM⟩ : ∃ m, m = (upd M0 s (sto t1.2)) := ⟨_, rfl⟩
      rw [← eM] at ok hs hB
      clear eM
      obtain ⟨t2, e_t2, hm⟩ := bs hm
      obtain ⟨t3, e_t3, hm⟩ := bs hm
      obtain ⟨t4, e_t4, hm⟩ := bs hm
      refine q_tupDD (σ' := fun v w => [some (.ref s), some (.int a), some v_l_words, some v, some w, none, none, none]) (ev_callD (a := (12 : Int)) (r := t2.1) (z' := t2.2) hs e_t2 (ea_cons mo_ow (ev_own rfl) (ea_d (ev_int (K := K)) ea_nil))) mo_dd (ev_ixLM (e := Dat.int) e_t4 (EvL.ev (el_lst (ea_consD (ev_int (K := K)) (ea_consD (ev_int (K := K)) (ea_consD (ev_int (K := K)) (ea_consD (ev_int (K := K)) (ea_nilD (K := K)))))))) (ev_callD (a := (4 : Int)) (r := t3.1) (z' := t3.2) upd_same e_t3 (ea_cons mo_ow (ev_own rfl) (ea_d (ev_int (K := K)) ea_nil)))) mo_dd ok (fun _ _ => rfl) (fun v_l_first v_l_leap G H s1 ok h_l_first h_l_leap => ?_)
      have h_l_words := dp_up s1 _ h_l_words
      have sg := sg.trans s1
      cases h_l_first
      cases h_l_leap
      have ok : Ok _ (upd (upd M s (sto t2.2)) s (sto t3.2)) _ := ok
      have hs : (upd (upd M s (sto t2.2)) s (sto t3.2)) s = some (sto t3.2) := upd_same
      have hB : ∀ a u, a ≠ s → M0 a = some u → (upd (upd M s (sto t2.2)) s (sto t3.2)) a = some u := (hB_draw (hB_draw hB))
      obtain ⟨M, eM⟩ : ∃ m, m = (upd (upd M s (sto t2.2)) s (sto t3.2)) := ⟨_, rfl⟩
      rw [← eM] at ok hs hB
      clear eM
      obtain ⟨t5, e_t5, hm⟩ := bs hm
      obtain ⟨t15, e_t15, hm⟩ := bs hm
      obtain ⟨t16, e_t16, hm⟩ := bs hm
      refine q_ret (EvL.ev (el_sortedS e_t16 (ea_d (EvL.ev (el_lcM (ea := Dat.int) (eb := Dat.str) (xs := t5) (ys := t15) (hf := e_t15) (src_rngO e_t5 (ea_d (ev_d (K := K) rfl (.int _)) ea_nil)) (fun x6 _ Mx10 _ _ he11 sM9 sG8 hv7 => by (obtain ⟨t12, e_t12, he11⟩ := bs he11); (obtain ⟨t13, e_t13, he11⟩ := bs he11); (obtain ⟨t14, e_t14, he11⟩ := bs he11); (have he11 := Option.some.inj he11); subst he11; exact (tg_name ⟨rfl, (ev_ixLM (e := Dat.str) e_t14 (ev_d (K := K) rfl (dp_up sG8 _ h_l_words)) (ev_modO e_t13 (ev_add (ev_d (K := K) rfl (.int _)) (ev_mulO e_t12 (ev_d (K := K) rfl (.int _)) (ev_d (K := K) rfl hv7))) (ev_int (K := K))))⟩)))) ea_nil))) ok (fun v G H s1 ok hv => ?_)
      have sg := sg.trans s1
      cases hm
      exact q v G H sg (ok.less (same_fin hB hs)) hv
    · have hm := cond_f hb hm
      have h_l_words := dp_up s1 _ h_l_words
      have sg := sg.trans s1
      have ok : Ok _ (upd M0 s (sto t1.2)) _ := ok
      have hs : (upd M0 s (sto t1.2)) s = some (sto t1.2) := upd_same
      have hB : ∀ a u, a ≠ s → M0 a = some u → (upd M0 s (sto t1.2)) a = some u := (hB_draw hB)
      obtain ⟨M, eM⟩ : ∃ m, m = (upd M0 s (sto t1.2)) := ⟨_, rfl⟩
      rw [← eM] at ok hs hB
      clear eM
      refine q_nilU ?_
      obtain ⟨t17, e_t17, hm⟩ := bs hm
      obtain ⟨t18, e_t18, hm⟩ := bs hm
      obtain ⟨t19, e_t19, hm⟩ := bs hm
      refine q_tupDD (σ' := fun v w => [some (.ref s), some (.int a), some v_l_words, none, some w, some v, none, none]) (ev_add (ev_int (K := K)) (ev_callD (a := (6 : Int)) (r := t17.1) (z' := t17.2) hs e_t17 (ea_cons mo_ow (ev_own rfl) (ea_d (ev_int (K := K)) ea_nil)))) mo_dd (ev_ixLM (e := Dat.int) e_t19 (EvL.ev (el_lst (ea_consD (ev_int (K := K)) (ea_consD (ev_int (K := K)) (ea_consD (ev_int (K := K)) (ea_consD (ev_int (K := K)) (ea_nilD (K := K)))))))) (ev_callD (a := (4 : Int)) (r := t18.1) (z' := t18.2) upd_same e_t18 (ea_cons mo_ow (ev_own rfl) (ea_d (ev_int (K := K)) ea_nil)))) mo_dd ok (fun _ _ => rfl) (fun v_l_wide v_l_leap G H s1 ok h_l_wide h_l_leap => ?_)
      have h_l_words := dp_up s1 _ h_l_words
      have sg := sg.trans s1
      cases h_l_wide
      cases h_l_leap
      have ok : Ok _ (upd (upd M s (sto t17.2)) s (sto t18.2)) _ := ok
      have hs : (upd (upd M s (sto t17.2)) s (sto t18.2)) s = some (sto t18.2) := upd_same
      have hB : ∀ a u, a ≠ s → M0 a = some u → (upd (upd M s (sto t17.2)) s (sto t18.2)) a = some u := (hB_draw (hB_draw hB))
      obtain ⟨M, eM⟩ : ∃ m, m = (upd (upd M s (sto t17.2)) s (sto t18.2)) := ⟨_, rfl⟩
      rw [← eM] at ok hs hB
      clear eM
      obtain ⟨t20, e_t20, hm⟩ := bs hm
      refine q_set (σ' := fun v => [some (.ref s), some (.int a), some v_l_words, none, some (.int t19), some (.int ((1 : Int) + t17.1)), some v, none]) (ev_ixLM (e := Dat.int) e_t20 (EvL.ev (el_lst (ea_consD (ev_int (K := K)) (ea_consD (ev_int (K := K)) (ea_consD (ev_int (K := K)) (ea_consD (ev_int (K := K)) (ea_consD (ev_int (K := K)) (ea_consD (ev_int (K := K)) (ea_nilD (K := K)))))))))) (ev_sub (ev_d (K := K) rfl (.int _)) (ev_int (K := K)))) ok (fun _ => rfl) (fun v_l_most G H s1 ok h_l_most => ?_)
      have h_l_words := dp_up s1 _ h_l_words
      have sg := sg.trans s1
      cases h_l_most
      obtain ⟨t21, e_t21, hm⟩ := bs hm
      refine q_set (σ' := fun v => [some (.ref s), some (.int a), some v_l_words, some v, some (.int t19), some (.int ((1 : Int) + t17.1)), some (.int t20), none]) (ev_callD (a := t20) (r := t21.1) (z' := t21.2) hs e_t21 (ea_cons mo_ow (ev_own rfl) (ea_d (ev_d (K := K) rfl (.int _)) ea_nil))) ok (fun _ => rfl) (fun v_l_first G H s1 ok h_l_first => ?_)
      have h_l_words := dp_up s1 _ h_l_words
      have sg := sg.trans s1
      cases h_l_first
      have ok : Ok _ (upd M s (sto t21.2)) _ := ok
      have hs : (upd M s (sto t21.2)) s = some (sto t21.2) := upd_same
      have hB : ∀ a u, a ≠ s → M0 a = some u → (upd M s (sto t21.2)) a = some u := (hB_draw hB)
      obtain ⟨M, eM⟩ : ∃ m, m = (upd M s (sto t21.2)) := ⟨_, rfl⟩
      rw [← eM] at ok hs hB
      clear eM
      obtain ⟨t22, e_t22, hm⟩ := bs hm
      obtain ⟨t32, e_t32, hm⟩ := bs hm
      obtain ⟨t33, e_t33, hm⟩ := bs hm
      refine q_ret (EvL.ev (el_sortedS e_t33 (ea_d (EvL.ev (el_lcM (ea := Dat.int) (eb := Dat.str) (xs := t22) (ys := t32) (hf := e_t32) (src_rngO e_t22 (ea_d (ev_d (K := K) rfl (.int _)) ea_nil)) (fun x23 _ Mx27 _ _ he28 sM26 sG25 hv24 => by (obtain ⟨t29, e_t29, he28⟩ := bs he28); (obtain ⟨t30, e_t30, he28⟩ := bs he28); (obtain ⟨t31, e_t31, he28⟩ := bs he28); (have he28 := Option.some.inj he28); subst he28; exact (tg_name ⟨rfl, (ev_callP (res := fun r => DD K (Dat.str r)) (a := (t30, ((1 : Int) + t17.1))) e_t31 (ea_d (ev_modO e_t30 (ev_add (ev_d (K := K) rfl (.int _)) (ev_mulO e_t29 (ev_d (K := K) rfl (.int _)) (ev_d (K := K) rfl hv24))) (ev_d (K := K) rfl (.int _))) (ea_d (ev_d (K := K) rfl (.int _)) ea_nil)))⟩)))) ea_nil))) ok (fun v G H s1 ok hv => ?_)
      have sg := sg.trans s1
      cases hm
      exact q v G H sg (ok.less (same_fin hB hs)) hv
/-! ### _law_figure -/
theorem sc__law_figure : FnScope ["_law_store", "_law_mode", "_law_size", "_law_some"] ["_law_store", "_law_mode", "_law_size"] (defScope s__law_figure) := ⟨rfl, rfl, rfl, by decide +kernel, rfl, by decide +kernel, by decide +kernel⟩
def a__law_figure (K : PySem.W.Frag) (a : Int × Int) : List V → Hp → Prop := conP (DD K (Dat.int a.1)) (conP (DD K (Dat.int a.2)) (nilP))
def m__law_figure (a : Int × Int) (z : Sto) : Option (Int × Sto) :=
  (m__law_pull a.2 z).bind fun t1 => (m__law_pull (99 : Int) t1.2).bind fun t2 => (mulO (2 : Int) a.2).bind fun t3 => (fdivO a.2 (2 : Int)).bind fun t4 => (m__law_pull (4 : Int) t2.2).bind fun t5 => (atI ([(0 : Int), a.2, t3, t4] : (List Int)) t5.1).bind fun t6 => (appO ([(1 : Int), ((1 : Int) + t1.1), ((1 : Int) + t2.1)] : (List Int)) t6).bind fun t7 => cond (decide (a.1 < (4 : Int))) ((atI t7 a.1).bind fun t8 => some (t8, t5.2)) ((atI t7 (1 : Int)).bind fun t9 => (m__law_pull (a.1 - (2 : Int)) t5.2).bind fun t10 => (mulO t9 (if (decide (t10.1 = (0 : Int))) then 1 else 0 : Int)).bind fun t11 => some (t11, t10.2))
abbrev sp__law_figure [Tb] (K : PySem.W.Frag) : Sp := spD (a__law_figure K) (m__law_figure) fun r => DD K (Dat.int r)
theorem ok__law_figure [Tb] {P : Program} {w : World} {K : PySem.W.Frag} {mg : Str → Option Value} {base : Heap} (T : Txt K mg) (O__law_pull : FnOk P w K mg base CX0 1 T.a__law_pull T.d__law_pull ["_law_store", "_law_many"] (sp__law_pull K)) : FnOk P w K mg base CX0 (2) T.a__law_figure T.d__law_figure ["_law_store", "_law_mode", "_law_size"] (sp__law_figure K) := by
  refine T.F__law_figure.ok sc__law_figure (fun vs H Q E h => ?_) (fun cdv A outer s0 H vs Q E hr h => ?_)
  · obtain ⟨G, M0, s, z, z1, a, r, ws, rfl, ok, hs, ⟨v_l_mode, _, rfl, h_l_mode, v_l_size, _, rfl, h_l_size, rfl⟩, hm, q⟩ := h
    rfl
  · obtain ⟨G, M0, s, z, z1, a, r, ws, rfl, ok, hs, ⟨v_l_mode, _, rfl, h_l_mode, v_l_size, _, rfl, h_l_size, rfl⟩, hm, q⟩ := h
    unfold m__law_figure at hm
    have sg := Same.refl G
    have hB : ∀ a u, a ≠ s → M0 a = some u → M0 a = some u := fun _ _ _ h => h
    refine ⟨_, (pss_cons (ps_set (i := 3) sc__law_figure.nd rfl (.inl rfl) (pe_lst (pa_cons pe_int (pa_cons (pe_op op_add pe_int (pe_call O__law_pull (hr.mono (by decide)) (by rfl) T.g__law_pull T.F__law_pull.kp T.b__law_pull .nil pass0 (pa_cons (pv 0) (pa_cons (pv 2) pa_nil)))) (pa_cons (pe_op op_add pe_int (pe_call O__law_pull (hr.mono (by decide)) (by rfl) T.g__law_pull T.F__law_pull.kp T.b__law_pull .nil pass0 (pa_cons (pv 0) (pa_cons pe_int pa_nil)))) pa_nil))))) (pss_cons (ps_expr (pe_bm PySem.F.plainAttrs_list PySem.F.slot_list_append PySem.F.type_list_append mt_append (pv 3) (pa_cons (pe_ix (ix_listK (K := K)) (pe_lst (pa_cons pe_int (pa_cons (pv 2) (pa_cons (pe_op op_mulO pe_int (pv 2)) (pa_cons (pe_op op_fdivO (pv 2) pe_int) pa_nil))))) (pe_call O__law_pull (hr.mono (by decide)) (by rfl) T.g__law_pull T.F__law_pull.kp T.b__law_pull .nil pass0 (pa_cons (pv 0) (pa_cons pe_int pa_nil))) (fun _ _ => rfl)) pa_nil))) (pss_cons (ps_if (pt_cmpR op_lt (pv 1) pe_int (nomark _)) (pss_cons (ps_ret (pe_ix (ix_listK (K := K)) (pv 3) (pv 1) (fun _ _ => rfl))) pss_nil) pss_nil) (pss_cons (ps_ret (pe_op op_mulO (pe_ix (ix_listK (K := K)) (pv 3) pe_int (fun _ _ => rfl)) (pe_callTy cl_int (by rfl) T.n_int (by decide +kernel) (pa_cons (pe_cmpR op_eq (pe_call O__law_pull (hr.mono (by decide)) (by rfl) T.g__law_pull T.F__law_pull.kp T.b__law_pull .nil pass0 (pa_cons (pv 0) (pa_cons (pe_op op_sub (pv 1) pe_int) pa_nil))) pe_int (nomark _)) pa_nil)))) pss_nil)))), ?_⟩
    cases h_l_mode
    cases h_l_size
    refine nrm (σ' := [some (.ref s), some (.int a.1), some (.int a.2), none]) rfl ?_
    obtain ⟨t1, e_t1, hm⟩ := bs hm
    obtain ⟨t2, e_t2, hm⟩ := bs hm
    refine q_setL (σ' := fun v => [some (.ref s), some (.int a.1), some (.int a.2), some v]) (el_lst (ea_consD (ev_int (K := K)) (ea_consD (ev_add (ev_int (K := K)) (ev_callD (a := a.2) (r := t1.1) (z' := t1.2) hs e_t1 (ea_cons mo_ow (ev_own rfl) (ea_d (ev_d (K := K) rfl (.int _)) ea_nil)))) (ea_consD (ev_add (ev_int (K := K)) (ev_callD (a := (99 : Int)) (r := t2.1) (z' := t2.2) upd_same e_t2 (ea_cons mo_ow (ev_own rfl) (ea_d (ev_int (K := K)) ea_nil)))) (ea_nilD (K := K)))))) ok (fun _ => rfl) (fun p_l_some vs_l_some G H s1 ok hn hd_l_some => ?_)
    have sg := sg.trans s1
    have n_l_store_l_some : s ≠ p_l_some := ne_of_none upd_same hn
    have n_l_some_l_store := n_l_store_l_some.symm
    have h0_l_some : M0 p_l_some = none := hB_none (M := (upd (upd M0 s (sto t1.2)) s (sto t2.2))) (hB_draw (hB_draw hB)) upd_same hn
    have hd_l_some : DqAll K G vs_l_some (([(1 : Int), ((1 : Int) + t1.1), ((1 : Int) + t2.1)] : (List Int)).map Dat.int) := hd_l_some
    have ok : Ok _ (upd (upd (upd M0 s (sto t1.2)) s (sto t2.2)) p_l_some (.lst vs_l_some)) _ := ok
    have hs : (upd (upd (upd M0 s (sto t1.2)) s (sto t2.2)) p_l_some (.lst vs_l_some)) s = some (sto t2.2) := (up_ne n_l_store_l_some upd_same)
    have hB : ∀ a u, a ≠ s → M0 a = some u → (upd (upd (upd M0 s (sto t1.2)) s (sto t2.2)) p_l_some (.lst vs_l_some)) a = some u := (hB_own (hB_draw (hB_draw hB)) h0_l_some)
    have hp_l_some : (upd (upd (upd M0 s (sto t1.2)) s (sto t2.2)) p_l_some (.lst vs_l_some)) p_l_some = some (.lst vs_l_some) := upd_same
    obtain ⟨M, eM⟩ : ∃ m, m = (upd (upd (upd M0 s (sto t1.2)) s (sto t2.2)) p_l_some (.lst vs_l_some)) := ⟨_, rfl⟩
    rw [← eM] at ok hs hB hp_l_some
    clear eM
    obtain ⟨t3, e_t3, hm⟩ := bs hm
    obtain ⟨t4, e_t4, hm⟩ := bs hm
    obtain ⟨t5, e_t5, hm⟩ := bs hm
    obtain ⟨t6, e_t6, hm⟩ := bs hm
    obtain ⟨t7, e_t7, hm⟩ := bs hm
    obtain ⟨hl_t7, ea_t7⟩ := appO_of e_t7
    refine q_append (ev_own rfl) (ea_d (ev_ixLM (e := Dat.int) e_t6 (EvL.ev (el_lst (ea_consD (ev_int (K := K)) (ea_consD (ev_d (K := K) rfl (.int _)) (ea_consD (ev_mulO e_t3 (ev_int (K := K)) (ev_d (K := K) rfl (.int _))) (ea_consD (ev_fdivO e_t4 (ev_d (K := K) rfl (.int _)) (ev_int (K := K))) (ea_nilD (K := K)))))))) (ev_callD (a := (4 : Int)) (r := t5.1) (z' := t5.2) hs e_t5 (ea_cons mo_ow (ev_own rfl) (ea_d (ev_int (K := K)) ea_nil)))) ea_nil) hp_l_some (up_ne n_l_some_l_store hp_l_some) (by rw [dpAll_len hd_l_some, List.length_map]; exact szlt hl_t7) ok (fun v G H s1 ok hv => ?_)
    have hd_l_some := dpAll_up s1 _ hd_l_some
    have sg := sg.trans s1
    have hd_l_some : DqAll K G (vs_l_some ++ [v]) (t7.map Dat.int) := by rw [ea_t7, List.map_append]; exact dpAll_app hd_l_some (.cons hv .nil)
    have ok : Ok _ (upd (upd M s (sto t5.2)) p_l_some (.lst (vs_l_some ++ [v]))) _ := ok
    have hs : (upd (upd M s (sto t5.2)) p_l_some (.lst (vs_l_some ++ [v]))) s = some (sto t5.2) := (up_ne n_l_store_l_some upd_same)
    have hB : ∀ a u, a ≠ s → M0 a = some u → (upd (upd M s (sto t5.2)) p_l_some (.lst (vs_l_some ++ [v]))) a = some u := (hB_own (hB_draw hB) h0_l_some)
    have hp_l_some : (upd (upd M s (sto t5.2)) p_l_some (.lst (vs_l_some ++ [v]))) p_l_some = some (.lst (vs_l_some ++ [v])) := upd_same
    obtain ⟨M, eM⟩ : ∃ m, m = (upd (upd M s (sto t5.2)) p_l_some (.lst (vs_l_some ++ [v]))) := ⟨_, rfl⟩
    rw [← eM] at ok hs hB hp_l_some
    clear eM
    obtain ⟨vs_l_some, e_vs⟩ : ∃ m, m = (vs_l_some ++ [v]) := ⟨_, rfl⟩
    rw [← e_vs] at hp_l_some hd_l_some
    clear e_vs
    refine q_if (et_test (ev_lt (ev_d (K := K) rfl (.int _)) (ev_int (K := K)))) ok (fun hb G H s1 ok => ?_) (fun hb G H s1 ok => ?_)
    · have hm := cond_t hb hm
      have hd_l_some := dpAll_up s1 _ hd_l_some
      have sg := sg.trans s1
      obtain ⟨t8, e_t8, hm⟩ := bs hm
      refine q_ret (ev_ixOM (e := Dat.int) e_t8 hp_l_some hd_l_some (ev_own rfl) (ev_d (K := K) rfl (.int _))) ok (fun v G H s1 ok hv => ?_)
      have sg := sg.trans s1
      cases hm
      exact q v G H sg (ok.less (same_fin hB hs)) hv
    · have hm := cond_f hb hm
      have hd_l_some := dpAll_up s1 _ hd_l_some
      have sg := sg.trans s1
      refine q_nilU ?_
      obtain ⟨t9, e_t9, hm⟩ := bs hm
      obtain ⟨t10, e_t10, hm⟩ := bs hm
      obtain ⟨t11, e_t11, hm⟩ := bs hm
      refine q_ret (ev_mulO e_t11 (ev_ixOM (e := Dat.int) e_t9 hp_l_some hd_l_some (ev_own rfl) (ev_int (K := K))) (ev_intB (ea_d (ev_eqI (ev_callD (a := (a.1 - (2 : Int))) (r := t10.1) (z' := t10.2) hs e_t10 (ea_cons mo_ow (ev_own rfl) (ea_d (ev_sub (ev_d (K := K) rfl (.int _)) (ev_int (K := K))) ea_nil))) (ev_int (K := K))) ea_nil))) ok (fun v G H s1 ok hv => ?_)
      have sg := sg.trans s1
      have ok : Ok _ (upd M s (sto t10.2)) _ := ok
      have hs : (upd M s (sto t10.2)) s = some (sto t10.2) := upd_same
      have hB : ∀ a u, a ≠ s → M0 a = some u → (upd M s (sto t10.2)) a = some u := (hB_draw hB)
      have hp_l_some : (upd M s (sto t10.2)) p_l_some = some (.lst vs_l_some) := (up_ne n_l_some_l_store hp_l_some)
      obtain ⟨M, eM⟩ : ∃ m, m = (upd M s (sto t10.2)) := ⟨_, rfl⟩
      rw [← eM] at ok hs hB hp_l_some
      clear eM
      cases hm
      exact q v G H sg (ok.less (same_fin hB hs)) hv
/-! ### _law_kit -/
theorem sc__law_kit : FnScope ["_law_store", "_law_upto", "_law_most", "_law_calls_here", "_law_alike", "_law_same", "_law_mode", "_law_sizes", "_law_found", "_law_call", "_law_k", "_law_figure_here"] ["_law_store", "_law_upto", "_law_most"] (defScope s__law_kit) := ⟨rfl, rfl, rfl, by decide +kernel, rfl, by decide +kernel, by decide +kernel⟩
def a__law_kit (K : PySem.W.Frag) (a : Int × Int) : List V → Hp → Prop := conP (DD K (Dat.int a.1)) (conP (DD K (Dat.int a.2)) (nilP))
def m__law_kit (a : Int × Int) (z : Sto) : Option (((List (Str × Int)) × (List (Str × Str × Int))) × Sto) :=
  (m__law_pull a.1 z).bind fun t1 => (m__law_calls ((1 : Int) + t1.1) t1.2).bind fun t2 => (m__law_pull (a.2 - (1 : Int)) t2.2).bind fun t3 => (m__law_pull (4 : Int) t3.2).bind fun t4 => (m__law_pull (6 : Int) t4.2).bind fun t5 => (lcS (fun (x6 : Str) (x6z : Sto) => (cond (decide (t4.1 = (0 : Int))) (some (((2 : Int) + t3.1), x6z)) ((m__law_pull (a.2 - (1 : Int)) x6z).bind fun t12 => some (((2 : Int) + t12.1), t12.2))).bind fun t13 => some (t13.1, t13.2)) t2.1 t5.2).bind fun t14 => (forO (fun (st16 : (List (Str × Str × Int)) × Sto) (x17 : Str) => (rngO (t2.1.length : Int)).bind fun t22 => (forO (fun (st24 : (List (Str × Str × Int)) × Sto) (x25 : Int) => (atI t14.1 x25).bind fun t30 => (m__law_figure (t5.1, t30) st24.2).bind fun t31 => (atI t2.1 x25).bind fun t32 => cond ((!decide (t32 = x17)) && (decide ((0 : Int) < t31.1))) ((atI t2.1 x25).bind fun t33 => (appO st24.1 (x17, t33, t31.1)).bind fun t34 => some (t34, t31.2)) (some (st24.1, t31.2))) t22 (st16.1, st16.2)).bind fun fin23 => some (fin23.1, fin23.2)) t2.1 (([] : (List (Str × Str × Int))), t14.2)).bind fun fin15 => (rngO (t2.1.length : Int)).bind fun t35 => (lcO (fun x36 : Int => (atI t2.1 x36).bind fun t42 => (atI t14.1 x36).bind fun t43 => some (t42, t43)) t35).bind fun t44 => some ((t44, fin15.1), fin15.2)
abbrev sp__law_kit [Tb] (K : PySem.W.Frag) : Sp := spD (a__law_kit K) (m__law_kit) fun r => DD K ((eP2 (eT (eP2 Dat.str Dat.int)) (eT (eP3 Dat.str Dat.str Dat.int))) r)
theorem ok__law_kit [Tb] {P : Program} {w : World} {K : PySem.W.Frag} {mg : Str → Option Value} {base : Heap} (T : Txt K mg) (O__law_calls : FnOk P w K mg base CX0 2 T.a__law_calls T.d__law_calls ["_law_store", "_law_many"] (sp__law_calls K)) (O__law_pull : FnOk P w K mg base CX0 1 T.a__law_pull T.d__law_pull ["_law_store", "_law_many"] (sp__law_pull K)) (O__law_figure : FnOk P w K mg base CX0 2 T.a__law_figure T.d__law_figure ["_law_store", "_law_mode", "_law_size"] (sp__law_figure K)) : FnOk P w K mg base CX0 (3) T.a__law_kit T.d__law_kit ["_law_store", "_law_upto", "_law_most"] (sp__law_kit K) := by
  refine T.F__law_kit.ok sc__law_kit (fun vs H Q E h => ?_) (fun cdv A outer s0 H vs Q E hr h => ?_)
  · obtain ⟨G, M0, s, z, z1, a, r, ws, rfl, ok, hs, ⟨v_l_upto, _, rfl, h_l_upto, v_l_most, _, rfl, h_l_most, rfl⟩, hm, q⟩ := h
    rfl
  · obtain ⟨G, M0, s, z, z1, a, r, ws, rfl, ok, hs, ⟨v_l_upto, _, rfl, h_l_upto, v_l_most, _, rfl, h_l_most, rfl⟩, hm, q⟩ := h
    unfold m__law_kit at hm
    have sg := Same.refl G
    have hB : ∀ a u, a ≠ s → M0 a = some u → M0 a = some u := fun _ _ _ h => h
    refine ⟨_, (pss_cons (ps_asg (pe_tup (pa_cons (pe_call O__law_calls (hr.mono (by decide)) (by rfl) T.g__law_calls T.F__law_calls.kp T.b__law_calls .nil pass0 (pa_cons (pv 0) (pa_cons (pe_op op_add pe_int (pe_call O__law_pull (hr.mono (by decide)) (by rfl) T.g__law_pull T.F__law_pull.kp T.b__law_pull .nil pass0 (pa_cons (pv 0) (pa_cons (pv 1) pa_nil)))) pa_nil))) (pa_cons (pe_op op_add pe_int (pe_call O__law_pull (hr.mono (by decide)) (by rfl) T.g__law_pull T.F__law_pull.kp T.b__law_pull .nil pass0 (pa_cons (pv 0) (pa_cons (pe_op op_sub (pv 2) pe_int) pa_nil)))) pa_nil))) (pg_tup rfl (pgs_cons (pg_name (i := 3) sc__law_kit.nd rfl (.inr rfl)) (pgs_cons (pg_name (i := 4) sc__law_kit.nd rfl (.inr rfl)) pgs_nil)))) (pss_cons (ps_asg (pe_tup (pa_cons (pe_cmpR op_eq (pe_call O__law_pull (hr.mono (by decide)) (by rfl) T.g__law_pull T.F__law_pull.kp T.b__law_pull .nil pass0 (pa_cons (pv 0) (pa_cons pe_int pa_nil))) pe_int (nomark _)) (pa_cons (pe_call O__law_pull (hr.mono (by decide)) (by rfl) T.g__law_pull T.F__law_pull.kp T.b__law_pull .nil pass0 (pa_cons (pv 0) (pa_cons pe_int pa_nil))) pa_nil))) (pg_tup rfl (pgs_cons (pg_name (i := 5) sc__law_kit.nd rfl (.inr rfl)) (pgs_cons (pg_name (i := 6) sc__law_kit.nd rfl (.inl rfl)) pgs_nil)))) (pss_cons (ps_set (i := 7) sc__law_kit.nd rfl (.inr rfl) (pe_lc (own := [("_law_call", 9)]) (g := (gName 9)) (tt := tYes) rfl sc__law_kit.nd (pi_listK (K := K) (pv 3)) (blkOk_by (own := [("_law_call", 9)]) (N := ["_law_store", "_law_upto", "_law_most", "_law_calls_here", "_law_alike", "_law_same", "_law_mode", "_law_sizes", "_law_found", "_law_call", "_law_k", "_law_figure_here"]) (sc := defScope s__law_kit) (by decide +kernel)) (fun _ _ _ _ _ => (pg_name (i := 9) sc__law_kit.nd rfl (by first | exact .inl rfl | exact .inr rfl))) (fun _ _ _ _ _ => pts_nil) (fun _ _ _ _ _ => (pe_ifExp (pt_val (pv 5)) (pv 4) (pe_op op_add pe_int (pe_call O__law_pull (hr.mono (by decide)) (by rfl) T.g__law_pull T.F__law_pull.kp T.b__law_pull .nil pass0 (pa_cons (pv 0) (pa_cons (pe_op op_sub (pv 2) pe_int) pa_nil)))))))) (pss_cons (ps_set (i := 8) sc__law_kit.nd rfl (.inl rfl) (pe_lst pa_nil)) (pss_cons (ps_for PassesOwn.never rfl (pi_listK (K := K) (pv 3)) (pg_name (i := 9) sc__law_kit.nd rfl (.inl rfl)) (pss_cons (ps_for PassesOwn.never rfl (pi_range1 (by rfl) T.n_range (pa_cons (pe_callB (cl_lenK (K := K)) (by rfl) T.n_len (by decide +kernel) (pa_cons (pv 3) pa_nil)) pa_nil)) (pg_name (i := 10) sc__law_kit.nd rfl (.inl rfl)) (pss_cons (ps_set (i := 11) sc__law_kit.nd rfl (.inl rfl) (pe_call O__law_figure (hr.mono (by decide)) (by rfl) T.g__law_figure T.F__law_figure.kp T.b__law_figure .nil pass0 (pa_cons (pv 0) (pa_cons (pv 6) (pa_cons (pe_ix (ix_listK (K := K)) (pv 7) (pv 10) (fun _ _ => rfl)) pa_nil))))) (pss_cons (ps_if (PW.pt (pw_and (pt_cmpR op_ne (pe_ix (ix_listK (K := K)) (pv 3) (pv 10) (fun _ _ => rfl)) (pv 9) (nomark _)) (pw_and1 (pt_cmpR op_gt (pv 11) pe_int (nomark _))))) (pss_cons (ps_expr (pe_bm PySem.F.plainAttrs_list PySem.F.slot_list_append PySem.F.type_list_append mt_append (pv 8) (pa_cons (pe_tupF (pa_cons (pv 9) (pa_cons (pe_ix (ix_listK (K := K)) (pv 3) (pv 10) (fun _ _ => rfl)) (pa_cons (pv 11) pa_nil)))) pa_nil))) pss_nil) pss_nil) pss_nil))) pss_nil)) (pss_cons (ps_ret (pe_tupF (pa_cons (pe_callTy (cl_tupleK (K := K)) (by rfl) T.n_tuple (by decide +kernel) (pa_cons (pe_lc (own := [("_law_k", 10)]) (g := (gName 10)) (tt := tYes) rfl sc__law_kit.nd (pi_range1 (by rfl) T.n_range (pa_cons (pe_callB (cl_lenK (K := K)) (by rfl) T.n_len (by decide +kernel) (pa_cons (pv 3) pa_nil)) pa_nil)) (blkOk_by (own := [("_law_k", 10)]) (N := ["_law_store", "_law_upto", "_law_most", "_law_calls_here", "_law_alike", "_law_same", "_law_mode", "_law_sizes", "_law_found", "_law_call", "_law_k", "_law_figure_here"]) (sc := defScope s__law_kit) (by decide +kernel)) (fun _ _ _ _ _ => (pg_name (i := 10) sc__law_kit.nd rfl (by first | exact .inl rfl | exact .inr rfl))) (fun _ _ _ _ _ => pts_nil) (fun _ _ _ _ _ => (pe_tupF (pa_cons (pe_ix (ix_listK (K := K)) (pv 3) (pv 10) (fun _ _ => rfl)) (pa_cons (pe_ix (ix_listK (K := K)) (pv 7) (pv 10) (fun _ _ => rfl)) pa_nil))))) pa_nil)) (pa_cons (pe_callTy (cl_tupleK (K := K)) (by rfl) T.n_tuple (by decide +kernel) (pa_cons (pv 8) pa_nil)) pa_nil)))) pss_nil)))))), ?_⟩
    cases h_l_upto
    cases h_l_most
    refine nrm (σ' := [some (.ref s), some (.int a.1), some (.int a.2), none, none, none, none, none, none, none, none, none]) rfl ?_
    obtain ⟨t1, e_t1, hm⟩ := bs hm
    obtain ⟨t2, e_t2, hm⟩ := bs hm
    obtain ⟨t3, e_t3, hm⟩ := bs hm
    refine q_tupDD (σ' := fun v w => [some (.ref s), some (.int a.1), some (.int a.2), some v, some w, none, none, none, none, none, none, none]) (ev_callD (a := ((1 : Int) + t1.1)) (r := t2.1) (z' := t2.2) upd_same e_t2 (ea_cons mo_ow (ev_own rfl) (ea_d (ev_add (ev_int (K := K)) (ev_callD (a := a.1) (r := t1.1) (z' := t1.2) hs e_t1 (ea_cons mo_ow (ev_own rfl) (ea_d (ev_d (K := K) rfl (.int _)) ea_nil)))) ea_nil))) mo_dd (ev_add (ev_int (K := K)) (ev_callD (a := (a.2 - (1 : Int))) (r := t3.1) (z' := t3.2) upd_same e_t3 (ea_cons mo_ow (ev_own rfl) (ea_d (ev_sub (ev_d (K := K) rfl (.int _)) (ev_int (K := K))) ea_nil)))) mo_dd ok (fun _ _ => rfl) (fun v_l_calls_here v_l_alike G H s1 ok h_l_calls_here h_l_alike => ?_)
    have sg := sg.trans s1
    cases h_l_alike
    have ok : Ok _ (upd (upd (upd M0 s (sto t1.2)) s (sto t2.2)) s (sto t3.2)) _ := ok
    have hs : (upd (upd (upd M0 s (sto t1.2)) s (sto t2.2)) s (sto t3.2)) s = some (sto t3.2) := upd_same
    have hB : ∀ a u, a ≠ s → M0 a = some u → (upd (upd (upd M0 s (sto t1.2)) s (sto t2.2)) s (sto t3.2)) a = some u := (hB_draw (hB_draw (hB_draw hB)))
    obtain ⟨M, eM⟩ : ∃ m, m = (upd (upd (upd M0 s (sto t1.2)) s (sto t2.2)) s (sto t3.2)) := ⟨_, rfl⟩
    rw [← eM] at ok hs hB
    clear eM
    obtain ⟨t4, e_t4, hm⟩ := bs hm
    obtain ⟨t5, e_t5, hm⟩ := bs hm
    refine q_tupDD (σ' := fun v w => [some (.ref s), some (.int a.1), some (.int a.2), some v_l_calls_here, some (.int ((2 : Int) + t3.1)), some v, some w, none, none, none, none, none]) (ev_eqI (ev_callD (a := (4 : Int)) (r := t4.1) (z' := t4.2) hs e_t4 (ea_cons mo_ow (ev_own rfl) (ea_d (ev_int (K := K)) ea_nil))) (ev_int (K := K))) mo_dd (ev_callD (a := (6 : Int)) (r := t5.1) (z' := t5.2) upd_same e_t5 (ea_cons mo_ow (ev_own rfl) (ea_d (ev_int (K := K)) ea_nil))) mo_dd ok (fun _ _ => rfl) (fun v_l_same v_l_mode G H s1 ok h_l_same h_l_mode => ?_)
    have h_l_calls_here := dp_up s1 _ h_l_calls_here
    have sg := sg.trans s1
    cases h_l_same
    cases h_l_mode
    have ok : Ok _ (upd (upd M s (sto t4.2)) s (sto t5.2)) _ := ok
    have hs : (upd (upd M s (sto t4.2)) s (sto t5.2)) s = some (sto t5.2) := upd_same
    have hB : ∀ a u, a ≠ s → M0 a = some u → (upd (upd M s (sto t4.2)) s (sto t5.2)) a = some u := (hB_draw (hB_draw hB))
    obtain ⟨M, eM⟩ : ∃ m, m = (upd (upd M s (sto t4.2)) s (sto t5.2)) := ⟨_, rfl⟩
    rw [← eM] at ok hs hB
    clear eM
    obtain ⟨t14, e_t14, hm⟩ := bs hm
    refine q_set (σ' := fun v => [some (.ref s), some (.int a.1), some (.int a.2), some v_l_calls_here, some (.int ((2 : Int) + t3.1)), some (.bl (decide (t4.1 = (0 : Int)))), some (.int t5.1), some v, none, none, none, none]) (EvL.ev (el_lcMD (ea := Dat.str) (eb := Dat.int) (xs := t2.1) (r := t14) (hf := e_t14) (src_list (ev_d (K := K) rfl h_l_calls_here)) hs (fun x6 _ x6z _ Mx10 _ _ he11 sM9 hzx6 sG8 hv7 => by (obtain ⟨t13, e_t13, he11⟩ := bs he11); cases he11; exact (tg_name ⟨rfl, (ev_if (P := DD K (Dat.int t13.1)) (et_B (ev_d (K := K) rfl (.bl _))) (fun eb => by have e1 := cond_t eb e_t13; cases e1; rw [upd_back hzx6]; exact (ev_d (K := K) rfl (.int _))) (fun eb => by have e1 := cond_f eb e_t13; (obtain ⟨t12, e_t12, e1⟩ := bs e1); cases e1; exact (ev_add (ev_int (K := K)) (ev_callD (a := (a.2 - (1 : Int))) (r := t12.1) (z' := t12.2) hzx6 e_t12 (ea_cons mo_ow (ev_own rfl) (ea_d (ev_sub (ev_d (K := K) rfl (.int _)) (ev_int (K := K))) ea_nil))))))⟩)))) ok (fun _ => rfl) (fun v_l_sizes G H s1 ok h_l_sizes => ?_)
    have h_l_calls_here := dp_up s1 _ h_l_calls_here
    have sg := sg.trans s1
    have ok : Ok _ (upd M s (sto t14.2)) _ := ok
    have hs : (upd M s (sto t14.2)) s = some (sto t14.2) := upd_same
    have hB : ∀ a u, a ≠ s → M0 a = some u → (upd M s (sto t14.2)) a = some u := (hB_draw hB)
    obtain ⟨M, eM⟩ : ∃ m, m = (upd M s (sto t14.2)) := ⟨_, rfl⟩
    rw [← eM] at ok hs hB
    clear eM
    refine q_setL (σ' := fun v => [some (.ref s), some (.int a.1), some (.int a.2), some v_l_calls_here, some (.int ((2 : Int) + t3.1)), some (.bl (decide (t4.1 = (0 : Int)))), some (.int t5.1), some v_l_sizes, some v, none, none, none]) (el_lst (ea_nilD (K := K))) ok (fun _ => rfl) (fun p_l_found vs_l_found G H s1 ok hn hd_l_found => ?_)
    have h_l_calls_here := dp_up s1 _ h_l_calls_here
    have h_l_sizes := dp_up s1 _ h_l_sizes
    have sg := sg.trans s1
    have n_l_store_l_found : s ≠ p_l_found := ne_of_none hs hn
    have n_l_found_l_store := n_l_store_l_found.symm
    have h0_l_found : M0 p_l_found = none := hB_none (M := M) hB hs hn
    have hd_l_found : DqAll K G vs_l_found (([] : (List (Str × Str × Int))).map (eP3 Dat.str Dat.str Dat.int)) := hd_l_found
    have ok : Ok _ (upd M p_l_found (.lst vs_l_found)) _ := ok
    have hs : (upd M p_l_found (.lst vs_l_found)) s = some (sto t14.2) := (up_ne n_l_store_l_found hs)
    have hB : ∀ a u, a ≠ s → M0 a = some u → (upd M p_l_found (.lst vs_l_found)) a = some u := (hB_own hB h0_l_found)
    have hp_l_found : (upd M p_l_found (.lst vs_l_found)) p_l_found = some (.lst vs_l_found) := upd_same
    obtain ⟨M, eM⟩ : ∃ m, m = (upd M p_l_found (.lst vs_l_found)) := ⟨_, rfl⟩
    rw [← eM] at ok hs hB hp_l_found
    clear eM
    obtain ⟨fin15, e_fin15, hm⟩ := bs hm
    have hmo18 := hm
    refine q_forO (ea := Dat.str) (src_list (ev_d (K := K) rfl h_l_calls_here)) ok (fun (st16 : (List (Str × Str × Int)) × Sto) σ1 G1 M1 => ∃ (y_l_k : Option V) (y_l_figure_here : Option V) (y_l_call : Option V) (vs_l_found : List V), σ1 = [some (.ref s), some (.int a.1), some (.int a.2), some v_l_calls_here, some (.int ((2 : Int) + t3.1)), some (.bl (decide (t4.1 = (0 : Int)))), some (.int t5.1), some v_l_sizes, some (.ref p_l_found), y_l_call, y_l_k, y_l_figure_here] ∧ (DqAll K G1 vs_l_found (st16.1.map (eP3 Dat.str Dat.str Dat.int))) ∧ (M1 p_l_found = some (.lst vs_l_found)) ∧ (M1 s = some (sto st16.2)) ∧ (∀ a u, a ≠ s → M0 a = some u → M1 a = some u)) e_fin15 (fun G1 s1 => ⟨_, _, _, _, rfl, dpAll_up s1 _ hd_l_found, hp_l_found, hs, hB⟩) (by rintro _ _ _ _ _ ⟨y_l_k, y_l_figure_here, y_l_call, vs_l_found, rfl, hd_l_found, hp_l_found, hs, hB⟩ s2; exact ⟨_, _, _, _, rfl, dpAll_up s2 _ hd_l_found, hp_l_found, hs, hB⟩) (fun x17 xv20 st16 st' σ1 G M H N hm hj s1 ok hv hN => ?_) (fun σ1 G M H s1 ok hj => ?_)
    · obtain ⟨y_l_k, y_l_figure_here, y_l_call, vs_l_found, rfl, hd_l_found, hp_l_found, hs, hB⟩ := hj
      have h_l_calls_here := dp_up s1 _ h_l_calls_here
      have h_l_sizes := dp_up s1 _ h_l_sizes
      have sg := sg.trans s1
      have sl21 := Same.refl G
      refine gn ?_
      have h_l_call := hv
      refine nrm (σ' := [some (.ref s), some (.int a.1), some (.int a.2), some v_l_calls_here, some (.int ((2 : Int) + t3.1)), some (.bl (decide (t4.1 = (0 : Int)))), some (.int t5.1), some v_l_sizes, some (.ref p_l_found), some xv20, y_l_k, y_l_figure_here]) rfl ?_
      obtain ⟨t22, e_t22, hm⟩ := bs hm
      obtain ⟨fin23, e_fin23, hm⟩ := bs hm
      have hmo26 := hm
      refine q_forO (ea := Dat.int) (src_rngO e_t22 (ea_d (ev_lenLM (e := Dat.str) (ea_d (ev_d (K := K) rfl h_l_calls_here) ea_nil)) ea_nil)) ok (fun (st24 : (List (Str × Str × Int)) × Sto) σ1 G1 M1 => ∃ (y_l_figure_here : Option V) (y_l_k : Option V) (vs_l_found : List V), σ1 = [some (.ref s), some (.int a.1), some (.int a.2), some v_l_calls_here, some (.int ((2 : Int) + t3.1)), some (.bl (decide (t4.1 = (0 : Int)))), some (.int t5.1), some v_l_sizes, some (.ref p_l_found), some xv20, y_l_k, y_l_figure_here] ∧ (DqAll K G1 vs_l_found (st24.1.map (eP3 Dat.str Dat.str Dat.int))) ∧ (M1 p_l_found = some (.lst vs_l_found)) ∧ (M1 s = some (sto st24.2)) ∧ (∀ a u, a ≠ s → M0 a = some u → M1 a = some u)) e_fin23 (fun G1 s1 => ⟨_, _, _, rfl, dpAll_up s1 _ hd_l_found, hp_l_found, hs, hB⟩) (by rintro _ _ _ _ _ ⟨y_l_figure_here, y_l_k, vs_l_found, rfl, hd_l_found, hp_l_found, hs, hB⟩ s2; exact ⟨_, _, _, rfl, dpAll_up s2 _ hd_l_found, hp_l_found, hs, hB⟩) (fun x25 xv28 st24 st' σ1 G M H N hm hj s1 ok hv hN => ?_) (fun σ1 G M H s1 ok hj => ?_)
      · obtain ⟨y_l_figure_here, y_l_k, vs_l_found, rfl, hd_l_found, hp_l_found, hs, hB⟩ := hj
        have h_l_calls_here := dp_up s1 _ h_l_calls_here
        have h_l_sizes := dp_up s1 _ h_l_sizes
        have h_l_call := dp_up s1 _ h_l_call
        have sg := sg.trans s1
        have sl21 := sl21.trans s1
        have sl29 := Same.refl G
        refine gn ?_
        have h_l_k := hv
        cases h_l_k
        refine nrm (σ' := [some (.ref s), some (.int a.1), some (.int a.2), some v_l_calls_here, some (.int ((2 : Int) + t3.1)), some (.bl (decide (t4.1 = (0 : Int)))), some (.int t5.1), some v_l_sizes, some (.ref p_l_found), some xv20, some (.int x25), y_l_figure_here]) rfl ?_
        obtain ⟨t30, e_t30, hm⟩ := bs hm
        obtain ⟨t31, e_t31, hm⟩ := bs hm
        refine q_set (σ' := fun v => [some (.ref s), some (.int a.1), some (.int a.2), some v_l_calls_here, some (.int ((2 : Int) + t3.1)), some (.bl (decide (t4.1 = (0 : Int)))), some (.int t5.1), some v_l_sizes, some (.ref p_l_found), some xv20, some (.int x25), some v]) (ev_callD (a := (t5.1, t30)) (r := t31.1) (z' := t31.2) hs e_t31 (ea_cons mo_ow (ev_own rfl) (ea_d (ev_d (K := K) rfl (.int _)) (ea_d (ev_ixLM (e := Dat.int) e_t30 (ev_d (K := K) rfl h_l_sizes) (ev_d (K := K) rfl (.int _))) ea_nil)))) ok (fun _ => rfl) (fun v_l_figure_here G H s1 ok h_l_figure_here => ?_)
        have h_l_calls_here := dp_up s1 _ h_l_calls_here
        have h_l_sizes := dp_up s1 _ h_l_sizes
        have hd_l_found := dpAll_up s1 _ hd_l_found
        have h_l_call := dp_up s1 _ h_l_call
        have sg := sg.trans s1
        have sl29 := sl29.trans s1
        have sl21 := sl21.trans s1
        cases h_l_figure_here
        have ok : Ok _ (upd M s (sto t31.2)) _ := ok
        have hs : (upd M s (sto t31.2)) s = some (sto t31.2) := upd_same
        have hB : ∀ a u, a ≠ s → M0 a = some u → (upd M s (sto t31.2)) a = some u := (hB_draw hB)
        have hp_l_found : (upd M s (sto t31.2)) p_l_found = some (.lst vs_l_found) := (up_ne n_l_found_l_store hp_l_found)
        obtain ⟨M, eM⟩ : ∃ m, m = (upd M s (sto t31.2)) := ⟨_, rfl⟩
        rw [← eM] at ok hs hB hp_l_found
        clear eM
        obtain ⟨t32, e_t32, hm⟩ := bs hm
        refine q_if (et_and (et_test (ev_neS (ev_ixLM (e := Dat.str) e_t32 (ev_d (K := K) rfl h_l_calls_here) (ev_d (K := K) rfl (.int _))) (ev_d (K := K) rfl h_l_call))) fun _ => (et_test (ev_gt (ev_d (K := K) rfl (.int _)) (ev_int (K := K))))) ok (fun hb G H s1 ok => ?_) (fun hb G H s1 ok => ?_)
        · have hm := cond_t hb hm
          have h_l_calls_here := dp_up s1 _ h_l_calls_here
          have h_l_sizes := dp_up s1 _ h_l_sizes
          have hd_l_found := dpAll_up s1 _ hd_l_found
          have h_l_call := dp_up s1 _ h_l_call
          have sg := sg.trans s1
          have sl29 := sl29.trans s1
          have sl21 := sl21.trans s1
          obtain ⟨t33, e_t33, hm⟩ := bs hm
          obtain ⟨t34, e_t34, hm⟩ := bs hm
          obtain ⟨hl_t34, ea_t34⟩ := appO_of e_t34
          refine q_append (ev_own rfl) (ea_d (ev_tup (ea_consD (ev_d (K := K) rfl h_l_call) (ea_consD (ev_ixLM (e := Dat.str) e_t33 (ev_d (K := K) rfl h_l_calls_here) (ev_d (K := K) rfl (.int _))) (ea_consD (ev_d (K := K) rfl (.int _)) (ea_nilD (K := K)))))) ea_nil) hp_l_found hp_l_found (by rw [dpAll_len hd_l_found, List.length_map]; exact szlt hl_t34) ok (fun v G H s1 ok hv => ?_)
          have h_l_calls_here := dp_up s1 _ h_l_calls_here
          have h_l_sizes := dp_up s1 _ h_l_sizes
          have hd_l_found := dpAll_up s1 _ hd_l_found
          have h_l_call := dp_up s1 _ h_l_call
          have sg := sg.trans s1
          have sl29 := sl29.trans s1
          have sl21 := sl21.trans s1
          have hd_l_found : DqAll K G (vs_l_found ++ [v]) (t34.map (eP3 Dat.str Dat.str Dat.int)) := by rw [ea_t34, List.map_append]; exact dpAll_app hd_l_found (.cons hv .nil)
          have ok : Ok _ (upd M p_l_found (.lst (vs_l_found ++ [v]))) _ := ok
          have hs : (upd M p_l_found (.lst (vs_l_found ++ [v]))) s = some (sto t31.2) := (up_ne n_l_store_l_found hs)
          have hB : ∀ a u, a ≠ s → M0 a = some u → (upd M p_l_found (.lst (vs_l_found ++ [v]))) a = some u := (hB_own hB h0_l_found)
          have hp_l_found : (upd M p_l_found (.lst (vs_l_found ++ [v]))) p_l_found = some (.lst (vs_l_found ++ [v])) := upd_same
          obtain ⟨M, eM⟩ : ∃ m, m = (upd M p_l_found (.lst (vs_l_found ++ [v]))) := ⟨_, rfl⟩
          rw [← eM] at ok hs hB hp_l_found
          clear eM
          obtain ⟨vs_l_found, e_vs⟩ : ∃ m, m = (vs_l_found ++ [v]) := ⟨_, rfl⟩
          rw [← e_vs] at hp_l_found hd_l_found
          clear e_vs
          refine q_nilU ?_
          refine q_nil ?_
          cases hm
          exact hN _ _ _ _ sl29 ok ⟨_, _, _, rfl, hd_l_found, hp_l_found, hs, hB⟩
        · have hm := cond_f hb hm
          have h_l_calls_here := dp_up s1 _ h_l_calls_here
          have h_l_sizes := dp_up s1 _ h_l_sizes
          have hd_l_found := dpAll_up s1 _ hd_l_found
          have h_l_call := dp_up s1 _ h_l_call
          have sg := sg.trans s1
          have sl29 := sl29.trans s1
          have sl21 := sl21.trans s1
          refine q_nilU ?_
          refine q_nil ?_
          cases hm
          exact hN _ _ _ _ sl29 ok ⟨_, _, _, rfl, hd_l_found, hp_l_found, hs, hB⟩
      · obtain ⟨y_l_figure_here, y_l_k, vs_l_found, rfl, hd_l_found, hp_l_found, hs, hB⟩ := hj
        have h_l_calls_here := dp_up s1 _ h_l_calls_here
        have h_l_sizes := dp_up s1 _ h_l_sizes
        have h_l_call := dp_up s1 _ h_l_call
        have sg := sg.trans s1
        have sl21 := sl21.trans s1
        refine q_nil ?_
        cases hm
        exact hN _ _ _ _ sl21 ok ⟨_, _, _, _, rfl, hd_l_found, hp_l_found, hs, hB⟩
    · obtain ⟨y_l_k, y_l_figure_here, y_l_call, vs_l_found, rfl, hd_l_found, hp_l_found, hs, hB⟩ := hj
      have h_l_calls_here := dp_up s1 _ h_l_calls_here
      have h_l_sizes := dp_up s1 _ h_l_sizes
      have sg := sg.trans s1
      obtain ⟨t35, e_t35, hm⟩ := bs hm
      obtain ⟨t44, e_t44, hm⟩ := bs hm
      refine q_ret (ev_tup (ea_consD (ev_tupL (ea_d (EvL.ev (el_lcM (ea := Dat.int) (eb := (eP2 Dat.str Dat.int)) (xs := t35) (ys := t44) (hf := e_t44) (src_rngO e_t35 (ea_d (ev_lenLM (e := Dat.str) (ea_d (ev_d (K := K) rfl h_l_calls_here) ea_nil)) ea_nil)) (fun x36 _ Mx40 _ _ he41 sM39 sG38 hv37 => by (obtain ⟨t42, e_t42, he41⟩ := bs he41); (obtain ⟨t43, e_t43, he41⟩ := bs he41); cases he41; exact (tg_name ⟨rfl, (ev_tup (ea_consD (ev_ixLM (e := Dat.str) e_t42 (ev_d (K := K) rfl (dp_up sG38 _ h_l_calls_here)) (ev_d (K := K) rfl hv37)) (ea_consD (ev_ixLM (e := Dat.int) e_t43 (ev_d (K := K) rfl (dp_up sG38 _ h_l_sizes)) (ev_d (K := K) rfl hv37)) (ea_nilD (K := K)))))⟩)))) ea_nil)) (ea_consD (ev_tupO hp_l_found hd_l_found (ea_cons mo_ow (ev_own rfl) ea_nil)) (ea_nilD (K := K))))) ok (fun v G H s1 ok hv => ?_)
      have sg := sg.trans s1
      cases hm
      exact q v G H sg (ok.less (same_fin hB hs)) hv
/-! ### _law_table -/
theorem sc__law_table : FnScope ["_law_kit_here", "_law_call", "_law_mate", "_law_figure_here"] ["_law_kit_here"] (defScope s__law_table) := ⟨rfl, rfl, rfl, by decide +kernel, rfl, by decide +kernel, by decide +kernel⟩
def a__law_table (K : PySem.W.Frag) (a : ((List (Str × Int)) × (List (Str × Str × Int)))) : List V → Hp → Prop := conP (DD K ((eP2 (eT (eP2 Dat.str Dat.int)) (eT (eP3 Dat.str Dat.str Dat.int))) a)) (nilP)
def m__law_table (a : ((List (Str × Int)) × (List (Str × Str × Int)))) : Option (List ((Str × Str) × Int)) :=
  (lcO (fun x1 : (Str × Str × Int) => some ((x1.1, x1.2.1), x1.2.2)) a.2).bind fun t10 => (dictO t10).bind fun t11 => some t11
abbrev sp__law_table [Tb] (K : PySem.W.Frag) : Sp := spFP K (a__law_table K) m__law_table Dat.int
theorem ok__law_table [Tb] {P : Program} {w : World} {K : PySem.W.Frag} {mg : Str → Option Value} {base : Heap} (T : Txt K mg) : FnOk P w K mg base CX0 (1) T.a__law_table T.d__law_table ["_law_kit_here"] (sp__law_table K) := by
  refine T.F__law_table.ok sc__law_table (fun vs H Q E h => ?_) (fun cdv A outer s0 H vs Q E hr h => ?_)
  · obtain ⟨G, M0, a, r, ok, ⟨v_l_kit_here, _, rfl, h_l_kit_here, rfl⟩, hm, q⟩ := h
    rfl
  · obtain ⟨G, M0, a, r, ok, ⟨v_l_kit_here, _, rfl, h_l_kit_here, rfl⟩, hm, q⟩ := h
    unfold m__law_table at hm
    have sg := Same.refl G
    have hB := Same.refl M0
    refine ⟨_, (pss_cons (ps_ret (pe_callTy (cl_dictHK (K := K) hr.units rfl) (by rfl) T.n_dict (by decide +kernel) (pa_cons (pe_lc (own := [("_law_call", 1), ("_law_mate", 2), ("_law_figure_here", 3)]) (g := (gTup K 3 (gCons (gName 1) (gCons (gName 2) (gCons (gName 3) gNil))))) (tt := tYes) rfl sc__law_table.nd (pi_tupK (K := K) (pe_ix (ix_tupK (K := K)) (pv 0) pe_int (fun _ _ => rfl))) (blkOk_by (own := [("_law_call", 1), ("_law_mate", 2), ("_law_figure_here", 3)]) (N := ["_law_kit_here", "_law_call", "_law_mate", "_law_figure_here"]) (sc := defScope s__law_table) (by decide +kernel)) (fun _ _ _ _ _ => (pg_tup rfl (pgs_cons (pg_name (i := 1) sc__law_table.nd rfl (by first | exact .inl rfl | exact .inr rfl)) (pgs_cons (pg_name (i := 2) sc__law_table.nd rfl (by first | exact .inl rfl | exact .inr rfl)) (pgs_cons (pg_name (i := 3) sc__law_table.nd rfl (by first | exact .inl rfl | exact .inr rfl)) pgs_nil))))) (fun _ _ _ _ _ => pts_nil) (fun _ _ _ _ _ => (pe_tupF (pa_cons (pe_tup (pa_cons (pv 1) (pa_cons (pv 2) pa_nil))) (pa_cons (pv 3) pa_nil))))) pa_nil))) pss_nil), ?_⟩
    refine nrm (σ' := [some v_l_kit_here, none, none, none]) rfl ?_
    obtain ⟨t10, e_t10, hm⟩ := bs hm
    obtain ⟨t11, e_t11, hm⟩ := bs hm
    refine q_retP (ep_dictP (e := Dat.int) e_t11 (ea_d (EvL.ev (el_lcM (ea := (eP3 Dat.str Dat.str Dat.int)) (eb := (eP2 (eR2 Dat.str Dat.str) Dat.int)) (xs := a.2) (ys := t10) (hf := e_t10) (src_tup (ev_ixT (d := (eT (eP3 Dat.str Dat.str Dat.int)) a.2) rfl (ev_d (K := K) rfl h_l_kit_here) ev_int)) (fun x1 _ Mx5 _ _ he6 sM4 sG3 hv2 => by cases he6; exact (tg_t3 hv2 fun _ _ _ h7 h8 h9 => (tg_name (tg_name (tg_name ⟨rfl, (ev_tup (ea_consD (ev_rtup (ea_consD (ev_d (K := K) rfl h7) (ea_consD (ev_d (K := K) rfl h8) (ea_nilD (K := K))))) (ea_consD (ev_d (K := K) rfl h9) (ea_nilD (K := K)))))⟩))))))) ea_nil)) ok (fun p kvs G H s1 ok hn hd => ?_)
    cases hm
    exact q p kvs G H (sg.trans s1) ok hn hd
/-! ### _law_twos -/
theorem sc__law_twos : FnScope ["_law_kit_here", "_law_calls_here", "_law_found", "_law_k", "_law_bell", "_law_mate"] ["_law_kit_here"] (defScope s__law_twos) := ⟨rfl, rfl, rfl, by decide +kernel, rfl, by decide +kernel, by decide +kernel⟩
def a__law_twos (K : PySem.W.Frag) (a : ((List (Str × Int)) × (List (Str × Str × Int)))) : List V → Hp → Prop := conP (DD K ((eP2 (eT (eP2 Dat.str Dat.int)) (eT (eP3 Dat.str Dat.str Dat.int))) a)) (nilP)
def m__law_twos (a : ((List (Str × Int)) × (List (Str × Str × Int)))) : Option (List (Str × Str)) :=
  (lcO (fun x1 : (Str × Int) => some x1.1) a.1).bind fun t7 => (rngO (t7.length : Int)).bind fun t8 => (forO (fun (st10 : (List (Str × Str))) (x11 : Int) => (lcO (fun x16 : Str => (atI t7 x11).bind fun t22 => some (t22, x16)) (cut t7 (some (x11 + (1 : Int))) none)).bind fun t23 => (catO st10 t23).bind fun t24 => some t24) t8 ([] : (List (Str × Str)))).bind fun fin9 => some fin9
abbrev sp__law_twos [Tb] (K : PySem.W.Frag) : Sp := spP (a__law_twos K) (m__law_twos) fun r => DD K ((eL (eP2 Dat.str Dat.str)) r)
theorem ok__law_twos [Tb] {P : Program} {w : World} {K : PySem.W.Frag} {mg : Str → Option Value} {base : Heap} (T : Txt K mg) : FnOk P w K mg base CX0 (1) T.a__law_twos T.d__law_twos ["_law_kit_here"] (sp__law_twos K) := by
  refine T.F__law_twos.ok sc__law_twos (fun vs H Q E h => ?_) (fun cdv A outer s0 H vs Q E hr h => ?_)
  · obtain ⟨G, M0, a, r, ok, ⟨v_l_kit_here, _, rfl, h_l_kit_here, rfl⟩, hm, q⟩ := h
    rfl
  · obtain ⟨G, M0, a, r, ok, ⟨v_l_kit_here, _, rfl, h_l_kit_here, rfl⟩, hm, q⟩ := h
    unfold m__law_twos at hm
    have sg := Same.refl G
    have hB := Same.refl M0
    refine ⟨_, (pss_cons (ps_asg (pe_tup (pa_cons (pe_lc (own := [("_law_bell", 4)]) (g := (gName 4)) (tt := tYes) rfl sc__law_twos.nd (pi_tupK (K := K) (pe_ix (ix_tupK (K := K)) (pv 0) pe_int (fun _ _ => rfl))) (blkOk_by (own := [("_law_bell", 4)]) (N := ["_law_kit_here", "_law_calls_here", "_law_found", "_law_k", "_law_bell", "_law_mate"]) (sc := defScope s__law_twos) (by decide +kernel)) (fun _ _ _ _ _ => (pg_name (i := 4) sc__law_twos.nd rfl (by first | exact .inl rfl | exact .inr rfl))) (fun _ _ _ _ _ => pts_nil) (fun _ _ _ _ _ => (pe_ix (ix_tupK (K := K)) (pv 4) pe_int (fun _ _ => rfl)))) (pa_cons (pe_lst pa_nil) pa_nil))) (pg_tup rfl (pgs_cons (pg_name (i := 1) sc__law_twos.nd rfl (.inr rfl)) (pgs_cons (pg_name (i := 2) sc__law_twos.nd rfl (.inl rfl)) pgs_nil)))) (pss_cons (ps_for PassesOwn.never rfl (pi_range1 (by rfl) T.n_range (pa_cons (pe_callB (cl_lenK (K := K)) (by rfl) T.n_len (by decide +kernel) (pa_cons (pv 1) pa_nil)) pa_nil)) (pg_name (i := 3) sc__law_twos.nd rfl (.inr rfl)) (pss_cons (ps_expr (pe_bm PySem.F.plainAttrs_list PySem.F.slot_list_extend PySem.F.type_list_extend mt_extend (pv 2) (pa_cons (pe_lc (own := [("_law_mate", 5)]) (g := (gName 5)) (tt := tYes) rfl sc__law_twos.nd (pi_listK (K := K) (pe_slice (sl_listK (K := K)) (pv 1) (po_some (pe_op op_add (pv 3) pe_int)) po_none)) (blkOk_by (own := [("_law_mate", 5)]) (N := ["_law_kit_here", "_law_calls_here", "_law_found", "_law_k", "_law_bell", "_law_mate"]) (sc := defScope s__law_twos) (by decide +kernel)) (fun _ _ _ _ _ => (pg_name (i := 5) sc__law_twos.nd rfl (by first | exact .inl rfl | exact .inr rfl))) (fun _ _ _ _ _ => pts_nil) (fun _ _ _ _ _ => (pe_tupF (pa_cons (pe_ix (ix_listK (K := K)) (pv 1) (pv 3) (fun _ _ => rfl)) (pa_cons (pv 5) pa_nil))))) pa_nil))) pss_nil)) (pss_cons (ps_ret (pv 2)) pss_nil))), ?_⟩
    refine nrm (σ' := [some v_l_kit_here, none, none, none, none, none]) rfl ?_
    obtain ⟨t7, e_t7, hm⟩ := bs hm
    refine q_tupDL (σ' := fun v w => [some v_l_kit_here, some v, some w, none, none, none]) (EvL.ev (el_lcM (ea := (eP2 Dat.str Dat.int)) (eb := Dat.str) (xs := a.1) (ys := t7) (hf := e_t7) (src_tup (ev_ixT (d := (eT (eP2 Dat.str Dat.int)) a.1) rfl (ev_d (K := K) rfl h_l_kit_here) ev_int)) (fun x1 _ Mx5 _ _ he6 sM4 sG3 hv2 => by cases he6; exact (tg_name ⟨rfl, (ev_ixT (d := Dat.str x1.1) rfl (ev_d (K := K) rfl hv2) ev_int)⟩)))) mo_dd (el_lst (ea_nilD (K := K))) ok (fun _ _ => rfl) (fun v_l_calls_here p_l_found vs_l_found G H s1 ok hn h_l_calls_here hd_l_found => ?_)
    have h_l_kit_here := dp_up s1 _ h_l_kit_here
    have sg := sg.trans s1
    have h0_l_found : M0 p_l_found = none := sB_none (M := M0) hB hn
    have hd_l_found : DqAll K G vs_l_found (([] : (List (Str × Str))).map (eP2 Dat.str Dat.str)) := hd_l_found
    have ok : Ok _ (upd M0 p_l_found (.lst vs_l_found)) _ := ok
    have hB : Same M0 (upd M0 p_l_found (.lst vs_l_found)) := (sB_own hB h0_l_found)
    have hp_l_found : (upd M0 p_l_found (.lst vs_l_found)) p_l_found = some (.lst vs_l_found) := upd_same
    obtain ⟨M, eM⟩ : ∃ m, m = (upd M0 p_l_found (.lst vs_l_found)) := ⟨_, rfl⟩
    rw [← eM] at ok hB hp_l_found
    clear eM
    obtain ⟨t8, e_t8, hm⟩ := bs hm
    obtain ⟨fin9, e_fin9, hm⟩ := bs hm
    have hmo12 := hm
    refine q_forO (ea := Dat.int) (src_rngO e_t8 (ea_d (ev_lenLM (e := Dat.str) (ea_d (ev_d (K := K) rfl h_l_calls_here) ea_nil)) ea_nil)) ok (fun (st10 : (List (Str × Str))) σ1 G1 M1 => ∃ (y_l_k : Option V) (vs_l_found : List V), σ1 = [some v_l_kit_here, some v_l_calls_here, some (.ref p_l_found), y_l_k, none, none] ∧ (DqAll K G1 vs_l_found (st10.map (eP2 Dat.str Dat.str))) ∧ (M1 p_l_found = some (.lst vs_l_found)) ∧ (Same M0 M1)) e_fin9 (fun G1 s1 => ⟨_, _, rfl, dpAll_up s1 _ hd_l_found, hp_l_found, hB⟩) (by rintro _ _ _ _ _ ⟨y_l_k, vs_l_found, rfl, hd_l_found, hp_l_found, hB⟩ s2; exact ⟨_, _, rfl, dpAll_up s2 _ hd_l_found, hp_l_found, hB⟩) (fun x11 xv14 st10 st' σ1 G M H N hm hj s1 ok hv hN => ?_) (fun σ1 G M H s1 ok hj => ?_)
    · obtain ⟨y_l_k, vs_l_found, rfl, hd_l_found, hp_l_found, hB⟩ := hj
      have h_l_kit_here := dp_up s1 _ h_l_kit_here
      have h_l_calls_here := dp_up s1 _ h_l_calls_here
      have sg := sg.trans s1
      have sl15 := Same.refl G
      refine gn ?_
      have h_l_k := hv
      cases h_l_k
      refine nrm (σ' := [some v_l_kit_here, some v_l_calls_here, some (.ref p_l_found), some (.int x11), none, none]) rfl ?_
      obtain ⟨t23, e_t23, hm⟩ := bs hm
      obtain ⟨t24, e_t24, hm⟩ := bs hm
      obtain ⟨hl_t24, ea_t24⟩ := catO_of e_t24
      refine q_extend (ev_own rfl) (ea_d (EvL.ev (el_lcM (ea := Dat.str) (eb := (eP2 Dat.str Dat.str)) (xs := (cut t7 (some (x11 + (1 : Int))) none)) (ys := t23) (hf := e_t23) (src_list (EvL.ev (el_slLM (e := Dat.str) (ev_d (K := K) rfl h_l_calls_here) (eo_some (ev_add (ev_d (K := K) rfl (.int _)) (ev_int (K := K)))) eo_none))) (fun x16 _ Mx20 _ _ he21 sM19 sG18 hv17 => by (obtain ⟨t22, e_t22, he21⟩ := bs he21); cases he21; exact (tg_name ⟨rfl, (ev_tup (ea_consD (ev_ixLM (e := Dat.str) e_t22 (ev_d (K := K) rfl (dp_up sG18 _ h_l_calls_here)) (ev_d (K := K) rfl (.int _))) (ea_consD (ev_d (K := K) rfl hv17) (ea_nilD (K := K)))))⟩)))) ea_nil) hp_l_found hp_l_found (by rw [dpAll_len hd_l_found, List.length_map, List.length_map]; exact szl hl_t24) ok (fun ws G H s1 ok hv => ?_)
      have h_l_kit_here := dp_up s1 _ h_l_kit_here
      have h_l_calls_here := dp_up s1 _ h_l_calls_here
      have hd_l_found := dpAll_up s1 _ hd_l_found
      have sg := sg.trans s1
      have sl15 := sl15.trans s1
      have hd_l_found : DqAll K G (vs_l_found ++ ws) (t24.map (eP2 Dat.str Dat.str)) := by rw [ea_t24, List.map_append]; exact dpAll_app hd_l_found hv
      have ok : Ok _ (upd M p_l_found (.lst (vs_l_found ++ ws))) _ := ok
      have hB : Same M0 (upd M p_l_found (.lst (vs_l_found ++ ws))) := (sB_own hB h0_l_found)
      have hp_l_found : (upd M p_l_found (.lst (vs_l_found ++ ws))) p_l_found = some (.lst (vs_l_found ++ ws)) := upd_same
      obtain ⟨M, eM⟩ : ∃ m, m = (upd M p_l_found (.lst (vs_l_found ++ ws))) := ⟨_, rfl⟩
      rw [← eM] at ok hB hp_l_found
      clear eM
      obtain ⟨vs_l_found, e_vs⟩ : ∃ m, m = (vs_l_found ++ ws) := ⟨_, rfl⟩
      rw [← e_vs] at hp_l_found hd_l_found
      clear e_vs
      refine q_nil ?_
      cases hm
      exact hN _ _ _ _ sl15 ok ⟨_, _, rfl, hd_l_found, hp_l_found, hB⟩
    · obtain ⟨y_l_k, vs_l_found, rfl, hd_l_found, hp_l_found, hB⟩ := hj
      have h_l_kit_here := dp_up s1 _ h_l_kit_here
      have h_l_calls_here := dp_up s1 _ h_l_calls_here
      have sg := sg.trans s1
      refine q_ret (ev_own rfl) ok (fun v G H s1 ok hv => ?_)
      have sg := sg.trans s1
      have hd_l_found := dpAll_up s1 _ hd_l_found
      cases hv
      have gp : G p_l_found = none := ok.d _ _ hp_l_found
      cases hm
      exact q _ (upd G p_l_found (.lst vs_l_found)) H (sg.trans (Same.new gp)) (ok.giveL hp_l_found h0_l_found hB) (.lst upd_same (dpAll_up (Same.new gp) _ hd_l_found))
/-! ### _law_made -/
theorem sc__law_made : FnScope ["_law_kit_here"] ["_law_kit_here"] (defScope s__law_made) := ⟨rfl, rfl, rfl, by decide +kernel, rfl, by decide +kernel, by decide +kernel⟩
def a__law_made (K : PySem.W.Frag) (a : ((List (Str × Int)) × (List (Str × Str × Int)))) : List V → Hp → Prop := conP (DD K ((eP2 (eT (eP2 Dat.str Dat.int)) (eT (eP3 Dat.str Dat.str Dat.int))) a)) (nilP)
def m__law_made (a : ((List (Str × Int)) × (List (Str × Str × Int)))) : Option ((List (Str × Int)) × (List (Str × Str × Int)) × (List (Str × Int)) × (List ((Str × Str) × Int))) :=
  (m_Peal___init__ (a.1, a.2)).bind fun t1 => some t1
abbrev sp__law_made [Tb] (K : PySem.W.Frag) : Sp := spP (a__law_made K) (m__law_made) fun r => DD K (eX_Peal r)
theorem ok__law_made [Tb] {P : Program} {w : World} {K : PySem.W.Frag} {mg : Str → Option Value} {base : Heap} (T : Txt K mg) (O_Peal___init__ : FnOk P w K mg base CX0 5 T.a_Peal___init__ T.d_Peal___init__ ["self", "bells", "notches"] (sp_Peal___init__ K)) : FnOk P w K mg base CX0 (7) T.a__law_made T.d__law_made ["_law_kit_here"] (sp__law_made K) := by
  refine T.F__law_made.ok sc__law_made (fun vs H Q E h => ?_) (fun cdv A outer s0 H vs Q E hr h => ?_)
  · obtain ⟨G, M0, a, r, ok, ⟨v_l_kit_here, _, rfl, h_l_kit_here, rfl⟩, hm, q⟩ := h
    rfl
  · obtain ⟨G, M0, a, r, ok, ⟨v_l_kit_here, _, rfl, h_l_kit_here, rfl⟩, hm, q⟩ := h
    unfold m__law_made at hm
    have sg := Same.refl G
    have hB := Same.refl M0
    refine ⟨_, (pss_cons (ps_ret (pe_make T.mk_Peal O_Peal___init__ (hr.mono (by decide)) (by rfl) T.mg_Peal T.b_Peal___init__ .nil pass0 (pa_cons (pe_ix (ix_tupK (K := K)) (pv 0) pe_int (fun _ _ => rfl)) (pa_cons (pe_ix (ix_tupK (K := K)) (pv 0) pe_int (fun _ _ => rfl)) pa_nil)))) pss_nil), ?_⟩
    refine nrm (σ' := [some v_l_kit_here]) rfl ?_
    obtain ⟨t1, e_t1, hm⟩ := bs hm
    refine q_ret (ev_make (a := (a.1, a.2)) e_t1 (ea_d (ev_ixT (d := (eT (eP2 Dat.str Dat.int)) a.1) rfl (ev_d (K := K) rfl h_l_kit_here) ev_int) (ea_d (ev_ixT (d := (eT (eP3 Dat.str Dat.str Dat.int)) a.2) rfl (ev_d (K := K) rfl h_l_kit_here) ev_int) ea_nil))) ok (fun v G H s1 ok hv => ?_)
    have sg := sg.trans s1
    cases hm
    exact q v G H sg (ok.less hB) hv
/-! ### _law_shared -/
theorem sc__law_shared : FnScope ["_law_first", "_law_second"] ["_law_first", "_law_second"] (defScope s__law_shared) := ⟨rfl, rfl, rfl, by decide +kernel, rfl, by decide +kernel, by decide +kernel⟩
def a__law_shared (K : PySem.W.Frag) (a : Int × Int) : List V → Hp → Prop := conP (DD K (Dat.int a.1)) (conP (DD K (Dat.int a.2)) (nilP))
def m__law_shared (a : Int × Int) : Option Int :=
  (whileO (fun (st2 : Int × Int) => some (decide ((0 : Int) < st2.2))) (fun (st2 : Int × Int) => (modO st2.1 st2.2).bind fun t6 => some (st2.2, t6)) ((a.2).toNat + 1) (a.1, a.2)).bind fun fin1 => some fin1.1
abbrev sp__law_shared [Tb] (K : PySem.W.Frag) : Sp := spP (a__law_shared K) (m__law_shared) fun r => DD K (Dat.int r)
theorem ok__law_shared [Tb] {P : Program} {w : World} {K : PySem.W.Frag} {mg : Str → Option Value} {base : Heap} (T : Txt K mg) : FnOk P w K mg base CX0 (1) T.a__law_shared T.d__law_shared ["_law_first", "_law_second"] (sp__law_shared K) := by
  refine T.F__law_shared.ok sc__law_shared (fun vs H Q E h => ?_) (fun cdv A outer s0 H vs Q E hr h => ?_)
  · obtain ⟨G, M0, a, r, ok, ⟨v_l_first, _, rfl, h_l_first, v_l_second, _, rfl, h_l_second, rfl⟩, hm, q⟩ := h
    rfl
  · obtain ⟨G, M0, a, r, ok, ⟨v_l_first, _, rfl, h_l_first, v_l_second, _, rfl, h_l_second, rfl⟩, hm, q⟩ := h
    unfold m__law_shared at hm
    have sg := Same.refl G
    have hB := Same.refl M0
    refine ⟨_, (pss_cons (ps_while PassesOwn.never (pt_cmpR op_gt (pv 1) pe_int (nomark _)) (pss_cons (ps_par (i := 0) (j := 1) rfl sc__law_shared.nd rfl rfl (by decide) rfl rfl (pa_cons (pv 1) (pa_cons (pe_op op_modN (pv 0) (pv 1)) pa_nil)) (by rfl)) pss_nil)) (pss_cons (ps_ret (pv 0)) pss_nil)), ?_⟩
    cases h_l_first
    cases h_l_second
    refine nrm (σ' := [some (.int a.1), some (.int a.2)]) rfl ?_
    obtain ⟨fin1, e_fin1, hm⟩ := bs hm
    refine q_whileO ok (fun (st2 : Int × Int) σ1 G1 M1 => σ1 = [some (.int st2.1), some (.int st2.2)] ∧ (Same M0 M1)) e_fin1 ⟨rfl, hB⟩ (fun st2 b σ1 G M H hm hj s1 ok => ?_) (by rintro _ _ _ _ _ ⟨rfl, hB⟩ s2; exact ⟨rfl, hB⟩) (fun st2 st' σ1 G M H N hc hm hj s1 ok hN => ?_) (fun σ1 G M H hc s1 ok hj => ?_)
    · obtain ⟨rfl, hB⟩ := hj
      have sg := sg.trans s1
      rw [← Option.some.inj hm]
      exact (et_test (ev_gt (ev_d (K := K) rfl (.int _)) (ev_int (K := K))))
    · obtain ⟨rfl, hB⟩ := hj
      have sg := sg.trans s1
      have sl5 := Same.refl G
      obtain ⟨t6, e_t6, hm⟩ := bs hm
      refine q_par (σ' := fun v w => [some v, some w]) (ea_d (ev_d (K := K) rfl (.int _)) (ea_d (ev_modO e_t6 (ev_d (K := K) rfl (.int _)) (ev_d (K := K) rfl (.int _))) ea_nil)) ok (fun _ _ => rfl) (fun v_l_first v_l_second G H s1 ok h_l_first h_l_second => ?_)
      have sg := sg.trans s1
      have sl5 := sl5.trans s1
      cases h_l_first
      cases h_l_second
      refine q_nil ?_
      cases hm
      exact hN _ _ _ _ sl5 ok ⟨rfl, hB⟩
    · obtain ⟨rfl, hB⟩ := hj
      have sg := sg.trans s1
      refine q_ret (ev_d (K := K) rfl (.int _)) ok (fun v G H s1 ok hv => ?_)
      have sg := sg.trans s1
      cases hm
      exact q v G H sg (ok.less hB) hv
/-! ### _law_keeps -/
theorem sc__law_keeps : FnScope ["_law_kit_here", "_law_table_here", "_law_some", "_law_sizes", "_law_by", "_law_call", "_law_mate", "_law_top", "_law_k"] ["_law_kit_here", "_law_table_here", "_law_some"] (defScope s__law_keeps) := ⟨rfl, rfl, rfl, by decide +kernel, rfl, by decide +kernel, by decide +kernel⟩
def a__law_keeps (K : PySem.W.Frag) (a : ((List (Str × Int)) × (List (Str × Str × Int))) × (List ((Str × Str) × Int)) × (List Int)) : List V → Hp → Prop := conP (DD K ((eP2 (eT (eP2 Dat.str Dat.int)) (eT (eP3 Dat.str Dat.str Dat.int))) a.1)) (conP (DD K ((eDP Dat.int) a.2.1)) (conP (DD K ((eT Dat.int) a.2.2)) (nilP)))
def m__law_keeps (a : ((List (Str × Int)) × (List (Str × Str × Int))) × (List ((Str × Str) × Int)) × (List Int)) : Option Bool :=
  (dictO a.1.1).bind fun t1 => (rngO (a.2.2.length : Int)).bind fun t2 => (lcO (fun x3 : Int => (atI a.1.1 x3).bind fun t9 => (atI a.2.2 x3).bind fun t10 => some (t9.1, t10)) t2).bind fun t11 => (dictO t11).bind fun t12 => (m__law_twos a.1).bind fun t13 => (forR (R := Bool) (fun (st15 : Unit) (x16 : (Str × Str)) => (getA t12 x16.1).bind fun t25 => (mulO t25 (getD' a.2.1 (x16.2, x16.1) (0 : Int))).bind fun t26 => (getA t1 x16.2).bind fun t27 => (mulO t26 t27).bind fun t28 => (getA t12 x16.2).bind fun t29 => (mulO t29 (getD' a.2.1 (x16.1, x16.2) (0 : Int))).bind fun t30 => (getA t1 x16.1).bind fun t31 => (mulO t30 t31).bind fun t32 => (getA t1 x16.1).bind fun t33 => (getA t1 x16.2).bind fun t34 => (mulO t33 t34).bind fun t35 => (modO (t28 + t32) t35).bind fun t36 => cond (!decide (t36 = (0 : Int))) (some (.inr false)) (some (.inl ()))) t13 ()).bind fun fin14 => orR fin14 (fun fin14s => some true) (fun r => some r)
abbrev sp__law_keeps [Tb] (K : PySem.W.Frag) : Sp := spP (a__law_keeps K) (m__law_keeps) fun r => DD K (Dat.bool r)
theorem ok__law_keeps [Tb] {P : Program} {w : World} {K : PySem.W.Frag} {mg : Str → Option Value} {base : Heap} (T : Txt K mg) (O__law_twos : FnOk P w K mg base CX0 1 T.a__law_twos T.d__law_twos ["_law_kit_here"] (sp__law_twos K)) : FnOk P w K mg base CX0 (2) T.a__law_keeps T.d__law_keeps ["_law_kit_here", "_law_table_here", "_law_some"] (sp__law_keeps K) := by
  refine T.F__law_keeps.ok sc__law_keeps (fun vs H Q E h => ?_) (fun cdv A outer s0 H vs Q E hr h => ?_)
  · obtain ⟨G, M0, a, r, ok, ⟨v_l_kit_here, _, rfl, h_l_kit_here, v_l_table_here, _, rfl, h_l_table_here, v_l_some, _, rfl, h_l_some, rfl⟩, hm, q⟩ := h
    rfl
  · obtain ⟨G, M0, a, r, ok, ⟨v_l_kit_here, _, rfl, h_l_kit_here, v_l_table_here, _, rfl, h_l_table_here, v_l_some, _, rfl, h_l_some, rfl⟩, hm, q⟩ := h
    unfold m__law_keeps at hm
    have sg := Same.refl G
    have hB := Same.refl M0
    refine ⟨_, (pss_cons (ps_par (i := 3) (j := 4) rfl sc__law_keeps.nd rfl rfl (by decide) rfl rfl (pa_cons (pe_callTy (cl_dictTK (K := K) rfl) (by rfl) T.n_dict (by decide +kernel) (pa_cons (pe_ix (ix_tupK (K := K)) (pv 0) pe_int (fun _ _ => rfl)) pa_nil)) (pa_cons (pe_callTy (cl_dictTK (K := K) rfl) (by rfl) T.n_dict (by decide +kernel) (pa_cons (pe_lc (own := [("_law_k", 8)]) (g := (gName 8)) (tt := tYes) rfl sc__law_keeps.nd (pi_range1 (by rfl) T.n_range (pa_cons (pe_callB (cl_lenK (K := K)) (by rfl) T.n_len (by decide +kernel) (pa_cons (pv 2) pa_nil)) pa_nil)) (blkOk_by (own := [("_law_k", 8)]) (N := ["_law_kit_here", "_law_table_here", "_law_some", "_law_sizes", "_law_by", "_law_call", "_law_mate", "_law_top", "_law_k"]) (sc := defScope s__law_keeps) (by decide +kernel)) (fun _ _ _ _ _ => (pg_name (i := 8) sc__law_keeps.nd rfl (by first | exact .inl rfl | exact .inr rfl))) (fun _ _ _ _ _ => pts_nil) (fun _ _ _ _ _ => (pe_tupF (pa_cons (pe_ix (ix_tupK (K := K)) (pe_ix (ix_tupK (K := K)) (pe_ix (ix_tupK (K := K)) (pv 0) pe_int (fun _ _ => rfl)) (pv 8) (fun _ _ => rfl)) pe_int (fun _ _ => rfl)) (pa_cons (pe_ix (ix_tupK (K := K)) (pv 2) (pv 8) (fun _ _ => rfl)) pa_nil))))) pa_nil)) pa_nil)) (by rfl)) (pss_cons (ps_for PassesOwn.never rfl (pi_listK (K := K) (pe_call O__law_twos (hr.mono (by decide)) (by rfl) T.g__law_twos T.F__law_twos.kp T.b__law_twos .nil pass0 (pa_cons (pv 0) pa_nil))) (pg_tup rfl (pgs_cons (pg_name (i := 5) sc__law_keeps.nd rfl (.inl rfl)) (pgs_cons (pg_name (i := 6) sc__law_keeps.nd rfl (.inl rfl)) pgs_nil))) (pss_cons (ps_set (i := 7) sc__law_keeps.nd rfl (.inl rfl) (pe_op op_add (pe_op op_mulO (pe_op op_mulO (pe_dget (hu_of hr) (pv 4) (pv 5) (fun _ _ => rfl)) (pe_dget2 (hu_of hr) (pv 1) (pe_tup (pa_cons (pv 6) (pa_cons (pv 5) pa_nil))) pe_int ⟨rfl, rfl, rfl, rfl⟩)) (pe_dget (hu_of hr) (pv 3) (pv 6) (fun _ _ => rfl))) (pe_op op_mulO (pe_op op_mulO (pe_dget (hu_of hr) (pv 4) (pv 6) (fun _ _ => rfl)) (pe_dget2 (hu_of hr) (pv 1) (pe_tup (pa_cons (pv 5) (pa_cons (pv 6) pa_nil))) pe_int ⟨rfl, rfl, rfl, rfl⟩)) (pe_dget (hu_of hr) (pv 3) (pv 5) (fun _ _ => rfl))))) (pss_cons (ps_if (pt_cmpR op_ne (pe_op op_modN (pv 7) (pe_op op_mulO (pe_dget (hu_of hr) (pv 3) (pv 5) (fun _ _ => rfl)) (pe_dget (hu_of hr) (pv 3) (pv 6) (fun _ _ => rfl)))) pe_int (nomark _)) (pss_cons (ps_ret pe_bl) pss_nil) pss_nil) pss_nil))) (pss_cons (ps_ret pe_bl) pss_nil))), ?_⟩
    refine nrm (σ' := [some v_l_kit_here, some v_l_table_here, some v_l_some, none, none, none, none, none, none]) rfl ?_
    obtain ⟨t1, e_t1, hm⟩ := bs hm
    obtain ⟨t2, e_t2, hm⟩ := bs hm
    obtain ⟨t11, e_t11, hm⟩ := bs hm
    obtain ⟨t12, e_t12, hm⟩ := bs hm
    refine q_par (σ' := fun v w => [some v_l_kit_here, some v_l_table_here, some v_l_some, some v, some w, none, none, none, none]) (ea_d (ev_dictT (e := Dat.int) e_t1 (ea_d (ev_ixT (d := (eT (eP2 Dat.str Dat.int)) a.1.1) rfl (ev_d (K := K) rfl h_l_kit_here) ev_int) ea_nil)) (ea_d (ev_dictL (e := Dat.int) e_t12 (ea_d (EvL.ev (el_lcM (ea := Dat.int) (eb := (eP2 Dat.str Dat.int)) (xs := t2) (ys := t11) (hf := e_t11) (src_rngO e_t2 (ea_d (ev_lenTM (e := Dat.int) (ea_d (ev_d (K := K) rfl h_l_some) ea_nil)) ea_nil)) (fun x3 _ Mx7 _ _ he8 sM6 sG5 hv4 => by (obtain ⟨t9, e_t9, he8⟩ := bs he8); (obtain ⟨t10, e_t10, he8⟩ := bs he8); cases he8; exact (tg_name ⟨rfl, (ev_tup (ea_consD (ev_ixT (d := Dat.str t9.1) rfl (ev_ixTM (e := (eP2 Dat.str Dat.int)) e_t9 (ev_ixT (d := (eT (eP2 Dat.str Dat.int)) a.1.1) rfl (ev_d (K := K) rfl (dp_up sG5 _ h_l_kit_here)) ev_int) (ev_d (K := K) rfl hv4)) ev_int) (ea_consD (ev_ixTM (e := Dat.int) e_t10 (ev_d (K := K) rfl (dp_up sG5 _ h_l_some)) (ev_d (K := K) rfl hv4)) (ea_nilD (K := K)))))⟩)))) ea_nil)) ea_nil)) ok (fun _ _ => rfl) (fun v_l_sizes v_l_by G H s1 ok h_l_sizes h_l_by => ?_)
    have h_l_kit_here := dp_up s1 _ h_l_kit_here
    have h_l_table_here := dp_up s1 _ h_l_table_here
    have h_l_some := dp_up s1 _ h_l_some
    have sg := sg.trans s1
    obtain ⟨t13, e_t13, hm⟩ := bs hm
    obtain ⟨fin14, e_fin14, hm⟩ := bs hm
    have hmo17 := hm
    refine q_forR (ea := (eP2 Dat.str Dat.str)) (src_list (ev_callP (res := fun r => DD K ((eL (eP2 Dat.str Dat.str)) r)) (a := a.1) e_t13 (ea_d (ev_d (K := K) rfl h_l_kit_here) ea_nil))) ok (fun (st15 : Unit) σ1 G1 M1 => ∃ (y_l_top : Option V) (y_l_call : Option V) (y_l_mate : Option V), σ1 = [some v_l_kit_here, some v_l_table_here, some v_l_some, some v_l_sizes, some v_l_by, y_l_call, y_l_mate, y_l_top, none] ∧ (Same M0 M1)) e_fin14 (fun G1 s1 => ⟨_, _, _, rfl, hB⟩) (by rintro _ _ _ _ _ ⟨y_l_top, y_l_call, y_l_mate, rfl, hB⟩ s2; exact ⟨_, _, _, rfl, hB⟩) (fun x16 xv19 st15 st' σ1 G M H N hm hret18 hj s1 ok hv hN => ?_) (fun fin14s σ1 G M H hfin s1 ok hj => ?_)
    · obtain ⟨y_l_top, y_l_call, y_l_mate, rfl, hB⟩ := hj
      have h_l_kit_here := dp_up s1 _ h_l_kit_here
      have h_l_table_here := dp_up s1 _ h_l_table_here
      have h_l_some := dp_up s1 _ h_l_some
      have h_l_sizes := dp_up s1 _ h_l_sizes
      have h_l_by := dp_up s1 _ h_l_by
      have sg := sg.trans s1
      have sl20 := Same.refl G
      refine gt2 hv ok.g (fun w21 w22 hw23 hw24 => ?_)
      refine gn ?_
      have h_l_call := hw23
      refine gn ?_
      have h_l_mate := hw24
      refine nrm (σ' := [some v_l_kit_here, some v_l_table_here, some v_l_some, some v_l_sizes, some v_l_by, some w21, some w22, y_l_top, none]) rfl ?_
      obtain ⟨t25, e_t25, hm⟩ := bs hm
      obtain ⟨t26, e_t26, hm⟩ := bs hm
      obtain ⟨t27, e_t27, hm⟩ := bs hm
      obtain ⟨t28, e_t28, hm⟩ := bs hm
      obtain ⟨t29, e_t29, hm⟩ := bs hm
      obtain ⟨t30, e_t30, hm⟩ := bs hm
      obtain ⟨t31, e_t31, hm⟩ := bs hm
      obtain ⟨t32, e_t32, hm⟩ := bs hm
      refine q_set (σ' := fun v => [some v_l_kit_here, some v_l_table_here, some v_l_some, some v_l_sizes, some v_l_by, some w21, some w22, some v, none]) (ev_add (ev_mulO e_t28 (ev_mulO e_t26 (ev_dgetS (e := Dat.int) e_t25 (ev_d (K := K) rfl h_l_by) (ev_d (K := K) rfl h_l_call)) (ev_dget2P (e := Dat.int) (xs := a.2.1) (k := (x16.2, x16.1)) (z := (0 : Int)) (ev_d (K := K) rfl h_l_table_here) (ev_rtup (ea_consD (ev_d (K := K) rfl h_l_mate) (ea_consD (ev_d (K := K) rfl h_l_call) (ea_nilD (K := K))))) (ev_int (K := K)))) (ev_dgetS (e := Dat.int) e_t27 (ev_d (K := K) rfl h_l_sizes) (ev_d (K := K) rfl h_l_mate))) (ev_mulO e_t32 (ev_mulO e_t30 (ev_dgetS (e := Dat.int) e_t29 (ev_d (K := K) rfl h_l_by) (ev_d (K := K) rfl h_l_mate)) (ev_dget2P (e := Dat.int) (xs := a.2.1) (k := (x16.1, x16.2)) (z := (0 : Int)) (ev_d (K := K) rfl h_l_table_here) (ev_rtup (ea_consD (ev_d (K := K) rfl h_l_call) (ea_consD (ev_d (K := K) rfl h_l_mate) (ea_nilD (K := K))))) (ev_int (K := K)))) (ev_dgetS (e := Dat.int) e_t31 (ev_d (K := K) rfl h_l_sizes) (ev_d (K := K) rfl h_l_call)))) ok (fun _ => rfl) (fun v_l_top G H s1 ok h_l_top => ?_)
      have h_l_kit_here := dp_up s1 _ h_l_kit_here
      have h_l_table_here := dp_up s1 _ h_l_table_here
      have h_l_some := dp_up s1 _ h_l_some
      have h_l_sizes := dp_up s1 _ h_l_sizes
      have h_l_by := dp_up s1 _ h_l_by
      have h_l_call := dp_up s1 _ h_l_call
      have h_l_mate := dp_up s1 _ h_l_mate
      have sg := sg.trans s1
      have sl20 := sl20.trans s1
      cases h_l_top
      obtain ⟨t33, e_t33, hm⟩ := bs hm
      obtain ⟨t34, e_t34, hm⟩ := bs hm
      obtain ⟨t35, e_t35, hm⟩ := bs hm
      obtain ⟨t36, e_t36, hm⟩ := bs hm
      refine q_if (et_test (ev_neI (ev_modO e_t36 (ev_d (K := K) rfl (.int _)) (ev_mulO e_t35 (ev_dgetS (e := Dat.int) e_t33 (ev_d (K := K) rfl h_l_sizes) (ev_d (K := K) rfl h_l_call)) (ev_dgetS (e := Dat.int) e_t34 (ev_d (K := K) rfl h_l_sizes) (ev_d (K := K) rfl h_l_mate)))) (ev_int (K := K)))) ok (fun hb G H s1 ok => ?_) (fun hb G H s1 ok => ?_)
      · have hm := cond_t hb hm
        have h_l_kit_here := dp_up s1 _ h_l_kit_here
        have h_l_table_here := dp_up s1 _ h_l_table_here
        have h_l_some := dp_up s1 _ h_l_some
        have h_l_sizes := dp_up s1 _ h_l_sizes
        have h_l_by := dp_up s1 _ h_l_by
        have h_l_call := dp_up s1 _ h_l_call
        have h_l_mate := dp_up s1 _ h_l_mate
        have sg := sg.trans s1
        have sl20 := sl20.trans s1
        refine q_ret (ev_bl (K := K)) ok (fun v G H s1 ok hv => ?_)
        have sg := sg.trans s1
        cases hm
        have hf0 := hret18 _ rfl
        rw [hf0] at hmo17
        have hmx0 := hmo17
        cases hmx0
        exact q v G H sg (ok.less hB) hv
      · have hm := cond_f hb hm
        have h_l_kit_here := dp_up s1 _ h_l_kit_here
        have h_l_table_here := dp_up s1 _ h_l_table_here
        have h_l_some := dp_up s1 _ h_l_some
        have h_l_sizes := dp_up s1 _ h_l_sizes
        have h_l_by := dp_up s1 _ h_l_by
        have h_l_call := dp_up s1 _ h_l_call
        have h_l_mate := dp_up s1 _ h_l_mate
        have sg := sg.trans s1
        have sl20 := sl20.trans s1
        refine q_nilU ?_
        refine q_nil ?_
        cases hm
        exact hN _ _ _ _ _ rfl sl20 ok ⟨_, _, _, rfl, hB⟩
    · obtain ⟨y_l_top, y_l_call, y_l_mate, rfl, hB⟩ := hj
      have h_l_kit_here := dp_up s1 _ h_l_kit_here
      have h_l_table_here := dp_up s1 _ h_l_table_here
      have h_l_some := dp_up s1 _ h_l_some
      have h_l_sizes := dp_up s1 _ h_l_sizes
      have h_l_by := dp_up s1 _ h_l_by
      have sg := sg.trans s1
      rw [hfin] at hm
      have hm := orR_l hm
      refine q_ret (ev_bl (K := K)) ok (fun v G H s1 ok hv => ?_)
      have sg := sg.trans s1
      cases hm
      exact q v G H sg (ok.less hB) hv
/-! ### _law_plain -/
theorem sc__law_plain : FnScope ["_law_store", "_law_kit_here", "_law_table_here", "_law_found", "_law_call", "_law_size", "_law_much", "_law_mate", "_law_rests"] ["_law_store", "_law_kit_here", "_law_table_here"] (defScope s__law_plain) := ⟨rfl, rfl, rfl, by decide +kernel, rfl, by decide +kernel, by decide +kernel⟩
def a__law_plain (K : PySem.W.Frag) (a : ((List (Str × Int)) × (List (Str × Str × Int))) × (List ((Str × Str) × Int))) : List V → Hp → Prop := conP (DD K ((eP2 (eT (eP2 Dat.str Dat.int)) (eT (eP3 Dat.str Dat.str Dat.int))) a.1)) (conP (DD K ((eDP Dat.int) a.2)) (nilP))
def m__law_plain (a : ((List (Str × Int)) × (List (Str × Str × Int))) × (List ((Str × Str) × Int))) (z : Sto) : Option ((List Int) × Sto) :=
  (forO (fun (st2 : (List Int) × Sto) (x3 : (Str × Int)) => (forO (fun (st13 : Int) (x14 : (Str × Int)) => (m__law_shared (st13, (getD' a.2 (x14.1, x3.1) (0 : Int)))).bind fun t23 => some t23) a.1.1 x3.2).bind fun fin12 => (fdivO x3.2 fin12).bind fun t24 => (m__law_pull fin12 st2.2).bind fun t25 => (mulO t24 t25.1).bind fun t26 => (appO st2.1 t26).bind fun t27 => some (t27, t25.2)) a.1.1 (([] : (List Int)), z)).bind fun fin1 => some (fin1.1, fin1.2)
abbrev sp__law_plain [Tb] (K : PySem.W.Frag) : Sp := spD (a__law_plain K) (m__law_plain) fun r => DD K ((eT Dat.int) r)
theorem ok__law_plain [Tb] {P : Program} {w : World} {K : PySem.W.Frag} {mg : Str → Option Value} {base : Heap} (T : Txt K mg) (O__law_shared : FnOk P w K mg base CX0 1 T.a__law_shared T.d__law_shared ["_law_first", "_law_second"] (sp__law_shared K)) (O__law_pull : FnOk P w K mg base CX0 1 T.a__law_pull T.d__law_pull ["_law_store", "_law_many"] (sp__law_pull K)) : FnOk P w K mg base CX0 (2) T.a__law_plain T.d__law_plain ["_law_store", "_law_kit_here", "_law_table_here"] (sp__law_plain K) := by
  refine T.F__law_plain.ok sc__law_plain (fun vs H Q E h => ?_) (fun cdv A outer s0 H vs Q E hr h => ?_)
  · obtain ⟨G, M0, s, z, z1, a, r, ws, rfl, ok, hs, ⟨v_l_kit_here, _, rfl, h_l_kit_here, v_l_table_here, _, rfl, h_l_table_here, rfl⟩, hm, q⟩ := h
    rfl
  · obtain ⟨G, M0, s, z, z1, a, r, ws, rfl, ok, hs, ⟨v_l_kit_here, _, rfl, h_l_kit_here, v_l_table_here, _, rfl, h_l_table_here, rfl⟩, hm, q⟩ := h
    unfold m__law_plain at hm
    have sg := Same.refl G
    have hB : ∀ a u, a ≠ s → M0 a = some u → M0 a = some u := fun _ _ _ h => h
    refine ⟨_, (pss_cons (ps_set (i := 3) sc__law_plain.nd rfl (.inl rfl) (pe_lst pa_nil)) (pss_cons (ps_for PassesOwn.never rfl (pi_tupK (K := K) (pe_ix (ix_tupK (K := K)) (pv 1) pe_int (fun _ _ => rfl))) (pg_tup rfl (pgs_cons (pg_name (i := 4) sc__law_plain.nd rfl (.inl rfl)) (pgs_cons (pg_name (i := 5) sc__law_plain.nd rfl (.inl rfl)) pgs_nil))) (pss_cons (ps_set (i := 6) sc__law_plain.nd rfl (.inl rfl) (pv 5)) (pss_cons (ps_for PassesOwn.never rfl (pi_tupK (K := K) (pe_ix (ix_tupK (K := K)) (pv 1) pe_int (fun _ _ => rfl))) (pg_tup rfl (pgs_cons (pg_name (i := 7) sc__law_plain.nd rfl (.inl rfl)) (pgs_cons (pg_name (i := 8) sc__law_plain.nd rfl (.inl rfl)) pgs_nil))) (pss_cons (ps_set (i := 6) sc__law_plain.nd rfl (.inl rfl) (pe_call O__law_shared (hr.mono (by decide)) (by rfl) T.g__law_shared T.F__law_shared.kp T.b__law_shared .nil pass0 (pa_cons (pv 6) (pa_cons (pe_dget2 (hu_of hr) (pv 2) (pe_tup (pa_cons (pv 7) (pa_cons (pv 4) pa_nil))) pe_int ⟨rfl, rfl, rfl, rfl⟩) pa_nil)))) pss_nil)) (pss_cons (ps_expr (pe_bm PySem.F.plainAttrs_list PySem.F.slot_list_append PySem.F.type_list_append mt_append (pv 3) (pa_cons (pe_op op_mulO (pe_op op_fdivO (pv 5) (pv 6)) (pe_call O__law_pull (hr.mono (by decide)) (by rfl) T.g__law_pull T.F__law_pull.kp T.b__law_pull .nil pass0 (pa_cons (pv 0) (pa_cons (pv 6) pa_nil)))) pa_nil))) pss_nil)))) (pss_cons (ps_ret (pe_callTy (cl_tupleK (K := K)) (by rfl) T.n_tuple (by decide +kernel) (pa_cons (pv 3) pa_nil))) pss_nil))), ?_⟩
    refine nrm (σ' := [some (.ref s), some v_l_kit_here, some v_l_table_here, none, none, none, none, none, none]) rfl ?_
    refine q_setL (σ' := fun v => [some (.ref s), some v_l_kit_here, some v_l_table_here, some v, none, none, none, none, none]) (el_lst (ea_nilD (K := K))) ok (fun _ => rfl) (fun p_l_found vs_l_found G H s1 ok hn hd_l_found => ?_)
    have h_l_kit_here := dp_up s1 _ h_l_kit_here
    have h_l_table_here := dp_up s1 _ h_l_table_here
    have sg := sg.trans s1
    have n_l_store_l_found : s ≠ p_l_found := ne_of_none hs hn
    have n_l_found_l_store := n_l_store_l_found.symm
    have h0_l_found : M0 p_l_found = none := hB_none (M := M0) hB hs hn
    have hd_l_found : DqAll K G vs_l_found (([] : (List Int)).map Dat.int) := hd_l_found
    have ok : Ok _ (upd M0 p_l_found (.lst vs_l_found)) _ := ok
    have hs : (upd M0 p_l_found (.lst vs_l_found)) s = some (sto z) := (up_ne n_l_store_l_found hs)
    have hB : ∀ a u, a ≠ s → M0 a = some u → (upd M0 p_l_found (.lst vs_l_found)) a = some u := (hB_own hB h0_l_found)
    have hp_l_found : (upd M0 p_l_found (.lst vs_l_found)) p_l_found = some (.lst vs_l_found) := upd_same
    obtain ⟨M, eM⟩ : ∃ m, m = (upd M0 p_l_found (.lst vs_l_found)) := ⟨_, rfl⟩
    rw [← eM] at ok hs hB hp_l_found
    clear eM
    obtain ⟨fin1, e_fin1, hm⟩ := bs hm
    have hmo4 := hm
    refine q_forO (ea := (eP2 Dat.str Dat.int)) (src_tup (ev_ixT (d := (eT (eP2 Dat.str Dat.int)) a.1.1) rfl (ev_d (K := K) rfl h_l_kit_here) ev_int)) ok (fun (st2 : (List Int) × Sto) σ1 G1 M1 => ∃ (y_l_much : Option V) (y_l_mate : Option V) (y_l_rests : Option V) (y_l_call : Option V) (y_l_size : Option V) (vs_l_found : List V), σ1 = [some (.ref s), some v_l_kit_here, some v_l_table_here, some (.ref p_l_found), y_l_call, y_l_size, y_l_much, y_l_mate, y_l_rests] ∧ (DqAll K G1 vs_l_found (st2.1.map Dat.int)) ∧ (M1 p_l_found = some (.lst vs_l_found)) ∧ (M1 s = some (sto st2.2)) ∧ (∀ a u, a ≠ s → M0 a = some u → M1 a = some u)) e_fin1 (fun G1 s1 => ⟨_, _, _, _, _, _, rfl, dpAll_up s1 _ hd_l_found, hp_l_found, hs, hB⟩) (by rintro _ _ _ _ _ ⟨y_l_much, y_l_mate, y_l_rests, y_l_call, y_l_size, vs_l_found, rfl, hd_l_found, hp_l_found, hs, hB⟩ s2; exact ⟨_, _, _, _, _, _, rfl, dpAll_up s2 _ hd_l_found, hp_l_found, hs, hB⟩) (fun x3 xv6 st2 st' σ1 G M H N hm hj s1 ok hv hN => ?_) (fun σ1 G M H s1 ok hj => ?_)
    · obtain ⟨y_l_much, y_l_mate, y_l_rests, y_l_call, y_l_size, vs_l_found, rfl, hd_l_found, hp_l_found, hs, hB⟩ := hj
      have h_l_kit_here := dp_up s1 _ h_l_kit_here
      have h_l_table_here := dp_up s1 _ h_l_table_here
      have sg := sg.trans s1
      have sl7 := Same.refl G
      refine gt2 hv ok.g (fun w8 w9 hw10 hw11 => ?_)
      refine gn ?_
      have h_l_call := hw10
      refine gn ?_
      have h_l_size := hw11
      cases h_l_size
      refine nrm (σ' := [some (.ref s), some v_l_kit_here, some v_l_table_here, some (.ref p_l_found), some w8, some (.int x3.2), y_l_much, y_l_mate, y_l_rests]) rfl ?_
      refine q_set (σ' := fun v => [some (.ref s), some v_l_kit_here, some v_l_table_here, some (.ref p_l_found), some w8, some (.int x3.2), some v, y_l_mate, y_l_rests]) (ev_d (K := K) rfl (.int _)) ok (fun _ => rfl) (fun v_l_much G H s1 ok h_l_much => ?_)
      have h_l_kit_here := dp_up s1 _ h_l_kit_here
      have h_l_table_here := dp_up s1 _ h_l_table_here
      have hd_l_found := dpAll_up s1 _ hd_l_found
      have h_l_call := dp_up s1 _ h_l_call
      have sg := sg.trans s1
      have sl7 := sl7.trans s1
      cases h_l_much
      obtain ⟨fin12, e_fin12, hm⟩ := bs hm
      have hmo15 := hm
      refine q_forO (ea := (eP2 Dat.str Dat.int)) (src_tup (ev_ixT (d := (eT (eP2 Dat.str Dat.int)) a.1.1) rfl (ev_d (K := K) rfl h_l_kit_here) ev_int)) ok (fun (st13 : Int) σ1 G1 M1 => ∃ (y_l_mate : Option V) (y_l_rests : Option V), σ1 = [some (.ref s), some v_l_kit_here, some v_l_table_here, some (.ref p_l_found), some w8, some (.int x3.2), some (.int st13), y_l_mate, y_l_rests] ∧ (M1 p_l_found = some (.lst vs_l_found)) ∧ (M1 s = some (sto st2.2)) ∧ (∀ a u, a ≠ s → M0 a = some u → M1 a = some u)) e_fin12 (fun G1 s1 => ⟨_, _, rfl, hp_l_found, hs, hB⟩) (by rintro _ _ _ _ _ ⟨y_l_mate, y_l_rests, rfl, hp_l_found, hs, hB⟩ s2; exact ⟨_, _, rfl, hp_l_found, hs, hB⟩) (fun x14 xv17 st13 st' σ1 G M H N hm hj s1 ok hv hN => ?_) (fun σ1 G M H s1 ok hj => ?_)
      · obtain ⟨y_l_mate, y_l_rests, rfl, hp_l_found, hs, hB⟩ := hj
        have h_l_kit_here := dp_up s1 _ h_l_kit_here
        have h_l_table_here := dp_up s1 _ h_l_table_here
        have hd_l_found := dpAll_up s1 _ hd_l_found
        have h_l_call := dp_up s1 _ h_l_call
        have sg := sg.trans s1
        have sl7 := sl7.trans s1
        have sl18 := Same.refl G
        refine gt2 hv ok.g (fun w19 w20 hw21 hw22 => ?_)
        refine gn ?_
        have h_l_mate := hw21
        refine gn ?_
        have h_l_rests := hw22
        cases h_l_rests
        refine nrm (σ' := [some (.ref s), some v_l_kit_here, some v_l_table_here, some (.ref p_l_found), some w8, some (.int x3.2), some (.int st13), some w19, some (.int x14.2)]) rfl ?_
        obtain ⟨t23, e_t23, hm⟩ := bs hm
        refine q_set (σ' := fun v => [some (.ref s), some v_l_kit_here, some v_l_table_here, some (.ref p_l_found), some w8, some (.int x3.2), some v, some w19, some (.int x14.2)]) (ev_callP (res := fun r => DD K (Dat.int r)) (a := (st13, (getD' a.2 (x14.1, x3.1) (0 : Int)))) e_t23 (ea_d (ev_d (K := K) rfl (.int _)) (ea_d (ev_dget2P (e := Dat.int) (xs := a.2) (k := (x14.1, x3.1)) (z := (0 : Int)) (ev_d (K := K) rfl h_l_table_here) (ev_rtup (ea_consD (ev_d (K := K) rfl h_l_mate) (ea_consD (ev_d (K := K) rfl h_l_call) (ea_nilD (K := K))))) (ev_int (K := K))) ea_nil))) ok (fun _ => rfl) (fun v_l_much G H s1 ok h_l_much => ?_)
        have h_l_kit_here := dp_up s1 _ h_l_kit_here
        have h_l_table_here := dp_up s1 _ h_l_table_here
        have hd_l_found := dpAll_up s1 _ hd_l_found
        have h_l_call := dp_up s1 _ h_l_call
        have h_l_mate := dp_up s1 _ h_l_mate
        have sg := sg.trans s1
        have sl18 := sl18.trans s1
        have sl7 := sl7.trans s1
        cases h_l_much
        refine q_nil ?_
        cases hm
        exact hN _ _ _ _ sl18 ok ⟨_, _, rfl, hp_l_found, hs, hB⟩
      · obtain ⟨y_l_mate, y_l_rests, rfl, hp_l_found, hs, hB⟩ := hj
        have h_l_kit_here := dp_up s1 _ h_l_kit_here
        have h_l_table_here := dp_up s1 _ h_l_table_here
        have hd_l_found := dpAll_up s1 _ hd_l_found
        have h_l_call := dp_up s1 _ h_l_call
        have sg := sg.trans s1
        have sl7 := sl7.trans s1
        obtain ⟨t24, e_t24, hm⟩ := bs hm
        obtain ⟨t25, e_t25, hm⟩ := bs hm
        obtain ⟨t26, e_t26, hm⟩ := bs hm
        obtain ⟨t27, e_t27, hm⟩ := bs hm
        obtain ⟨hl_t27, ea_t27⟩ := appO_of e_t27
        refine q_append (ev_own rfl) (ea_d (ev_mulO e_t26 (ev_fdivO e_t24 (ev_d (K := K) rfl (.int _)) (ev_d (K := K) rfl (.int _))) (ev_callD (a := fin12) (r := t25.1) (z' := t25.2) hs e_t25 (ea_cons mo_ow (ev_own rfl) (ea_d (ev_d (K := K) rfl (.int _)) ea_nil)))) ea_nil) hp_l_found (up_ne n_l_found_l_store hp_l_found) (by rw [dpAll_len hd_l_found, List.length_map]; exact szlt hl_t27) ok (fun v G H s1 ok hv => ?_)
        have h_l_kit_here := dp_up s1 _ h_l_kit_here
        have h_l_table_here := dp_up s1 _ h_l_table_here
        have hd_l_found := dpAll_up s1 _ hd_l_found
        have h_l_call := dp_up s1 _ h_l_call
        have sg := sg.trans s1
        have sl7 := sl7.trans s1
        have hd_l_found : DqAll K G (vs_l_found ++ [v]) (t27.map Dat.int) := by rw [ea_t27, List.map_append]; exact dpAll_app hd_l_found (.cons hv .nil)
        have ok : Ok _ (upd (upd M s (sto t25.2)) p_l_found (.lst (vs_l_found ++ [v]))) _ := ok
        have hs : (upd (upd M s (sto t25.2)) p_l_found (.lst (vs_l_found ++ [v]))) s = some (sto t25.2) := (up_ne n_l_store_l_found upd_same)
        have hB : ∀ a u, a ≠ s → M0 a = some u → (upd (upd M s (sto t25.2)) p_l_found (.lst (vs_l_found ++ [v]))) a = some u := (hB_own (hB_draw hB) h0_l_found)
        have hp_l_found : (upd (upd M s (sto t25.2)) p_l_found (.lst (vs_l_found ++ [v]))) p_l_found = some (.lst (vs_l_found ++ [v])) := upd_same
        obtain ⟨M, eM⟩ : ∃ m, m = (upd (upd M s (sto t25.2)) p_l_found (.lst (vs_l_found ++ [v]))) := ⟨_, rfl⟩
        rw [← eM] at ok hs hB hp_l_found
        clear eM
        obtain ⟨vs_l_found, e_vs⟩ : ∃ m, m = (vs_l_found ++ [v]) := ⟨_, rfl⟩
        rw [← e_vs] at hp_l_found hd_l_found
        clear e_vs
        refine q_nil ?_
        cases hm
        exact hN _ _ _ _ sl7 ok ⟨_, _, _, _, _, _, rfl, hd_l_found, hp_l_found, hs, hB⟩
    · obtain ⟨y_l_much, y_l_mate, y_l_rests, y_l_call, y_l_size, vs_l_found, rfl, hd_l_found, hp_l_found, hs, hB⟩ := hj
      have h_l_kit_here := dp_up s1 _ h_l_kit_here
      have h_l_table_here := dp_up s1 _ h_l_table_here
      have sg := sg.trans s1
      refine q_ret (ev_tupO hp_l_found hd_l_found (ea_cons mo_ow (ev_own rfl) ea_nil)) ok (fun v G H s1 ok hv => ?_)
      have sg := sg.trans s1
      cases hm
      exact q v G H sg (ok.less (same_fin hB hs)) hv
/-! ### _law_whole -/
theorem sc__law_whole : FnScope ["_law_part"] ["_law_part"] (defScope s__law_whole) := ⟨rfl, rfl, rfl, by decide +kernel, rfl, by decide +kernel, by decide +kernel⟩
def a__law_whole (K : PySem.W.Frag) (a : Dat) : List V → Hp → Prop := conP (DD K (id a)) (nilP)
def m__law_whole (a : Dat) : Option Bool :=
  (isO1 "Peal" isI a).bind fun t1 => (cond t1 ((isO1 "Peal" isB a).bind fun t2 => some (!t2)) (some false)).bind fun t3 => some t3
abbrev sp__law_whole [Tb] (K : PySem.W.Frag) : Sp := spP (a__law_whole K) (m__law_whole) fun r => DD K (Dat.bool r)
theorem ok__law_whole [Tb] {P : Program} {w : World} {K : PySem.W.Frag} {mg : Str → Option Value} {base : Heap} (T : Txt K mg) : FnOk P w K mg base CX0 (1) T.a__law_whole T.d__law_whole ["_law_part"] (sp__law_whole K) := by
  refine T.F__law_whole.ok sc__law_whole (fun vs H Q E h => ?_) (fun cdv A outer s0 H vs Q E hr h => ?_)
  · obtain ⟨G, M0, a, r, ok, ⟨v_l_part, _, rfl, h_l_part, rfl⟩, hm, q⟩ := h
    rfl
  · obtain ⟨G, M0, a, r, ok, ⟨v_l_part, _, rfl, h_l_part, rfl⟩, hm, q⟩ := h
    unfold m__law_whole at hm
    have sg := Same.refl G
    have hB := Same.refl M0
    refine ⟨_, (pss_cons (ps_ret (pe_and (pe_callB (call_isiKK (K := K)) (by rfl) T.n_isinstance (by decide +kernel) (pa_cons (pv 0) (pa_cons (pe_bltn (v := .ty "int") (by rfl) T.n_int (by decide +kernel) rfl) pa_nil))) (pe_one (pe_not (pe_callB (call_isiKK (K := K)) (by rfl) T.n_isinstance (by decide +kernel) (pa_cons (pv 0) (pa_cons (pe_bltn (v := .ty "bool") (by rfl) T.n_bool (by decide +kernel) rfl) pa_nil))))))) pss_nil), ?_⟩
    refine nrm (σ' := [some v_l_part]) rfl ?_
    obtain ⟨t1, e_t1, hm⟩ := bs hm
    obtain ⟨t3, e_t3, hm⟩ := bs hm
    refine q_ret (ev_andG (c := t3) (ev_isiD1 isc_I isn_I T.co_Peal (kn_I T.cn_Peal) e_t1 (ea_d (ev_d (K := K) rfl h_l_part) (ea_cons mo_cls ev_cls ea_nil))) (fun eb => by have e1 := cond_t eb e_t3; (obtain ⟨t2, e_t2, e1⟩ := bs e1); (have e1 := Option.some.inj e1); subst e1; exact (ev_not (ev_isiD1 isc_B isn_B T.co_Peal (kn_B T.cn_Peal) e_t2 (ea_d (ev_d (K := K) rfl h_l_part) (ea_cons mo_cls ev_cls ea_nil))))) (fun eb => by have e1 := cond_f eb e_t3; cases e1; exact ⟨rfl, rfl⟩)) ok (fun v G H s1 ok hv => ?_)
    have sg := sg.trans s1
    cases hm
    exact q v G H sg (ok.less hB) hv
/-! ### _law_all -/
theorem sc__law_all : FnScope ["_law_kit_here", "_law_found", "_law_call", "_law_size", "_law_longer", "_law_some", "_law_figure_here"] ["_law_kit_here"] (defScope s__law_all) := ⟨rfl, rfl, rfl, by decide +kernel, rfl, by decide +kernel, by decide +kernel⟩
def a__law_all (K : PySem.W.Frag) (a : ((List (Str × Int)) × (List (Str × Str × Int)))) : List V → Hp → Prop := conP (DD K ((eP2 (eT (eP2 Dat.str Dat.int)) (eT (eP3 Dat.str Dat.str Dat.int))) a)) (nilP)
def m__law_all (a : ((List (Str × Int)) × (List (Str × Str × Int)))) : Option (List (List Int)) :=
  (forO (fun (st2 : (List (List Int))) (x3 : (Str × Int)) => (forO (fun (st13 : (List (List Int))) (x14 : (List Int)) => (rngO x3.2).bind fun t19 => (lcO (fun x20 : Int => (catO x14 ([x20] : (List Int))).bind fun t26 => some t26) t19).bind fun t27 => (catO st13 t27).bind fun t28 => some t28) st2 ([] : (List (List Int)))).bind fun fin12 => some fin12) a.1 ([([] : (List Int))] : (List (List Int)))).bind fun fin1 => some fin1
abbrev sp__law_all [Tb] (K : PySem.W.Frag) : Sp := spP (a__law_all K) (m__law_all) fun r => DD K ((eL (eT Dat.int)) r)
theorem ok__law_all [Tb] {P : Program} {w : World} {K : PySem.W.Frag} {mg : Str → Option Value} {base : Heap} (T : Txt K mg) : FnOk P w K mg base CX0 (1) T.a__law_all T.d__law_all ["_law_kit_here"] (sp__law_all K) := by
  refine T.F__law_all.ok sc__law_all (fun vs H Q E h => ?_) (fun cdv A outer s0 H vs Q E hr h => ?_)
  · obtain ⟨G, M0, a, r, ok, ⟨v_l_kit_here, _, rfl, h_l_kit_here, rfl⟩, hm, q⟩ := h
    rfl
  · obtain ⟨G, M0, a, r, ok, ⟨v_l_kit_here, _, rfl, h_l_kit_here, rfl⟩, hm, q⟩ := h
    unfold m__law_all at hm
    have sg := Same.refl G
    have hB := Same.refl M0
    refine ⟨_, (pss_cons (ps_set (i := 1) sc__law_all.nd rfl (.inl rfl) (pe_lst (pa_cons (pe_tupF pa_nil) pa_nil))) (pss_cons (ps_for PassesOwn.never rfl (pi_tupK (K := K) (pe_ix (ix_tupK (K := K)) (pv 0) pe_int (fun _ _ => rfl))) (pg_tup rfl (pgs_cons (pg_name (i := 2) sc__law_all.nd rfl (.inl rfl)) (pgs_cons (pg_name (i := 3) sc__law_all.nd rfl (.inl rfl)) pgs_nil))) (pss_cons (ps_set (i := 4) sc__law_all.nd rfl (.inl rfl) (pe_lst pa_nil)) (pss_cons (ps_for PassesOwn.never rfl (pi_listK (K := K) (pv 1)) (pg_name (i := 5) sc__law_all.nd rfl (.inr rfl)) (pss_cons (ps_expr (pe_bm PySem.F.plainAttrs_list PySem.F.slot_list_extend PySem.F.type_list_extend mt_extend (pv 4) (pa_cons (pe_lc (own := [("_law_figure_here", 6)]) (g := (gName 6)) (tt := tYes) rfl sc__law_all.nd (pi_range1 (by rfl) T.n_range (pa_cons (pv 3) pa_nil)) (blkOk_by (own := [("_law_figure_here", 6)]) (N := ["_law_kit_here", "_law_found", "_law_call", "_law_size", "_law_longer", "_law_some", "_law_figure_here"]) (sc := defScope s__law_all) (by decide +kernel)) (fun _ _ _ _ _ => (pg_name (i := 6) sc__law_all.nd rfl (by first | exact .inl rfl | exact .inr rfl))) (fun _ _ _ _ _ => pts_nil) (fun _ _ _ _ _ => (pe_op (op_catAK (K := K)) (pv 5) (pe_tupF (pa_cons (pv 6) pa_nil))))) pa_nil))) pss_nil)) (pss_cons (ps_set (i := 1) sc__law_all.nd rfl (.inl rfl) (pv 4)) pss_nil)))) (pss_cons (ps_ret (pv 1)) pss_nil))), ?_⟩
    refine nrm (σ' := [some v_l_kit_here, none, none, none, none, none, none]) rfl ?_
    refine q_set (σ' := fun v => [some v_l_kit_here, some v, none, none, none, none, none]) (EvL.ev (el_lst (ea_consD (ev_tup (ea_nilD (K := K))) (ea_nilD (K := K))))) ok (fun _ => rfl) (fun v_l_found G H s1 ok h_l_found => ?_)
    have h_l_kit_here := dp_up s1 _ h_l_kit_here
    have sg := sg.trans s1
    obtain ⟨fin1, e_fin1, hm⟩ := bs hm
    have hmo4 := hm
    refine q_forO (ea := (eP2 Dat.str Dat.int)) (src_tup (ev_ixT (d := (eT (eP2 Dat.str Dat.int)) a.1) rfl (ev_d (K := K) rfl h_l_kit_here) ev_int)) ok (fun (st2 : (List (List Int))) σ1 G1 M1 => ∃ (y_l_longer : Option V) (y_l_some : Option V) (y_l_call : Option V) (y_l_size : Option V) (v_l_found : V), σ1 = [some v_l_kit_here, some v_l_found, y_l_call, y_l_size, y_l_longer, y_l_some, none] ∧ (Dq K G1 v_l_found ((eL (eT Dat.int)) st2)) ∧ (Same M0 M1)) e_fin1 (fun G1 s1 => ⟨_, _, _, _, _, rfl, dp_up s1 _ h_l_found, hB⟩) (by rintro _ _ _ _ _ ⟨y_l_longer, y_l_some, y_l_call, y_l_size, v_l_found, rfl, h_l_found, hB⟩ s2; exact ⟨_, _, _, _, _, rfl, dp_up s2 _ h_l_found, hB⟩) (fun x3 xv6 st2 st' σ1 G M H N hm hj s1 ok hv hN => ?_) (fun σ1 G M H s1 ok hj => ?_)
    · obtain ⟨y_l_longer, y_l_some, y_l_call, y_l_size, v_l_found, rfl, h_l_found, hB⟩ := hj
      have h_l_kit_here := dp_up s1 _ h_l_kit_here
      have sg := sg.trans s1
      have sl7 := Same.refl G
      refine gt2 hv ok.g (fun w8 w9 hw10 hw11 => ?_)
      refine gn ?_
      have h_l_call := hw10
      refine gn ?_
      have h_l_size := hw11
      cases h_l_size
      refine nrm (σ' := [some v_l_kit_here, some v_l_found, some w8, some (.int x3.2), y_l_longer, y_l_some, none]) rfl ?_
      refine q_setL (σ' := fun v => [some v_l_kit_here, some v_l_found, some w8, some (.int x3.2), some v, y_l_some, none]) (el_lst (ea_nilD (K := K))) ok (fun _ => rfl) (fun p_l_longer vs_l_longer G H s1 ok hn hd_l_longer => ?_)
      have h_l_kit_here := dp_up s1 _ h_l_kit_here
      have h_l_found := dp_up s1 _ h_l_found
      have h_l_call := dp_up s1 _ h_l_call
      have sg := sg.trans s1
      have sl7 := sl7.trans s1
      have h0_l_longer : M0 p_l_longer = none := sB_none (M := M) hB hn
      have hd_l_longer : DqAll K G vs_l_longer (([] : (List (List Int))).map (eT Dat.int)) := hd_l_longer
      have ok : Ok _ (upd M p_l_longer (.lst vs_l_longer)) _ := ok
      have hB : Same M0 (upd M p_l_longer (.lst vs_l_longer)) := (sB_own hB h0_l_longer)
      have hp_l_longer : (upd M p_l_longer (.lst vs_l_longer)) p_l_longer = some (.lst vs_l_longer) := upd_same
      obtain ⟨M, eM⟩ : ∃ m, m = (upd M p_l_longer (.lst vs_l_longer)) := ⟨_, rfl⟩
      rw [← eM] at ok hB hp_l_longer
      clear eM
      obtain ⟨fin12, e_fin12, hm⟩ := bs hm
      have hmo15 := hm
      refine q_forO (ea := (eT Dat.int)) (src_list (ev_d (K := K) rfl h_l_found)) ok (fun (st13 : (List (List Int))) σ1 G1 M1 => ∃ (y_l_some : Option V) (vs_l_longer : List V), σ1 = [some v_l_kit_here, some v_l_found, some w8, some (.int x3.2), some (.ref p_l_longer), y_l_some, none] ∧ (DqAll K G1 vs_l_longer (st13.map (eT Dat.int))) ∧ (M1 p_l_longer = some (.lst vs_l_longer)) ∧ (Same M0 M1)) e_fin12 (fun G1 s1 => ⟨_, _, rfl, dpAll_up s1 _ hd_l_longer, hp_l_longer, hB⟩) (by rintro _ _ _ _ _ ⟨y_l_some, vs_l_longer, rfl, hd_l_longer, hp_l_longer, hB⟩ s2; exact ⟨_, _, rfl, dpAll_up s2 _ hd_l_longer, hp_l_longer, hB⟩) (fun x14 xv17 st13 st' σ1 G M H N hm hj s1 ok hv hN => ?_) (fun σ1 G M H s1 ok hj => ?_)
      · obtain ⟨y_l_some, vs_l_longer, rfl, hd_l_longer, hp_l_longer, hB⟩ := hj
        have h_l_kit_here := dp_up s1 _ h_l_kit_here
        have h_l_found := dp_up s1 _ h_l_found
        have h_l_call := dp_up s1 _ h_l_call
        have sg := sg.trans s1
        have sl7 := sl7.trans s1
        have sl18 := Same.refl G
        refine gn ?_
        have h_l_some := hv
        refine nrm (σ' := [some v_l_kit_here, some v_l_found, some w8, some (.int x3.2), some (.ref p_l_longer), some xv17, none]) rfl ?_
        obtain ⟨t19, e_t19, hm⟩ := bs hm
        obtain ⟨t27, e_t27, hm⟩ := bs hm
        obtain ⟨t28, e_t28, hm⟩ := bs hm
        obtain ⟨hl_t28, ea_t28⟩ := catO_of e_t28
        refine q_extend (ev_own rfl) (ea_d (EvL.ev (el_lcM (ea := Dat.int) (eb := (eT Dat.int)) (xs := t19) (ys := t27) (hf := e_t27) (src_rngO e_t19 (ea_d (ev_d (K := K) rfl (.int _)) ea_nil)) (fun x20 _ Mx24 _ _ he25 sM23 sG22 hv21 => by (obtain ⟨t26, e_t26, he25⟩ := bs he25); (have he25 := Option.some.inj he25); subst he25; exact (tg_name ⟨rfl, (ev_catTO (e := Dat.int) e_t26 (ev_d (K := K) rfl (dp_up sG22 _ h_l_some)) (ev_tup (ea_consD (ev_d (K := K) rfl hv21) (ea_nilD (K := K)))))⟩)))) ea_nil) hp_l_longer hp_l_longer (by rw [dpAll_len hd_l_longer, List.length_map, List.length_map]; exact szl hl_t28) ok (fun ws G H s1 ok hv => ?_)
        have h_l_kit_here := dp_up s1 _ h_l_kit_here
        have h_l_found := dp_up s1 _ h_l_found
        have h_l_call := dp_up s1 _ h_l_call
        have hd_l_longer := dpAll_up s1 _ hd_l_longer
        have h_l_some := dp_up s1 _ h_l_some
        have sg := sg.trans s1
        have sl18 := sl18.trans s1
        have sl7 := sl7.trans s1
        have hd_l_longer : DqAll K G (vs_l_longer ++ ws) (t28.map (eT Dat.int)) := by rw [ea_t28, List.map_append]; exact dpAll_app hd_l_longer hv
        have ok : Ok _ (upd M p_l_longer (.lst (vs_l_longer ++ ws))) _ := ok
        have hB : Same M0 (upd M p_l_longer (.lst (vs_l_longer ++ ws))) := (sB_own hB h0_l_longer)
        have hp_l_longer : (upd M p_l_longer (.lst (vs_l_longer ++ ws))) p_l_longer = some (.lst (vs_l_longer ++ ws)) := upd_same
        obtain ⟨M, eM⟩ : ∃ m, m = (upd M p_l_longer (.lst (vs_l_longer ++ ws))) := ⟨_, rfl⟩
        rw [← eM] at ok hB hp_l_longer
        clear eM
        obtain ⟨vs_l_longer, e_vs⟩ : ∃ m, m = (vs_l_longer ++ ws) := ⟨_, rfl⟩
        rw [← e_vs] at hp_l_longer hd_l_longer
        clear e_vs
        refine q_nil ?_
        cases hm
        exact hN _ _ _ _ sl18 ok ⟨_, _, rfl, hd_l_longer, hp_l_longer, hB⟩
      · obtain ⟨y_l_some, vs_l_longer, rfl, hd_l_longer, hp_l_longer, hB⟩ := hj
        have h_l_kit_here := dp_up s1 _ h_l_kit_here
        have h_l_found := dp_up s1 _ h_l_found
        have h_l_call := dp_up s1 _ h_l_call
        have sg := sg.trans s1
        have sl7 := sl7.trans s1
        refine k_del ok hp_l_longer (fun G M1 s1 hg hM ok => ?_)
        have h_l_kit_here := dp_up s1 _ h_l_kit_here
        have h_l_found := dp_up s1 _ h_l_found
        have h_l_call := dp_up s1 _ h_l_call
        have hd_l_longer := dpAll_up s1 _ hd_l_longer
        have sg := sg.trans s1
        have sl7 := sl7.trans s1
        have h_l_longer : Dq K G (.ref p_l_longer) ((eL (eT Dat.int)) fin12) := .lst hg hd_l_longer
        have hB := sB_del hM h0_l_longer hB
        refine q_set (σ' := fun v => [some v_l_kit_here, some v, some w8, some (.int x3.2), some (.ref p_l_longer), y_l_some, none]) (ev_d (K := K) rfl h_l_longer) ok (fun _ => rfl) (fun v_l_found G H s1 ok h_l_found => ?_)
        have h_l_kit_here := dp_up s1 _ h_l_kit_here
        have h_l_call := dp_up s1 _ h_l_call
        have h_l_longer := dp_up s1 _ h_l_longer
        have sg := sg.trans s1
        have sl7 := sl7.trans s1
        refine q_nil ?_
        cases hm
        exact hN _ _ _ _ sl7 ok ⟨_, _, _, _, _, rfl, h_l_found, hB⟩
    · obtain ⟨y_l_longer, y_l_some, y_l_call, y_l_size, v_l_found, rfl, h_l_found, hB⟩ := hj
      have h_l_kit_here := dp_up s1 _ h_l_kit_here
      have sg := sg.trans s1
      refine q_ret (ev_d (K := K) rfl h_l_found) ok (fun v G H s1 ok hv => ?_)
      have sg := sg.trans s1
      cases hm
      exact q v G H sg (ok.less hB) hv
/-! ### _law_due -/
theorem sc__law_due : FnScope ["_law_kit_here", "_law_table_here", "_law_some", "_law_k", "_law_part"] ["_law_kit_here", "_law_table_here", "_law_some"] (defScope s__law_due) := ⟨rfl, rfl, rfl, by decide +kernel, rfl, by decide +kernel, by decide +kernel⟩
def a__law_due (K : PySem.W.Frag) (a : ((List (Str × Int)) × (List (Str × Str × Int))) × (List ((Str × Str) × Int)) × Dat) : List V → Hp → Prop := conP (DD K ((eP2 (eT (eP2 Dat.str Dat.int)) (eT (eP3 Dat.str Dat.str Dat.int))) a.1)) (conP (DD K ((eDP Dat.int) a.2.1)) (conP (DD K (id a.2.2)) (nilP)))
def m__law_due (a : ((List (Str × Int)) × (List (Str × Str × Int))) × (List ((Str × Str) × Int)) × Dat) : Option Bool :=
  (isO1 "Peal" isT a.2.2).bind fun t1 => (cond (!t1) (some true) ((lenD a.2.2).bind fun t2 => (cond (!decide (t2 = (a.1.1.length : Int))) (some true) ((tupD a.2.2).bind fun t3 => (lcO (fun x4 : Dat => (m__law_whole x4).bind fun t10 => some t10) t3).bind fun t11 => some (!(t11.all id)))).bind fun t12 => some t12)).bind fun t13 => cond t13 (some false) ((lenD a.2.2).bind fun t14 => (rngO t14).bind fun t15 => (forR (R := Bool) (fun (st17 : Unit) (x18 : Int) => (atD a.2.2 x18).bind fun t23 => (atI a.1.1 x18).bind fun t24 => (intD t23).bind fun t25 => cond (!((decide ((0 : Int) ≤ t25)) && (decide (t25 < t24.2)))) (some (.inr false)) (some (.inl ()))) t15 ()).bind fun fin16 => orR fin16 (fun fin16s => (intsD a.2.2).bind fun t26 => (m__law_keeps (a.1, a.2.1, t26)).bind fun t27 => some t27) (fun r => some r))
abbrev sp__law_due [Tb] (K : PySem.W.Frag) : Sp := spP (a__law_due K) (m__law_due) fun r => DD K (Dat.bool r)
theorem ok__law_due [Tb] {P : Program} {w : World} {K : PySem.W.Frag} {mg : Str → Option Value} {base : Heap} (T : Txt K mg) (O__law_whole : FnOk P w K mg base CX0 1 T.a__law_whole T.d__law_whole ["_law_part"] (sp__law_whole K)) (O__law_keeps : FnOk P w K mg base CX0 2 T.a__law_keeps T.d__law_keeps ["_law_kit_here", "_law_table_here", "_law_some"] (sp__law_keeps K)) : FnOk P w K mg base CX0 (3) T.a__law_due T.d__law_due ["_law_kit_here", "_law_table_here", "_law_some"] (sp__law_due K) := by
  refine T.F__law_due.ok sc__law_due (fun vs H Q E h => ?_) (fun cdv A outer s0 H vs Q E hr h => ?_)
  · obtain ⟨G, M0, a, r, ok, ⟨v_l_kit_here, _, rfl, h_l_kit_here, v_l_table_here, _, rfl, h_l_table_here, v_l_some, _, rfl, h_l_some, rfl⟩, hm, q⟩ := h
    rfl
  · obtain ⟨G, M0, a, r, ok, ⟨v_l_kit_here, _, rfl, h_l_kit_here, v_l_table_here, _, rfl, h_l_table_here, v_l_some, _, rfl, h_l_some, rfl⟩, hm, q⟩ := h
    unfold m__law_due at hm
    have sg := Same.refl G
    have hB := Same.refl M0
    refine ⟨_, (pss_cons (ps_if (PW.pt (pw_or (pt_not (pt_val (pe_callB (call_isiKK (K := K)) (by rfl) T.n_isinstance (by decide +kernel) (pa_cons (pv 2) (pa_cons (pe_bltn (v := .ty "tuple") (by rfl) T.n_tuple (by decide +kernel) rfl) pa_nil))))) (pw_or (pt_cmpR op_ne (pe_callB (cl_lenK (K := K)) (by rfl) T.n_len (by decide +kernel) (pa_cons (pv 2) pa_nil)) (pe_callB (cl_lenK (K := K)) (by rfl) T.n_len (by decide +kernel) (pa_cons (pe_ix (ix_tupK (K := K)) (pv 0) pe_int (fun _ _ => rfl)) pa_nil)) (nomark _)) (pw_or1 (pt_not (pt_val (pe_callB (cr_allK (K := K) rfl) (by rfl) T.n_all (by decide +kernel) (pa_cons (pe_lc (own := [("_law_part", 4)]) (g := (gName 4)) (tt := tYes) rfl sc__law_due.nd (pi_tupK (K := K) (pv 2)) (blkOk_by (own := [("_law_part", 4)]) (N := ["_law_kit_here", "_law_table_here", "_law_some", "_law_k", "_law_part"]) (sc := defScope s__law_due) (by decide +kernel)) (fun _ _ _ _ _ => (pg_name (i := 4) sc__law_due.nd rfl (by first | exact .inl rfl | exact .inr rfl))) (fun _ _ _ _ _ => pts_nil) (fun _ _ _ _ _ => (pe_call O__law_whole (hr.mono (by decide)) (by rfl) T.g__law_whole T.F__law_whole.kp T.b__law_whole .nil pass0 (pa_cons (pv 4) pa_nil)))) pa_nil)))))))) (pss_cons (ps_ret pe_bl) pss_nil) pss_nil) (pss_cons (ps_for PassesOwn.never rfl (pi_range1 (by rfl) T.n_range (pa_cons (pe_callB (cl_lenK (K := K)) (by rfl) T.n_len (by decide +kernel) (pa_cons (pv 2) pa_nil)) pa_nil)) (pg_name (i := 3) sc__law_due.nd rfl (.inl rfl)) (pss_cons (ps_if (pt_not (pt_chain op_le op_lt pe_int (pe_ix (ix_seqK (K := K)) (pv 2) (pv 3) (fun _ _ => rfl)) (pe_ix (ix_tupK (K := K)) (pe_ix (ix_tupK (K := K)) (pe_ix (ix_tupK (K := K)) (pv 0) pe_int (fun _ _ => rfl)) (pv 3) (fun _ _ => rfl)) pe_int (fun _ _ => rfl)))) (pss_cons (ps_ret pe_bl) pss_nil) pss_nil) pss_nil)) (pss_cons (ps_ret (pe_call O__law_keeps (hr.mono (by decide)) (by rfl) T.g__law_keeps T.F__law_keeps.kp T.b__law_keeps .nil pass0 (pa_cons (pv 0) (pa_cons (pv 1) (pa_cons (pv 2) pa_nil))))) pss_nil))), ?_⟩
    refine nrm (σ' := [some v_l_kit_here, some v_l_table_here, some v_l_some, none, none]) rfl ?_
    obtain ⟨t1, e_t1, hm⟩ := bs hm
    obtain ⟨t13, e_t13, hm⟩ := bs hm
    refine q_if (et_orG (c := t13) (et_not (et_B (ev_isiD1 isc_T isn_T T.co_Peal (kn_T T.cn_Peal) e_t1 (ea_d (ev_d (K := K) rfl h_l_some) (ea_cons mo_cls ev_cls ea_nil))))) (fun eb => by have e1 := cond_f eb e_t13; (obtain ⟨t2, e_t2, e1⟩ := bs e1); (obtain ⟨t12, e_t12, e1⟩ := bs e1); (have e1 := Option.some.inj e1); subst e1; exact (et_orG (c := t12) (et_test (ev_neI (ev_lenD e_t2 (ea_d (ev_d (K := K) rfl h_l_some) ea_nil)) (ev_lenTM (e := (eP2 Dat.str Dat.int)) (ea_d (ev_ixT (d := (eT (eP2 Dat.str Dat.int)) a.1.1) rfl (ev_d (K := K) rfl h_l_kit_here) ev_int) ea_nil)))) (fun eb => by have e1 := cond_f eb e_t12; (obtain ⟨t3, e_t3, e1⟩ := bs e1); (obtain ⟨t11, e_t11, e1⟩ := bs e1); (have e1 := Option.some.inj e1); subst e1; exact (et_not (et_B (ev_allL (ea_d (EvL.ev (el_lcM (ea := id) (eb := Dat.bool) (xs := t3) (ys := t11) (hf := e_t11) (src_tup (ev_tupD e_t3 (ev_d (K := K) rfl h_l_some))) (fun x4 _ Mx8 _ _ he9 sM7 sG6 hv5 => by (obtain ⟨t10, e_t10, he9⟩ := bs he9); (have he9 := Option.some.inj he9); subst he9; exact (tg_name ⟨rfl, (ev_callP (res := fun r => DD K (Dat.bool r)) (a := x4) e_t10 (ea_d (ev_d (K := K) rfl hv5) ea_nil))⟩)))) ea_nil))))) (fun eb => by have e1 := cond_t eb e_t12; cases e1; exact ⟨rfl, rfl⟩))) (fun eb => by have e1 := cond_t eb e_t13; cases e1; exact ⟨rfl, rfl⟩)) ok (fun hb G H s1 ok => ?_) (fun hb G H s1 ok => ?_)
    · have hm := cond_t hb hm
      have h_l_kit_here := dp_up s1 _ h_l_kit_here
      have h_l_table_here := dp_up s1 _ h_l_table_here
      have h_l_some := dp_up s1 _ h_l_some
      have sg := sg.trans s1
      refine q_ret (ev_bl (K := K)) ok (fun v G H s1 ok hv => ?_)
      have sg := sg.trans s1
      cases hm
      exact q v G H sg (ok.less hB) hv
    · have hm := cond_f hb hm
      have h_l_kit_here := dp_up s1 _ h_l_kit_here
      have h_l_table_here := dp_up s1 _ h_l_table_here
      have h_l_some := dp_up s1 _ h_l_some
      have sg := sg.trans s1
      refine q_nilU ?_
      obtain ⟨t14, e_t14, hm⟩ := bs hm
      obtain ⟨t15, e_t15, hm⟩ := bs hm
      obtain ⟨fin16, e_fin16, hm⟩ := bs hm
      have hmo19 := hm
      refine q_forR (ea := Dat.int) (src_rngO e_t15 (ea_d (ev_lenD e_t14 (ea_d (ev_d (K := K) rfl h_l_some) ea_nil)) ea_nil)) ok (fun (st17 : Unit) σ1 G1 M1 => ∃ (y_l_k : Option V), σ1 = [some v_l_kit_here, some v_l_table_here, some v_l_some, y_l_k, none] ∧ (Same M0 M1)) e_fin16 (fun G1 s1 => ⟨_, rfl, hB⟩) (by rintro _ _ _ _ _ ⟨y_l_k, rfl, hB⟩ s2; exact ⟨_, rfl, hB⟩) (fun x18 xv21 st17 st' σ1 G M H N hm hret20 hj s1 ok hv hN => ?_) (fun fin16s σ1 G M H hfin s1 ok hj => ?_)
      · obtain ⟨y_l_k, rfl, hB⟩ := hj
        have h_l_kit_here := dp_up s1 _ h_l_kit_here
        have h_l_table_here := dp_up s1 _ h_l_table_here
        have h_l_some := dp_up s1 _ h_l_some
        have sg := sg.trans s1
        have sl22 := Same.refl G
        refine gn ?_
        have h_l_k := hv
        cases h_l_k
        refine nrm (σ' := [some v_l_kit_here, some v_l_table_here, some v_l_some, some (.int x18), none]) rfl ?_
        obtain ⟨t23, e_t23, hm⟩ := bs hm
        obtain ⟨t24, e_t24, hm⟩ := bs hm
        obtain ⟨t25, e_t25, hm⟩ := bs hm
        refine q_if (et_not (et_test (ev_chainI (ev_int (K := K)) (ev_intD e_t25 (ev_ixD e_t23 (ev_d (K := K) rfl h_l_some) (ev_d (K := K) rfl (.int _)))) (ev_ixT (d := Dat.int t24.2) rfl (ev_ixTM (e := (eP2 Dat.str Dat.int)) e_t24 (ev_ixT (d := (eT (eP2 Dat.str Dat.int)) a.1.1) rfl (ev_d (K := K) rfl h_l_kit_here) ev_int) (ev_d (K := K) rfl (.int _))) ev_int)))) ok (fun hb G H s1 ok => ?_) (fun hb G H s1 ok => ?_)
        · have hm := cond_t hb hm
          have h_l_kit_here := dp_up s1 _ h_l_kit_here
          have h_l_table_here := dp_up s1 _ h_l_table_here
          have h_l_some := dp_up s1 _ h_l_some
          have sg := sg.trans s1
          have sl22 := sl22.trans s1
          refine q_ret (ev_bl (K := K)) ok (fun v G H s1 ok hv => ?_)
          have sg := sg.trans s1
          cases hm
          have hf0 := hret20 _ rfl
          rw [hf0] at hmo19
          have hmx0 := hmo19
          cases hmx0
          exact q v G H sg (ok.less hB) hv
        · have hm := cond_f hb hm
          have h_l_kit_here := dp_up s1 _ h_l_kit_here
          have h_l_table_here := dp_up s1 _ h_l_table_here
          have h_l_some := dp_up s1 _ h_l_some
          have sg := sg.trans s1
          have sl22 := sl22.trans s1
          refine q_nilU ?_
          refine q_nil ?_
          cases hm
          exact hN _ _ _ _ _ rfl sl22 ok ⟨_, rfl, hB⟩
      · obtain ⟨y_l_k, rfl, hB⟩ := hj
        have h_l_kit_here := dp_up s1 _ h_l_kit_here
        have h_l_table_here := dp_up s1 _ h_l_table_here
        have h_l_some := dp_up s1 _ h_l_some
        have sg := sg.trans s1
        rw [hfin] at hm
        have hm := orR_l hm
        obtain ⟨t26, e_t26, hm⟩ := bs hm
        obtain ⟨t27, e_t27, hm⟩ := bs hm
        refine q_ret (ev_callP (res := fun r => DD K (Dat.bool r)) (a := (a.1, a.2.1, t26)) e_t27 (ea_d (ev_d (K := K) rfl h_l_kit_here) (ea_d (ev_d (K := K) rfl h_l_table_here) (ea_d (ev_intsD e_t26 (ev_d (K := K) rfl h_l_some)) ea_nil)))) ok (fun v G H s1 ok hv => ?_)
        have sg := sg.trans s1
        cases hm
        exact q v G H sg (ok.less hB) hv
/-! ### _law_odd -/
theorem sc__law_odd : FnScope ["_law_store", "_law_kit_here", "_law_some", "_law_at", "_law_part", "_law_bent", "_law_entire"] ["_law_store", "_law_kit_here", "_law_some"] (defScope s__law_odd) := ⟨rfl, rfl, rfl, by decide +kernel, rfl, by decide +kernel, by decide +kernel⟩
def a__law_odd (K : PySem.W.Frag) (a : ((List (Str × Int)) × (List (Str × Str × Int))) × (List Int)) : List V → Hp → Prop := conP (DD K ((eP2 (eT (eP2 Dat.str Dat.int)) (eT (eP3 Dat.str Dat.str Dat.int))) a.1)) (conP (DD K ((eT Dat.int) a.2)) (nilP))
def m__law_odd (a : ((List (Str × Int)) × (List (Str × Str × Int))) × (List Int)) (z : Sto) : Option (Dat × Sto) :=
  (m__law_pull (a.2.length : Int) z).bind fun t1 => (atI a.1.1 t1.1).bind fun t2 => (atI a.2 t1.1).bind fun t3 => (atI a.1.1 t1.1).bind fun t4 => (powO (10 : Int) (30 : Int)).bind fun t5 => (atI a.2 t1.1).bind fun t6 => (atI a.2 t1.1).bind fun t7 => (atI a.2 t1.1).bind fun t8 => (atI a.2 t1.1).bind fun t9 => (catO ([(eN ()), (Dat.bool true), (Dat.bool false), (Dat.str (Str.ofString "0")), (Dat.str (Str.ofString "")), ((eT id) []), ((eL Dat.int) ([(0 : Int)] : (List Int))), ((eDS Dat.int) ([] : List (Str × Int))), (Dat.int ((0 : Int) - (1 : Int))), (Dat.int t2.2), (Dat.int (t3 + t4.2)), (Dat.int t5)] : (List Dat)) ([(Dat.int (t6 + (1 : Int))), (Dat.int (t7 - (1 : Int))), ((eT Dat.int) ([t8] : (List Int))), ((eL Dat.int) ([t9] : (List Int)))] : (List Dat))).bind fun t10 => (m__law_pull (16 : Int) t1.2).bind fun t11 => (atI t10 t11.1).bind fun t12 => (catO ((cut a.2 none (some t1.1)).map Dat.int) ([t12] : (List Dat))).bind fun t13 => (catO t13 ((cut a.2 (some (t1.1 + (1 : Int))) none).map Dat.int)).bind fun t14 => (catO a.2 ([(0 : Int)] : (List Int))).bind fun t15 => (m__law_pull (13 : Int) t11.2).bind fun t16 => (atI ([((eL Dat.int) a.2), ((eT Dat.int) (cut a.2 none (some (-(1 : Int))))), ((eT Dat.int) t15), ((eT (eT Dat.int)) ([a.2] : (List (List Int)))), ((eT Dat.int) a.2.reverse), (eN ()), (Dat.int (0 : Int)), (Dat.bool true), (Dat.str (Str.ofString "")), ((eL id) ([])), ((eDS Dat.int) ([] : List (Str × Int))), ((eT (eL id)) ([([])] : (List (List Dat)))), (Dat.str (Str.ofString "weights"))] : (List Dat)) t16.1).bind fun t17 => (m__law_pull (3 : Int) t16.2).bind fun t18 => (atI ([((eT id) t14), ((eT id) t14), t17] : (List Dat)) t18.1).bind fun t19 => some (t19, t18.2)
abbrev sp__law_odd [Tb] (K : PySem.W.Frag) : Sp := spD (a__law_odd K) (m__law_odd) fun r => DD K (id r)
theorem ok__law_odd [Tb] {P : Program} {w : World} {K : PySem.W.Frag} {mg : Str → Option Value} {base : Heap} (T : Txt K mg) (O__law_pull : FnOk P w K mg base CX0 1 T.a__law_pull T.d__law_pull ["_law_store", "_law_many"] (sp__law_pull K)) : FnOk P w K mg base CX0 (2) T.a__law_odd T.d__law_odd ["_law_store", "_law_kit_here", "_law_some"] (sp__law_odd K) := by
  refine T.F__law_odd.ok sc__law_odd (fun vs H Q E h => ?_) (fun cdv A outer s0 H vs Q E hr h => ?_)
  · obtain ⟨G, M0, s, z, z1, a, r, ws, rfl, ok, hs, ⟨v_l_kit_here, _, rfl, h_l_kit_here, v_l_some, _, rfl, h_l_some, rfl⟩, hm, q⟩ := h
    rfl
  · obtain ⟨G, M0, s, z, z1, a, r, ws, rfl, ok, hs, ⟨v_l_kit_here, _, rfl, h_l_kit_here, v_l_some, _, rfl, h_l_some, rfl⟩, hm, q⟩ := h
    unfold m__law_odd at hm
    have sg := Same.refl G
    have hB : ∀ a u, a ≠ s → M0 a = some u → M0 a = some u := fun _ _ _ h => h
    refine ⟨_, (pss_cons (ps_set (i := 3) sc__law_odd.nd rfl (.inl rfl) (pe_call O__law_pull (hr.mono (by decide)) (by rfl) T.g__law_pull T.F__law_pull.kp T.b__law_pull .nil pass0 (pa_cons (pv 0) (pa_cons (pe_callB (cl_lenK (K := K)) (by rfl) T.n_len (by decide +kernel) (pa_cons (pv 2) pa_nil)) pa_nil)))) (pss_cons (ps_set (i := 4) sc__law_odd.nd rfl (.inl rfl) (pe_lst (pa_cons pe_non (pa_cons pe_bl (pa_cons pe_bl (pa_cons pe_str (pa_cons pe_str (pa_cons (pe_tupF pa_nil) (pa_cons (pe_lst (pa_cons pe_int pa_nil)) (pa_cons pe_dnewK (pa_cons (pe_op op_sub pe_int pe_int) (pa_cons (pe_ix (ix_tupK (K := K)) (pe_ix (ix_tupK (K := K)) (pe_ix (ix_tupK (K := K)) (pv 1) pe_int (fun _ _ => rfl)) (pv 3) (fun _ _ => rfl)) pe_int (fun _ _ => rfl)) (pa_cons (pe_op op_add (pe_ix (ix_tupK (K := K)) (pv 2) (pv 3) (fun _ _ => rfl)) (pe_ix (ix_tupK (K := K)) (pe_ix (ix_tupK (K := K)) (pe_ix (ix_tupK (K := K)) (pv 1) pe_int (fun _ _ => rfl)) (pv 3) (fun _ _ => rfl)) pe_int (fun _ _ => rfl))) (pa_cons (pe_op op_pow pe_int pe_int) pa_nil)))))))))))))) (pss_cons (ps_set (i := 4) sc__law_odd.nd rfl (.inl rfl) (pe_op op_cat (pv 4) (pe_lst (pa_cons (pe_op op_add (pe_ix (ix_tupK (K := K)) (pv 2) (pv 3) (fun _ _ => rfl)) pe_int) (pa_cons (pe_op op_sub (pe_ix (ix_tupK (K := K)) (pv 2) (pv 3) (fun _ _ => rfl)) pe_int) (pa_cons (pe_tupF (pa_cons (pe_ix (ix_tupK (K := K)) (pv 2) (pv 3) (fun _ _ => rfl)) pa_nil)) (pa_cons (pe_lst (pa_cons (pe_ix (ix_tupK (K := K)) (pv 2) (pv 3) (fun _ _ => rfl)) pa_nil)) pa_nil))))))) (pss_cons (ps_set (i := 5) sc__law_odd.nd rfl (.inl rfl) (pe_op (op_catAK (K := K)) (pe_op (op_catAK (K := K)) (pe_slice (sl_tupK (K := K)) (pv 2) po_none (po_some (pv 3))) (pe_tupF (pa_cons (pe_ix (ix_listK (K := K)) (pv 4) (pe_call O__law_pull (hr.mono (by decide)) (by rfl) T.g__law_pull T.F__law_pull.kp T.b__law_pull .nil pass0 (pa_cons (pv 0) (pa_cons pe_int pa_nil))) (fun _ _ => rfl)) pa_nil))) (pe_slice (sl_tupK (K := K)) (pv 2) (po_some (pe_op op_add (pv 3) pe_int)) po_none))) (pss_cons (ps_set (i := 6) sc__law_odd.nd rfl (.inl rfl) (pe_lst (pa_cons (pe_callTy (cl_listK (K := K)) (by rfl) T.n_list (by decide +kernel) (pa_cons (pv 2) pa_nil)) (pa_cons (pe_slice (sl_tupK (K := K)) (pv 2) po_none (po_some (pe_un un_neg pe_int))) (pa_cons (pe_op (op_catAK (K := K)) (pv 2) (pe_tupF (pa_cons pe_int pa_nil))) (pa_cons (pe_tupF (pa_cons (pv 2) pa_nil)) (pa_cons (pe_revT (K := K) (pv 2)) (pa_cons pe_non (pa_cons pe_int (pa_cons pe_bl (pa_cons pe_str (pa_cons (pe_lst pa_nil) (pa_cons pe_dnewK (pa_cons (pe_tupF (pa_cons (pe_lst pa_nil) pa_nil)) (pa_cons pe_str pa_nil))))))))))))))) (pss_cons (ps_ret (pe_ix (ix_listK (K := K)) (pe_lst (pa_cons (pv 5) (pa_cons (pv 5) (pa_cons (pe_ix (ix_listK (K := K)) (pv 6) (pe_call O__law_pull (hr.mono (by decide)) (by rfl) T.g__law_pull T.F__law_pull.kp T.b__law_pull .nil pass0 (pa_cons (pv 0) (pa_cons pe_int pa_nil))) (fun _ _ => rfl)) pa_nil)))) (pe_call O__law_pull (hr.mono (by decide)) (by rfl) T.g__law_pull T.F__law_pull.kp T.b__law_pull .nil pass0 (pa_cons (pv 0) (pa_cons pe_int pa_nil))) (fun _ _ => rfl))) pss_nil)))))), ?_⟩
    refine nrm (σ' := [some (.ref s), some v_l_kit_here, some v_l_some, none, none, none, none]) rfl ?_
    obtain ⟨t1, e_t1, hm⟩ := bs hm
    refine q_set (σ' := fun v => [some (.ref s), some v_l_kit_here, some v_l_some, some v, none, none, none]) (ev_callD (a := (a.2.length : Int)) (r := t1.1) (z' := t1.2) hs e_t1 (ea_cons mo_ow (ev_own rfl) (ea_d (ev_lenTM (e := Dat.int) (ea_d (ev_d (K := K) rfl h_l_some) ea_nil)) ea_nil))) ok (fun _ => rfl) (fun v_l_at G H s1 ok h_l_at => ?_)
    have h_l_kit_here := dp_up s1 _ h_l_kit_here
    have h_l_some := dp_up s1 _ h_l_some
    have sg := sg.trans s1
    cases h_l_at
    have ok : Ok _ (upd M0 s (sto t1.2)) _ := ok
    have hs : (upd M0 s (sto t1.2)) s = some (sto t1.2) := upd_same
    have hB : ∀ a u, a ≠ s → M0 a = some u → (upd M0 s (sto t1.2)) a = some u := (hB_draw hB)
    obtain ⟨M, eM⟩ : ∃ m, m = (upd M0 s (sto t1.2)) := ⟨_, rfl⟩
    rw [← eM] at ok hs hB
    clear eM
    obtain ⟨t2, e_t2, hm⟩ := bs hm
    obtain ⟨t3, e_t3, hm⟩ := bs hm
    obtain ⟨t4, e_t4, hm⟩ := bs hm
    obtain ⟨t5, e_t5, hm⟩ := bs hm
    refine q_set (σ' := fun v => [some (.ref s), some v_l_kit_here, some v_l_some, some (.int t1.1), some v, none, none]) (EvL.ev (el_lst (ea_consD (ev_non (K := K)) (ea_consD (ev_bl (K := K)) (ea_consD (ev_bl (K := K)) (ea_consD (ev_str (K := K) (by decide +kernel)) (ea_consD (ev_str (K := K) (by decide +kernel)) (ea_consD (ev_tup (ea_nilD (K := K))) (ea_consD (EvL.ev (el_lst (ea_consD (ev_int (K := K)) (ea_nilD (K := K))))) (ea_consD (EvD.ev (ed_new (K := K) (e := Dat.int))) (ea_consD (ev_sub (ev_int (K := K)) (ev_int (K := K))) (ea_consD (ev_ixT (d := Dat.int t2.2) rfl (ev_ixTM (e := (eP2 Dat.str Dat.int)) e_t2 (ev_ixT (d := (eT (eP2 Dat.str Dat.int)) a.1.1) rfl (ev_d (K := K) rfl h_l_kit_here) ev_int) (ev_d (K := K) rfl (.int _))) ev_int) (ea_consD (ev_add (ev_ixTM (e := Dat.int) e_t3 (ev_d (K := K) rfl h_l_some) (ev_d (K := K) rfl (.int _))) (ev_ixT (d := Dat.int t4.2) rfl (ev_ixTM (e := (eP2 Dat.str Dat.int)) e_t4 (ev_ixT (d := (eT (eP2 Dat.str Dat.int)) a.1.1) rfl (ev_d (K := K) rfl h_l_kit_here) ev_int) (ev_d (K := K) rfl (.int _))) ev_int)) (ea_consD (ev_powO e_t5 (ev_int (K := K)) (ev_int (K := K))) (ea_nilD (K := K)))))))))))))))) ok (fun _ => rfl) (fun v_l_part G H s1 ok h_l_part => ?_)
    have h_l_kit_here := dp_up s1 _ h_l_kit_here
    have h_l_some := dp_up s1 _ h_l_some
    have sg := sg.trans s1
    obtain ⟨t6, e_t6, hm⟩ := bs hm
    obtain ⟨t7, e_t7, hm⟩ := bs hm
    obtain ⟨t8, e_t8, hm⟩ := bs hm
    obtain ⟨t9, e_t9, hm⟩ := bs hm
    obtain ⟨t10, e_t10, hm⟩ := bs hm
    refine q_set (σ' := fun v => [some (.ref s), some v_l_kit_here, some v_l_some, some (.int t1.1), some v, none, none]) (EvL.ev (el_catO (e := id) e_t10 (ev_d (K := K) rfl h_l_part) (EvL.ev (el_lst (ea_consD (ev_add (ev_ixTM (e := Dat.int) e_t6 (ev_d (K := K) rfl h_l_some) (ev_d (K := K) rfl (.int _))) (ev_int (K := K))) (ea_consD (ev_sub (ev_ixTM (e := Dat.int) e_t7 (ev_d (K := K) rfl h_l_some) (ev_d (K := K) rfl (.int _))) (ev_int (K := K))) (ea_consD (ev_tup (ea_consD (ev_ixTM (e := Dat.int) e_t8 (ev_d (K := K) rfl h_l_some) (ev_d (K := K) rfl (.int _))) (ea_nilD (K := K)))) (ea_consD (EvL.ev (el_lst (ea_consD (ev_ixTM (e := Dat.int) e_t9 (ev_d (K := K) rfl h_l_some) (ev_d (K := K) rfl (.int _))) (ea_nilD (K := K))))) (ea_nilD (K := K)))))))))) ok (fun _ => rfl) (fun v_l_part G H s1 ok h_l_part => ?_)
    have h_l_kit_here := dp_up s1 _ h_l_kit_here
    have h_l_some := dp_up s1 _ h_l_some
    have sg := sg.trans s1
    obtain ⟨t11, e_t11, hm⟩ := bs hm
    obtain ⟨t12, e_t12, hm⟩ := bs hm
    obtain ⟨t13, e_t13, hm⟩ := bs hm
    obtain ⟨t14, e_t14, hm⟩ := bs hm
    refine q_set (σ' := fun v => [some (.ref s), some v_l_kit_here, some v_l_some, some (.int t1.1), some v_l_part, some v, none]) (ev_catTO (e := id) e_t14 (ev_catTO (e := id) e_t13 (ev_TD (e := Dat.int) (ev_slTM (e := Dat.int) (ev_d (K := K) rfl h_l_some) eo_none (eo_some (ev_d (K := K) rfl (.int _))))) (ev_tup (ea_consD (ev_ixLM (e := id) e_t12 (ev_d (K := K) rfl h_l_part) (ev_callD (a := (16 : Int)) (r := t11.1) (z' := t11.2) hs e_t11 (ea_cons mo_ow (ev_own rfl) (ea_d (ev_int (K := K)) ea_nil)))) (ea_nilD (K := K))))) (ev_TD (e := Dat.int) (ev_slTM (e := Dat.int) (ev_d (K := K) rfl h_l_some) (eo_some (ev_add (ev_d (K := K) rfl (.int _)) (ev_int (K := K)))) eo_none))) ok (fun _ => rfl) (fun v_l_bent G H s1 ok h_l_bent => ?_)
    have h_l_kit_here := dp_up s1 _ h_l_kit_here
    have h_l_some := dp_up s1 _ h_l_some
    have h_l_part := dp_up s1 _ h_l_part
    have sg := sg.trans s1
    have ok : Ok _ (upd M s (sto t11.2)) _ := ok
    have hs : (upd M s (sto t11.2)) s = some (sto t11.2) := upd_same
    have hB : ∀ a u, a ≠ s → M0 a = some u → (upd M s (sto t11.2)) a = some u := (hB_draw hB)
    obtain ⟨M, eM⟩ : ∃ m, m = (upd M s (sto t11.2)) := ⟨_, rfl⟩
    rw [← eM] at ok hs hB
    clear eM
    obtain ⟨t15, e_t15, hm⟩ := bs hm
    refine q_set (σ' := fun v => [some (.ref s), some v_l_kit_here, some v_l_some, some (.int t1.1), some v_l_part, some v_l_bent, some v]) (EvL.ev (el_lst (ea_consD (EvL.ev (el_listT (ea_d (ev_d (K := K) rfl h_l_some) ea_nil))) (ea_consD (ev_slTM (e := Dat.int) (ev_d (K := K) rfl h_l_some) eo_none (eo_some (ev_neg (ev_int (K := K))))) (ea_consD (ev_catTO (e := Dat.int) e_t15 (ev_d (K := K) rfl h_l_some) (ev_tup (ea_consD (ev_int (K := K)) (ea_nilD (K := K))))) (ea_consD (ev_tup (ea_consD (ev_d (K := K) rfl h_l_some) (ea_nilD (K := K)))) (ea_consD (ev_revTM (e := Dat.int) (xs := a.2) (ev_d (K := K) rfl h_l_some)) (ea_consD (ev_non (K := K)) (ea_consD (ev_int (K := K)) (ea_consD (ev_bl (K := K)) (ea_consD (ev_str (K := K) (by decide +kernel)) (ea_consD (EvL.ev (el_lst (ea_nilD (K := K)))) (ea_consD (EvD.ev (ed_new (K := K) (e := Dat.int))) (ea_consD (ev_tup (ea_consD (EvL.ev (el_lst (ea_nilD (K := K)))) (ea_nilD (K := K)))) (ea_consD (ev_str (K := K) (by decide +kernel)) (ea_nilD (K := K))))))))))))))))) ok (fun _ => rfl) (fun v_l_entire G H s1 ok h_l_entire => ?_)
    have h_l_kit_here := dp_up s1 _ h_l_kit_here
    have h_l_some := dp_up s1 _ h_l_some
    have h_l_part := dp_up s1 _ h_l_part
    have h_l_bent := dp_up s1 _ h_l_bent
    have sg := sg.trans s1
    obtain ⟨t16, e_t16, hm⟩ := bs hm
    obtain ⟨t17, e_t17, hm⟩ := bs hm
    obtain ⟨t18, e_t18, hm⟩ := bs hm
    obtain ⟨t19, e_t19, hm⟩ := bs hm
    refine q_ret (ev_ixLM (e := id) e_t19 (EvL.ev (el_lst (ea_consD (ev_d (K := K) rfl h_l_bent) (ea_consD (ev_d (K := K) rfl h_l_bent) (ea_consD (ev_ixLM (e := id) e_t17 (ev_d (K := K) rfl h_l_entire) (ev_callD (a := (13 : Int)) (r := t16.1) (z' := t16.2) hs e_t16 (ea_cons mo_ow (ev_own rfl) (ea_d (ev_int (K := K)) ea_nil)))) (ea_nilD (K := K))))))) (ev_callD (a := (3 : Int)) (r := t18.1) (z' := t18.2) upd_same e_t18 (ea_cons mo_ow (ev_own rfl) (ea_d (ev_int (K := K)) ea_nil)))) ok (fun v G H s1 ok hv => ?_)
    have sg := sg.trans s1
    have ok : Ok _ (upd (upd M s (sto t16.2)) s (sto t18.2)) _ := ok
    have hs : (upd (upd M s (sto t16.2)) s (sto t18.2)) s = some (sto t18.2) := upd_same
    have hB : ∀ a u, a ≠ s → M0 a = some u → (upd (upd M s (sto t16.2)) s (sto t18.2)) a = some u := (hB_draw (hB_draw hB))
    obtain ⟨M, eM⟩ : ∃ m, m = (upd (upd M s (sto t16.2)) s (sto t18.2)) := ⟨_, rfl⟩
    rw [← eM] at ok hs hB
    clear eM
    cases hm
    exact q v G H sg (ok.less (same_fin hB hs)) hv
theorem kwp_is_weights_thing_peal {K : PySem.W.Frag} {G : Hp} {vs : List V} {a : ((List (Str × Int)) × (List (Str × Str × Int)) × (List (Str × Int)) × (List ((Str × Str) × Int))) × Dat} (h : (conP (DD K (id a.2)) (conP (DD K (eX_Peal a.1)) (nilP))) vs G) : vs.length = 2 ∧ a_is_weights K a (kw_is_weights_thing_peal vs) G := by
  obtain ⟨v_thing, _, rfl, h_thing, v_peal, _, rfl, h_peal, rfl⟩ := h
  exact ⟨rfl, v_peal, _, rfl, h_peal, v_thing, _, rfl, h_thing, rfl⟩
/-! ### _law_told_right -/
theorem sc__law_told_right : FnScope ["_law_kit_here", "_law_table_here", "_law_made_here", "_law_some", "_law_kept", "_law_due_here", "_law_told", "_law_truth"] ["_law_kit_here", "_law_table_here", "_law_made_here", "_law_some"] (defScope s__law_told_right) := ⟨rfl, rfl, rfl, by decide +kernel, rfl, by decide +kernel, by decide +kernel⟩
def a__law_told_right (K : PySem.W.Frag) (a : ((List (Str × Int)) × (List (Str × Str × Int))) × (List ((Str × Str) × Int)) × ((List (Str × Int)) × (List (Str × Str × Int)) × (List (Str × Int)) × (List ((Str × Str) × Int))) × Dat) : List V → Hp → Prop := conP (DD K ((eP2 (eT (eP2 Dat.str Dat.int)) (eT (eP3 Dat.str Dat.str Dat.int))) a.1)) (conP (DD K ((eDP Dat.int) a.2.1)) (conP (DD K (eX_Peal a.2.2.1)) (conP (DD K (id a.2.2.2)) (nilP))))
def m__law_told_right (a : ((List (Str × Int)) × (List (Str × Str × Int))) × (List ((Str × Str) × Int)) × ((List (Str × Int)) × (List (Str × Str × Int)) × (List (Str × Int)) × (List ((Str × Str) × Int))) × Dat) : Option Bool :=
  (reprY (id a.2.2.2)).bind fun t1 => (m__law_due (a.1, a.2.1, a.2.2.2)).bind fun t2 => (m_is_weights (a.2.2.1, a.2.2.2)).bind fun t3 => (m_is_weights (a.2.2.1, a.2.2.2)).bind fun t4 => (m_is_weights (a.2.2.1, a.2.2.2)).bind fun t5 => (lcO (fun x6 : Bool => some (true && (decide (x6 = t2)))) ([t3, t4, t5] : (List Bool))).bind fun t12 => (cond (t12.all id) ((reprY (id a.2.2.2)).bind fun t13 => some (decide (t13 = t1))) (some false)).bind fun t14 => some t14
abbrev sp__law_told_right [Tb] (K : PySem.W.Frag) : Sp := spP (a__law_told_right K) (m__law_told_right) fun r => DD K (Dat.bool r)
theorem ok__law_told_right [Tb] {P : Program} {w : World} {K : PySem.W.Frag} {mg : Str → Option Value} {base : Heap} (T : Txt K mg) (O__law_due : FnOk P w K mg base CX0 3 T.a__law_due T.d__law_due ["_law_kit_here", "_law_table_here", "_law_some"] (sp__law_due K)) (O_is_weights : FnOk P w K mg base CX0 7 T.a_is_weights T.d_is_weights ["peal", "thing"] (sp_is_weights K)) : FnOkG P w K mg base CX0 (8) T.a__law_told_right T.d__law_told_right ["_law_kit_here", "_law_table_here", "_law_made_here", "_law_some"] (sp__law_told_right K) := by
  refine okG T.F__law_told_right sc__law_told_right (fun vs H Q E h => ?_) (fun cdv A outer s0 H vs Q E hr hgd h => ?_)
  · obtain ⟨G, M0, a, r, ok, ⟨v_l_kit_here, _, rfl, h_l_kit_here, v_l_table_here, _, rfl, h_l_table_here, v_l_made_here, _, rfl, h_l_made_here, v_l_some, _, rfl, h_l_some, rfl⟩, hm, q⟩ := h
    rfl
  · obtain ⟨G, M0, a, r, ok, ⟨v_l_kit_here, _, rfl, h_l_kit_here, v_l_table_here, _, rfl, h_l_table_here, v_l_made_here, _, rfl, h_l_made_here, v_l_some, _, rfl, h_l_some, rfl⟩, hm, q⟩ := h
    unfold m__law_told_right at hm
    have sg := Same.refl G
    have hB := Same.refl M0
    refine ⟨_, (pss_cons (ps_asg (pe_tup (pa_cons (pe_callB (cl_reprY (K := K) hgd hr.units rfl) (by rfl) T.n_repr (by decide +kernel) (pa_cons (pv 3) pa_nil)) (pa_cons (pe_call O__law_due (hr.mono (by decide)) (by rfl) T.g__law_due T.F__law_due.kp T.b__law_due .nil pass0 (pa_cons (pv 0) (pa_cons (pv 1) (pa_cons (pv 3) pa_nil)))) pa_nil))) (pg_tup rfl (pgs_cons (pg_name (i := 4) sc__law_told_right.nd rfl (.inl rfl)) (pgs_cons (pg_name (i := 5) sc__law_told_right.nd rfl (.inr rfl)) pgs_nil)))) (pss_cons (ps_set (i := 6) sc__law_told_right.nd rfl (.inl rfl) (pe_lst (pa_cons (pe_call O_is_weights (hr.mono (by decide)) (by rfl) T.g_is_weights T.F_is_weights.kp T.b_is_weights .nil pass0 (pa_cons (pv 2) (pa_cons (pv 3) pa_nil))) (pa_cons (pe_callKw (g := @kw_is_weights_thing_peal) O_is_weights (hr.mono (by decide)) (by rfl) T.g_is_weights T.F_is_weights.kp T.kb_is_weights_thing_peal pass0 (pk_cons (pv 3) (pk_cons (pv 2) pk_nil))) (pa_cons (pe_call O_is_weights (hr.mono (by decide)) (by rfl) T.g_is_weights T.F_is_weights.kp T.b_is_weights .nil pass0 (pa_cons (pv 2) (pa_cons (pv 3) pa_nil))) pa_nil))))) (pss_cons (ps_ret (pe_and (pe_callB (cr_allK (K := K) rfl) (by rfl) T.n_all (by decide +kernel) (pa_cons (pe_lc (own := [("_law_truth", 7)]) (g := (gName 7)) (tt := tYes) rfl sc__law_told_right.nd (pi_listK (K := K) (pv 6)) (blkOk_by (own := [("_law_truth", 7)]) (N := ["_law_kit_here", "_law_table_here", "_law_made_here", "_law_some", "_law_kept", "_law_due_here", "_law_told", "_law_truth"]) (sc := defScope s__law_told_right) (by decide +kernel)) (fun _ _ _ _ _ => (pg_name (i := 7) sc__law_told_right.nd rfl (by first | exact .inl rfl | exact .inr rfl))) (fun _ _ _ _ _ => pts_nil) (fun _ _ _ _ _ => (pe_and (pe_callB (call_isiKK (K := K)) (by rfl) T.n_isinstance (by decide +kernel) (pa_cons (pv 7) (pa_cons (pe_bltn (v := .ty "bool") (by rfl) T.n_bool (by decide +kernel) rfl) pa_nil))) (pe_one (pe_cmpR (op_eqDK (K := K) hr.units) (pv 7) (pv 5) (nomark _)))))) pa_nil)) (pe_one (pe_cmpR op_eq (pe_callB (cl_reprY (K := K) hgd hr.units rfl) (by rfl) T.n_repr (by decide +kernel) (pa_cons (pv 3) pa_nil)) (pv 4) (nomark _))))) pss_nil))), ?_⟩
    refine nrm (σ' := [some v_l_kit_here, some v_l_table_here, some v_l_made_here, some v_l_some, none, none, none, none]) rfl ?_
    obtain ⟨t1, e_t1, hm⟩ := bs hm
    obtain ⟨t2, e_t2, hm⟩ := bs hm
    refine q_tupDD (σ' := fun v w => [some v_l_kit_here, some v_l_table_here, some v_l_made_here, some v_l_some, some v, some w, none, none]) (ev_reprY (d := id a.2.2.2) e_t1 (ea_d (ev_d (K := K) rfl h_l_some) ea_nil)) mo_dd (ev_callP (res := fun r => DD K (Dat.bool r)) (a := (a.1, a.2.1, a.2.2.2)) e_t2 (ea_d (ev_d (K := K) rfl h_l_kit_here) (ea_d (ev_d (K := K) rfl h_l_table_here) (ea_d (ev_d (K := K) rfl h_l_some) ea_nil)))) mo_dd ok (fun _ _ => rfl) (fun v_l_kept v_l_due_here G H s1 ok h_l_kept h_l_due_here => ?_)
    have h_l_kit_here := dp_up s1 _ h_l_kit_here
    have h_l_table_here := dp_up s1 _ h_l_table_here
    have h_l_made_here := dp_up s1 _ h_l_made_here
    have h_l_some := dp_up s1 _ h_l_some
    have sg := sg.trans s1
    cases h_l_due_here
    obtain ⟨t3, e_t3, hm⟩ := bs hm
    obtain ⟨t4, e_t4, hm⟩ := bs hm
    obtain ⟨t5, e_t5, hm⟩ := bs hm
    refine q_set (σ' := fun v => [some v_l_kit_here, some v_l_table_here, some v_l_made_here, some v_l_some, some v_l_kept, some (.bl t2), some v, none]) (EvL.ev (el_lst (ea_consD (ev_callP (res := fun r => DD K (Dat.bool r)) (a := (a.2.2.1, a.2.2.2)) e_t3 (ea_d (ev_d (K := K) rfl h_l_made_here) (ea_d (ev_d (K := K) rfl h_l_some) ea_nil))) (ea_consD (ev_callKP (res := fun r => DD K (Dat.bool r)) (a := (a.2.2.1, a.2.2.2)) e_t4 (fun _ _ h => kwp_is_weights_thing_peal h) (ea_d (ev_d (K := K) rfl h_l_some) (ea_d (ev_d (K := K) rfl h_l_made_here) ea_nil))) (ea_consD (ev_callP (res := fun r => DD K (Dat.bool r)) (a := (a.2.2.1, a.2.2.2)) e_t5 (ea_d (ev_d (K := K) rfl h_l_made_here) (ea_d (ev_d (K := K) rfl h_l_some) ea_nil))) (ea_nilD (K := K))))))) ok (fun _ => rfl) (fun v_l_told G H s1 ok h_l_told => ?_)
    have h_l_kit_here := dp_up s1 _ h_l_kit_here
    have h_l_table_here := dp_up s1 _ h_l_table_here
    have h_l_made_here := dp_up s1 _ h_l_made_here
    have h_l_some := dp_up s1 _ h_l_some
    have h_l_kept := dp_up s1 _ h_l_kept
    have sg := sg.trans s1
    obtain ⟨t12, e_t12, hm⟩ := bs hm
    obtain ⟨t14, e_t14, hm⟩ := bs hm
    refine q_ret (ev_andG (c := t14) (ev_allL (ea_d (EvL.ev (el_lcM (ea := Dat.bool) (eb := Dat.bool) (xs := ([t3, t4, t5] : (List Bool))) (ys := t12) (hf := e_t12) (src_list (ev_d (K := K) rfl h_l_told)) (fun x6 _ Mx10 _ _ he11 sM9 sG8 hv7 => by cases he11; exact (tg_name ⟨rfl, (ev_and (ev_isi (d := Dat.bool x6) (n := "bool") (b := true) rfl (show kitB "bool" "bool" = some true by decide +kernel) (ea_d (ev_d (K := K) rfl hv7) (ea_cons mo_cls ev_cls ea_nil))) fun _ => (ev_eqE (e := Dat.bool) (x := x6) (y := t2) eqe_bool (by decide) (ev_d (K := K) rfl hv7) (ev_d (K := K) rfl (.bl _))))⟩)))) ea_nil)) (fun eb => by have e1 := cond_t eb e_t14; (obtain ⟨t13, e_t13, e1⟩ := bs e1); (have e1 := Option.some.inj e1); subst e1; exact (ev_eqS (ev_reprY (d := id a.2.2.2) e_t13 (ea_d (ev_d (K := K) rfl h_l_some) ea_nil)) (ev_d (K := K) rfl h_l_kept))) (fun eb => by have e1 := cond_f eb e_t14; cases e1; exact ⟨rfl, rfl⟩)) ok (fun v G H s1 ok hv => ?_)
    have sg := sg.trans s1
    cases hm
    exact q v G H sg (ok.less hB) hv
/-! ### _law_none_right -/
theorem sc__law_none_right : FnScope ["_law_kit_here", "_law_some", "_law_what", "_law_caught", "e"] ["_law_kit_here", "_law_some"] (defScope s__law_none_right) := ⟨rfl, rfl, rfl, by decide +kernel, rfl, by decide +kernel, by decide +kernel⟩
def a__law_none_right (K : PySem.W.Frag) (a : ((List (Str × Int)) × (List (Str × Str × Int))) × (List Int)) : List V → Hp → Prop := conP (DD K ((eP2 (eT (eP2 Dat.str Dat.int)) (eT (eP3 Dat.str Dat.str Dat.int))) a.1)) (conP (DD K ((eT Dat.int) a.2)) (nilP))
def m__law_none_right (a : ((List (Str × Int)) × (List (Str × Str × Int))) × (List Int)) : Option Bool :=
  (forR (R := Bool) (fun (st2 : Unit) (x3 : Dat) => (m_is_weights_2 (x3, ((eT Dat.int) a.2))).bind fun t8 => orX t8 (fun y9 => none) (fun x => exO0 "NoPeal" x (cond ((!true) || false) (some (.inr false)) (some (.inl ()))) none)) ([(eN ()), (Dat.int (0 : Int)), (Dat.bool true), (Dat.str (Str.ofString "")), (Dat.str (Str.ofString "bell a 2")), ((eT id) []), ((eL id) ([])), ((eDS Dat.int) ([] : List (Str × Int))), ((eP2 (eT (eP2 Dat.str Dat.int)) (eT (eP3 Dat.str Dat.str Dat.int))) a.1), ((eT (eP2 Dat.str Dat.int)) a.1.1), ((eT Dat.int) a.2)] : (List Dat)) ()).bind fun fin1 => orR fin1 (fun fin1s => some true) (fun r => some r)
abbrev sp__law_none_right [Tb] (K : PySem.W.Frag) : Sp := spP (a__law_none_right K) (m__law_none_right) fun r => DD K (Dat.bool r)
theorem ok__law_none_right [Tb] {P : Program} {w : World} {K : PySem.W.Frag} {mg : Str → Option Value} {base : Heap} (T : Txt K mg) (O_is_weights_2 : FnOk P w K mg base (L2N.CX P w) 7 T.a_is_weights T.d_is_weights ["peal", "thing"] (sp_is_weights_2 K)) : FnOk P w K mg base CX0 (9) T.a__law_none_right T.d__law_none_right ["_law_kit_here", "_law_some"] (sp__law_none_right K) := by
  refine T.F__law_none_right.ok sc__law_none_right (fun vs H Q E h => ?_) (fun cdv A outer s0 H vs Q E hr h => ?_)
  · obtain ⟨G, M0, a, r, ok, ⟨v_l_kit_here, _, rfl, h_l_kit_here, v_l_some, _, rfl, h_l_some, rfl⟩, hm, q⟩ := h
    rfl
  · obtain ⟨G, M0, a, r, ok, ⟨v_l_kit_here, _, rfl, h_l_kit_here, v_l_some, _, rfl, h_l_some, rfl⟩, hm, q⟩ := h
    unfold m__law_none_right at hm
    have sg := Same.refl G
    have hB := Same.refl M0
    refine ⟨_, (pss_cons (ps_for PassesOwn.never rfl (pi_listK (K := K) (pe_lst (pa_cons pe_non (pa_cons pe_int (pa_cons pe_bl (pa_cons pe_str (pa_cons pe_str (pa_cons (pe_tupF pa_nil) (pa_cons (pe_lst pa_nil) (pa_cons pe_dnewK (pa_cons (pv 0) (pa_cons (pe_ix (ix_tupK (K := K)) (pv 0) pe_int (fun _ _ => rfl)) (pa_cons (pv 1) pa_nil))))))))))))) (pg_name (i := 2) sc__law_none_right.nd rfl (.inl rfl)) (pss_cons (ps_set (i := 3) sc__law_none_right.nd rfl (.inl rfl) pe_non) (pss_try_keep (i := 4) rfl rfl sc__law_none_right.nd rfl rfl ⟨by rfl, by decide, .inl T.mc_BellError⟩ takes0N (fun W pn xe tk po => (pss_cons (ps_expr (pe_callS O_is_weights_2 (hr.mono (by decide)) (by rfl) T.g_is_weights T.F_is_weights.kp T.b_is_weights (fun σ => passAtN tk σ) (pa_cons (pv 2) (pa_cons (pv 1) pa_nil)))) pss_nil)) (fun a oe cls d pn hz hf => (pss_if (fun (ec : cls = .ref (clsAt K "NoPeal")) => (pss_cons (ps_set (i := 3) sc__law_none_right.nd rfl (.inl rfl) (pv 4)) pss_nil)))) (fun a oe cls d pn hz hf => (pss_if (fun (ec : cls = .ref (clsAt K "NoPeal")) => (pss_cons (ps_if (PW.pt (pw_or (pt_not (pt_val (pe_callB (call_isPTr T.ec_NoPeal ec hz hf) (by rfl) T.n_isinstance (by decide +kernel) (pa_cons (pv 3) (pa_cons (pe_glob (v := .ref (clsAt K "NoPeal")) (by rfl) T.mc_NoPeal rfl) pa_nil))))) (pw_or1 (pt_val (pe_callB (call_isPTr T.ec_NoPeal ec hz hf) (by rfl) T.n_isinstance (by decide +kernel) (pa_cons (pv 3) (pa_cons (pe_glob (v := .ref (clsAt K "NoWeights")) (by rfl) T.mc_NoWeights rfl) pa_nil))))))) (pss_cons (ps_ret pe_bl) pss_nil) pss_nil) pss_nil)))) pss_no))) (pss_cons (ps_ret pe_bl) pss_nil)), ?_⟩
    refine nrm (σ' := [some v_l_kit_here, some v_l_some, none, none, none]) rfl ?_
    obtain ⟨fin1, e_fin1, hm⟩ := bs hm
    have hmo4 := hm
    refine q_forR (ea := id) (src_list (EvL.ev (el_lst (ea_consD (ev_non (K := K)) (ea_consD (ev_int (K := K)) (ea_consD (ev_bl (K := K)) (ea_consD (ev_str (K := K) (by decide +kernel)) (ea_consD (ev_str (K := K) (by decide +kernel)) (ea_consD (ev_tup (ea_nilD (K := K))) (ea_consD (EvL.ev (el_lst (ea_nilD (K := K)))) (ea_consD (EvD.ev (ed_new (K := K) (e := Dat.int))) (ea_consD (ev_d (K := K) rfl h_l_kit_here) (ea_consD (ev_ixT (d := (eT (eP2 Dat.str Dat.int)) a.1.1) rfl (ev_d (K := K) rfl h_l_kit_here) ev_int) (ea_consD (ev_d (K := K) rfl h_l_some) (ea_nilD (K := K)))))))))))))))) ok (fun (st2 : Unit) σ1 G1 M1 => ∃ (y_l_caught : Option V) (y_l_what : Option V), σ1 = [some v_l_kit_here, some v_l_some, y_l_what, y_l_caught, none] ∧ (Same M0 M1)) e_fin1 (fun G1 s1 => ⟨_, _, rfl, hB⟩) (by rintro _ _ _ _ _ ⟨y_l_caught, y_l_what, rfl, hB⟩ s2; exact ⟨_, _, rfl, hB⟩) (fun x3 xv6 st2 st' σ1 G M H N hm hret5 hj s1 ok hv hN => ?_) (fun fin1s σ1 G M H hfin s1 ok hj => ?_)
    · obtain ⟨y_l_caught, y_l_what, rfl, hB⟩ := hj
      have h_l_kit_here := dp_up s1 _ h_l_kit_here
      have h_l_some := dp_up s1 _ h_l_some
      have sg := sg.trans s1
      have sl7 := Same.refl G
      refine gn ?_
      have h_l_what := hv
      refine nrm (σ' := [some v_l_kit_here, some v_l_some, some xv6, y_l_caught, none]) rfl ?_
      refine q_set (σ' := fun v => [some v_l_kit_here, some v_l_some, some xv6, some v, none]) (ev_non (K := K)) ok (fun _ => rfl) (fun v_l_caught G H s1 ok h_l_caught => ?_)
      have h_l_kit_here := dp_up s1 _ h_l_kit_here
      have h_l_some := dp_up s1 _ h_l_some
      have h_l_what := dp_up s1 _ h_l_what
      have sg := sg.trans s1
      have sl7 := sl7.trans s1
      cases h_l_caught
      obtain ⟨t8, e_t8, hm⟩ := bs hm
      refine q_exprX (evr_callS (res := fun r => DD K (Dat.bool r)) (a := (x3, ((eT Dat.int) a.2))) e_t8 (ea_d (ev_d (K := K) rfl h_l_what) (ea_d (ev_d (K := K) rfl h_l_some) ea_nil))) ok (fun y9 ey G H s1 ok => ?_) (fun x ex d G H s1 ok hd => ?_)
      · subst ey
        have hm := orX_l hm
        cases hm
      · subst ex
        have hm := orX_r hm
        have h_l_kit_here := dp_up s1 _ h_l_kit_here
        have h_l_some := dp_up s1 _ h_l_some
        have h_l_what := dp_up s1 _ h_l_what
        have sg := sg.trans s1
        have sl7 := sl7.trans s1
        rcases exO0_of hm with ⟨rfl, hx0⟩ | hx0
        · refine q_wasK T.em_NoPeal_BellError (fun xa ha => ?_)
          have hm := hx0
          refine ⟨rfl, ?_⟩
          have h_e : XP K xa d "NoPeal" none (.ref xa) G := ⟨rfl, hd⟩
          refine nrm (σ' := [some v_l_kit_here, some v_l_some, some xv6, some (.non), some (.ref xa)]) rfl ?_
          refine q_set (σ' := fun v => [some v_l_kit_here, some v_l_some, some xv6, some v, some (.ref xa)]) (ev_x rfl h_e) ok (fun _ => rfl) (fun vx G H s1 ok hvx => ?_)
          have h_l_kit_here := dp_up s1 _ h_l_kit_here
          have h_l_some := dp_up s1 _ h_l_some
          have h_l_what := dp_up s1 _ h_l_what
          have h_e := mo_xp _ _ _ s1 h_e
          have sg := sg.trans s1
          have sl7 := sl7.trans s1
          obtain ⟨rfl, hdx⟩ := hvx
          refine q_nil ?_
          dsimp only
          refine ⟨rfl, ?_⟩
          have h_l_caught : XP K xa d "NoPeal" none (.ref xa) G := ⟨rfl, hdx⟩
          refine nrm (σ' := [some v_l_kit_here, some v_l_some, some xv6, some (.ref xa), none]) rfl ?_
          refine q_if (et_or (et_not (et_B (ev_isX T.kx_NoPeal_NoPeal (ea_cons mo_xp (ev_x (K := K) rfl h_l_caught) (ea_cons mo_clx ev_clx ea_nil))))) fun _ => (et_B (ev_isX T.kx_NoPeal_NoWeights (ea_cons mo_xp (ev_x (K := K) rfl h_l_caught) (ea_cons mo_clx ev_clx ea_nil))))) ok (fun hb G H s1 ok => ?_) (fun hb G H s1 ok => ?_)
          · have hm := cond_t hb hm
            have h_l_kit_here := dp_up s1 _ h_l_kit_here
            have h_l_some := dp_up s1 _ h_l_some
            have h_l_what := dp_up s1 _ h_l_what
            have h_l_caught := mo_xp _ _ _ s1 h_l_caught
            have sg := sg.trans s1
            have sl7 := sl7.trans s1
            refine q_ret (ev_bl (K := K)) ok (fun v G H s1 ok hv => ?_)
            have sg := sg.trans s1
            cases hm
            have hf0 := hret5 _ rfl
            rw [hf0] at hmo4
            have hmx0 := hmo4
            cases hmx0
            exact q v G H sg (ok.less hB) hv
          · have hm := cond_f hb hm
            have h_l_kit_here := dp_up s1 _ h_l_kit_here
            have h_l_some := dp_up s1 _ h_l_some
            have h_l_what := dp_up s1 _ h_l_what
            have h_l_caught := mo_xp _ _ _ s1 h_l_caught
            have sg := sg.trans s1
            have sl7 := sl7.trans s1
            refine q_nilU ?_
            refine q_nil ?_
            cases hm
            exact hN _ _ _ _ _ rfl sl7 ok ⟨_, _, rfl, hB⟩
        · cases hx0
    · obtain ⟨y_l_caught, y_l_what, rfl, hB⟩ := hj
      have h_l_kit_here := dp_up s1 _ h_l_kit_here
      have h_l_some := dp_up s1 _ h_l_some
      have sg := sg.trans s1
      rw [hfin] at hm
      have hm := orR_l hm
      refine q_ret (ev_bl (K := K)) ok (fun v G H s1 ok hv => ?_)
      have sg := sg.trans s1
      cases hm
      exact q v G H sg (ok.less hB) hv
/-! ### _law_great_right -/
theorem sc__law_great_right : FnScope ["_law_store", "_law_kit_here", "_law_table_here", "_law_found", "_law_turn", "_law_plain_here", "_law_at", "_law_more", "_law_made_here", "_law_some", "_law_bell"] ["_law_store"] (defScope s__law_great_right) := ⟨rfl, rfl, rfl, by decide +kernel, rfl, by decide +kernel, by decide +kernel⟩
def a__law_great_right (K : PySem.W.Frag) (a : Unit) : List V → Hp → Prop := nilP
def m__law_great_right (a : Unit) (z : Sto) : Option (Bool × Sto) :=
  (m__law_kit ((8 : Int), (24 : Int)) z).bind fun t1 => (m__law_table t1.1).bind fun t2 => (lcS (fun (x3 : (Str × Int)) (x3z : Sto) => (m__law_pull x3.2 x3z).bind fun t9 => some (t9.1, t9.2)) t1.1.1 t1.2).bind fun t10 => (rngO (6 : Int)).bind fun t11 => (forO (fun (st13 : (List Dat) × Sto) (x14 : Int) => (m__law_plain (t1.1, t2) st13.2).bind fun t19 => (m__law_pull (t19.1.length : Int) t19.2).bind fun t20 => (atI t19.1 t20.1).bind fun t21 => (atI t1.1.1 t20.1).bind fun t22 => (m__law_pull t22.2 t20.2).bind fun t23 => (atI t1.1.1 t20.1).bind fun t24 => (modO ((t21 + (1 : Int)) + t23.1) t24.2).bind fun t25 => (m__law_odd (t1.1, t19.1) t23.2).bind fun t26 => (catO (cut t19.1 none (some t20.1)) ([t25] : (List Int))).bind fun t27 => (catO t27 (cut t19.1 (some (t20.1 + (1 : Int))) none)).bind fun t28 => (catO st13.1 ([((eT Dat.int) t19.1), t26.1, ((eT Dat.int) t28)] : (List Dat))).bind fun t29 => some (t29, t26.2)) t11 (([((eT Dat.int) t10.1)] : (List Dat)), t10.2)).bind fun fin12 => (m__law_made t1.1).bind fun t30 => (lcO (fun x31 : Dat => (m__law_told_right (t1.1, t2, t30, x31)).bind fun t37 => some t37) fin12.1).bind fun t38 => some ((t38.all id), fin12.2)
abbrev sp__law_great_right [Tb] (K : PySem.W.Frag) : Sp := spD (a__law_great_right K) (m__law_great_right) fun r => DD K (Dat.bool r)
theorem ok__law_great_right [Tb] {P : Program} {w : World} {K : PySem.W.Frag} {mg : Str → Option Value} {base : Heap} (T : Txt K mg) (O__law_kit : FnOk P w K mg base CX0 3 T.a__law_kit T.d__law_kit ["_law_store", "_law_upto", "_law_most"] (sp__law_kit K)) (O__law_table : FnOk P w K mg base CX0 1 T.a__law_table T.d__law_table ["_law_kit_here"] (sp__law_table K)) (O__law_pull : FnOk P w K mg base CX0 1 T.a__law_pull T.d__law_pull ["_law_store", "_law_many"] (sp__law_pull K)) (O__law_plain : FnOk P w K mg base CX0 2 T.a__law_plain T.d__law_plain ["_law_store", "_law_kit_here", "_law_table_here"] (sp__law_plain K)) (O__law_odd : FnOk P w K mg base CX0 2 T.a__law_odd T.d__law_odd ["_law_store", "_law_kit_here", "_law_some"] (sp__law_odd K)) (O__law_made : FnOk P w K mg base CX0 7 T.a__law_made T.d__law_made ["_law_kit_here"] (sp__law_made K)) (O__law_told_right : FnOkG P w K mg base CX0 8 T.a__law_told_right T.d__law_told_right ["_law_kit_here", "_law_table_here", "_law_made_here", "_law_some"] (sp__law_told_right K)) : FnOkG P w K mg base CX0 (9) T.a__law_great_right T.d__law_great_right ["_law_store"] (sp__law_great_right K) := by
  refine okG T.F__law_great_right sc__law_great_right (fun vs H Q E h => ?_) (fun cdv A outer s0 H vs Q E hr hgd h => ?_)
  · obtain ⟨G, M0, s, z, z1, a, r, ws, rfl, ok, hs, rfl, hm, q⟩ := h
    rfl
  · obtain ⟨G, M0, s, z, z1, a, r, ws, rfl, ok, hs, rfl, hm, q⟩ := h
    unfold m__law_great_right at hm
    have sg := Same.refl G
    have hB : ∀ a u, a ≠ s → M0 a = some u → M0 a = some u := fun _ _ _ h => h
    refine ⟨_, (pss_cons (ps_set (i := 1) sc__law_great_right.nd rfl (.inr rfl) (pe_call O__law_kit (hr.mono (by decide)) (by rfl) T.g__law_kit T.F__law_kit.kp T.b__law_kit .nil pass0 (pa_cons (pv 0) (pa_cons pe_int (pa_cons pe_int pa_nil))))) (pss_cons (ps_asg (pe_tup (pa_cons (pe_call O__law_table (hr.mono (by decide)) (by rfl) T.g__law_table T.F__law_table.kp T.b__law_table .nil pass0 (pa_cons (pv 1) pa_nil)) (pa_cons (pe_lst (pa_cons (pe_callTy (cl_tupleK (K := K)) (by rfl) T.n_tuple (by decide +kernel) (pa_cons (pe_lc (own := [("_law_bell", 10)]) (g := (gName 10)) (tt := tYes) rfl sc__law_great_right.nd (pi_tupK (K := K) (pe_ix (ix_tupK (K := K)) (pv 1) pe_int (fun _ _ => rfl))) (blkOk_by (own := [("_law_bell", 10)]) (N := ["_law_store", "_law_kit_here", "_law_table_here", "_law_found", "_law_turn", "_law_plain_here", "_law_at", "_law_more", "_law_made_here", "_law_some", "_law_bell"]) (sc := defScope s__law_great_right) (by decide +kernel)) (fun _ _ _ _ _ => (pg_name (i := 10) sc__law_great_right.nd rfl (by first | exact .inl rfl | exact .inr rfl))) (fun _ _ _ _ _ => pts_nil) (fun _ _ _ _ _ => (pe_call O__law_pull (hr.mono (by decide)) (by rfl) T.g__law_pull T.F__law_pull.kp T.b__law_pull .nil pass0 (pa_cons (pv 0) (pa_cons (pe_ix (ix_tupK (K := K)) (pv 10) pe_int (fun _ _ => rfl)) pa_nil))))) pa_nil)) pa_nil)) pa_nil))) (pg_tup rfl (pgs_cons (pg_name (i := 2) sc__law_great_right.nd rfl (.inr rfl)) (pgs_cons (pg_name (i := 3) sc__law_great_right.nd rfl (.inl rfl)) pgs_nil)))) (pss_cons (ps_for PassesOwn.never rfl (pi_range1 (by rfl) T.n_range (pa_cons pe_int pa_nil)) (pg_name (i := 4) sc__law_great_right.nd rfl (.inl rfl)) (pss_cons (ps_set (i := 5) sc__law_great_right.nd rfl (.inl rfl) (pe_call O__law_plain (hr.mono (by decide)) (by rfl) T.g__law_plain T.F__law_plain.kp T.b__law_plain .nil pass0 (pa_cons (pv 0) (pa_cons (pv 1) (pa_cons (pv 2) pa_nil))))) (pss_cons (ps_set (i := 6) sc__law_great_right.nd rfl (.inl rfl) (pe_call O__law_pull (hr.mono (by decide)) (by rfl) T.g__law_pull T.F__law_pull.kp T.b__law_pull .nil pass0 (pa_cons (pv 0) (pa_cons (pe_callB (cl_lenK (K := K)) (by rfl) T.n_len (by decide +kernel) (pa_cons (pv 5) pa_nil)) pa_nil)))) (pss_cons (ps_set (i := 7) sc__law_great_right.nd rfl (.inl rfl) (pe_op op_modN (pe_op op_add (pe_op op_add (pe_ix (ix_tupK (K := K)) (pv 5) (pv 6) (fun _ _ => rfl)) pe_int) (pe_call O__law_pull (hr.mono (by decide)) (by rfl) T.g__law_pull T.F__law_pull.kp T.b__law_pull .nil pass0 (pa_cons (pv 0) (pa_cons (pe_ix (ix_tupK (K := K)) (pe_ix (ix_tupK (K := K)) (pe_ix (ix_tupK (K := K)) (pv 1) pe_int (fun _ _ => rfl)) (pv 6) (fun _ _ => rfl)) pe_int (fun _ _ => rfl)) pa_nil)))) (pe_ix (ix_tupK (K := K)) (pe_ix (ix_tupK (K := K)) (pe_ix (ix_tupK (K := K)) (pv 1) pe_int (fun _ _ => rfl)) (pv 6) (fun _ _ => rfl)) pe_int (fun _ _ => rfl)))) (pss_cons (ps_set (i := 3) sc__law_great_right.nd rfl (.inl rfl) (pe_op op_cat (pv 3) (pe_lst (pa_cons (pv 5) (pa_cons (pe_call O__law_odd (hr.mono (by decide)) (by rfl) T.g__law_odd T.F__law_odd.kp T.b__law_odd .nil pass0 (pa_cons (pv 0) (pa_cons (pv 1) (pa_cons (pv 5) pa_nil)))) (pa_cons (pe_op (op_catAK (K := K)) (pe_op (op_catAK (K := K)) (pe_slice (sl_tupK (K := K)) (pv 5) po_none (po_some (pv 6))) (pe_tupF (pa_cons (pv 7) pa_nil))) (pe_slice (sl_tupK (K := K)) (pv 5) (po_some (pe_op op_add (pv 6) pe_int)) po_none)) pa_nil)))))) pss_nil))))) (pss_cons (ps_set (i := 8) sc__law_great_right.nd rfl (.inr rfl) (pe_call O__law_made (hr.mono (by decide)) (by rfl) T.g__law_made T.F__law_made.kp T.b__law_made .nil pass0 (pa_cons (pv 1) pa_nil))) (pss_cons (ps_ret (pe_callB (cr_allK (K := K) rfl) (by rfl) T.n_all (by decide +kernel) (pa_cons (pe_lc (own := [("_law_some", 9)]) (g := (gName 9)) (tt := tYes) rfl sc__law_great_right.nd (pi_listK (K := K) (pv 3)) (blkOk_by (own := [("_law_some", 9)]) (N := ["_law_store", "_law_kit_here", "_law_table_here", "_law_found", "_law_turn", "_law_plain_here", "_law_at", "_law_more", "_law_made_here", "_law_some", "_law_bell"]) (sc := defScope s__law_great_right) (by decide +kernel)) (fun _ _ _ _ _ => (pg_name (i := 9) sc__law_great_right.nd rfl (by first | exact .inl rfl | exact .inr rfl))) (fun _ _ _ _ _ => pts_nil) (fun _ _ _ _ _ => (pe_callG O__law_told_right hgd (hr.mono (by decide)) (by rfl) T.g__law_told_right T.F__law_told_right.kp T.b__law_told_right .nil pass0 (pa_cons (pv 1) (pa_cons (pv 2) (pa_cons (pv 8) (pa_cons (pv 9) pa_nil))))))) pa_nil))) pss_nil))))), ?_⟩
    refine nrm (σ' := [some (.ref s), none, none, none, none, none, none, none, none, none, none]) rfl ?_
    obtain ⟨t1, e_t1, hm⟩ := bs hm
    refine q_set (σ' := fun v => [some (.ref s), some v, none, none, none, none, none, none, none, none, none]) (ev_callD (a := ((8 : Int), (24 : Int))) (r := t1.1) (z' := t1.2) hs e_t1 (ea_cons mo_ow (ev_own rfl) (ea_d (ev_int (K := K)) (ea_d (ev_int (K := K)) ea_nil)))) ok (fun _ => rfl) (fun v_l_kit_here G H s1 ok h_l_kit_here => ?_)
    have sg := sg.trans s1
    have ok : Ok _ (upd M0 s (sto t1.2)) _ := ok
    have hs : (upd M0 s (sto t1.2)) s = some (sto t1.2) := upd_same
    have hB : ∀ a u, a ≠ s → M0 a = some u → (upd M0 s (sto t1.2)) a = some u := (hB_draw hB)
    obtain ⟨M, eM⟩ : ∃ m, m = (upd M0 s (sto t1.2)) := ⟨_, rfl⟩
    rw [← eM] at ok hs hB
    clear eM
    obtain ⟨t2, e_t2, hm⟩ := bs hm
    obtain ⟨t10, e_t10, hm⟩ := bs hm
    refine q_tupDD (σ' := fun v w => [some (.ref s), some v_l_kit_here, some v, some w, none, none, none, none, none, none, none]) (EvP.ev (ep_callF (e := Dat.int) (a := t1.1) e_t2 (ea_d (ev_d (K := K) rfl h_l_kit_here) ea_nil))) mo_dd (EvL.ev (el_lst (ea_consD (ev_tupL (ea_d (EvL.ev (el_lcMD (ea := (eP2 Dat.str Dat.int)) (eb := Dat.int) (xs := t1.1.1) (r := t10) (hf := e_t10) (src_tup (ev_ixT (d := (eT (eP2 Dat.str Dat.int)) t1.1.1) rfl (ev_d (K := K) rfl h_l_kit_here) ev_int)) hs (fun x3 _ x3z _ Mx7 _ _ he8 sM6 hzx3 sG5 hv4 => by (obtain ⟨t9, e_t9, he8⟩ := bs he8); cases he8; exact (tg_name ⟨rfl, (ev_callD (a := x3.2) (r := t9.1) (z' := t9.2) hzx3 e_t9 (ea_cons mo_ow (ev_own rfl) (ea_d (ev_ixT (d := Dat.int x3.2) rfl (ev_d (K := K) rfl hv4) ev_int) ea_nil)))⟩)))) ea_nil)) (ea_nilD (K := K))))) mo_dd ok (fun _ _ => rfl) (fun v_l_table_here v_l_found G H s1 ok h_l_table_here h_l_found => ?_)
    have h_l_kit_here := dp_up s1 _ h_l_kit_here
    have sg := sg.trans s1
    have ok : Ok _ (upd M s (sto t10.2)) _ := ok
    have hs : (upd M s (sto t10.2)) s = some (sto t10.2) := upd_same
    have hB : ∀ a u, a ≠ s → M0 a = some u → (upd M s (sto t10.2)) a = some u := (hB_draw hB)
    obtain ⟨M, eM⟩ : ∃ m, m = (upd M s (sto t10.2)) := ⟨_, rfl⟩
    rw [← eM] at ok hs hB
    clear eM
    obtain ⟨t11, e_t11, hm⟩ := bs hm
    obtain ⟨fin12, e_fin12, hm⟩ := bs hm
    have hmo15 := hm
    refine q_forO (ea := Dat.int) (src_rngO e_t11 (ea_d (ev_int (K := K)) ea_nil)) ok (fun (st13 : (List Dat) × Sto) σ1 G1 M1 => ∃ (y_l_plain_here : Option V) (y_l_at : Option V) (y_l_more : Option V) (y_l_turn : Option V) (v_l_found : V), σ1 = [some (.ref s), some v_l_kit_here, some v_l_table_here, some v_l_found, y_l_turn, y_l_plain_here, y_l_at, y_l_more, none, none, none] ∧ (Dq K G1 v_l_found ((eL id) st13.1)) ∧ (M1 s = some (sto st13.2)) ∧ (∀ a u, a ≠ s → M0 a = some u → M1 a = some u)) e_fin12 (fun G1 s1 => ⟨_, _, _, _, _, rfl, dp_up s1 _ h_l_found, hs, hB⟩) (by rintro _ _ _ _ _ ⟨y_l_plain_here, y_l_at, y_l_more, y_l_turn, v_l_found, rfl, h_l_found, hs, hB⟩ s2; exact ⟨_, _, _, _, _, rfl, dp_up s2 _ h_l_found, hs, hB⟩) (fun x14 xv17 st13 st' σ1 G M H N hm hj s1 ok hv hN => ?_) (fun σ1 G M H s1 ok hj => ?_)
    · obtain ⟨y_l_plain_here, y_l_at, y_l_more, y_l_turn, v_l_found, rfl, h_l_found, hs, hB⟩ := hj
      have h_l_kit_here := dp_up s1 _ h_l_kit_here
      have h_l_table_here := dp_up s1 _ h_l_table_here
      have sg := sg.trans s1
      have sl18 := Same.refl G
      refine gn ?_
      have h_l_turn := hv
      cases h_l_turn
      refine nrm (σ' := [some (.ref s), some v_l_kit_here, some v_l_table_here, some v_l_found, some (.int x14), y_l_plain_here, y_l_at, y_l_more, none, none, none]) rfl ?_
      obtain ⟨t19, e_t19, hm⟩ := bs hm
      refine q_set (σ' := fun v => [some (.ref s), some v_l_kit_here, some v_l_table_here, some v_l_found, some (.int x14), some v, y_l_at, y_l_more, none, none, none]) (ev_callD (a := (t1.1, t2)) (r := t19.1) (z' := t19.2) hs e_t19 (ea_cons mo_ow (ev_own rfl) (ea_d (ev_d (K := K) rfl h_l_kit_here) (ea_d (ev_d (K := K) rfl h_l_table_here) ea_nil)))) ok (fun _ => rfl) (fun v_l_plain_here G H s1 ok h_l_plain_here => ?_)
      have h_l_kit_here := dp_up s1 _ h_l_kit_here
      have h_l_table_here := dp_up s1 _ h_l_table_here
      have h_l_found := dp_up s1 _ h_l_found
      have sg := sg.trans s1
      have sl18 := sl18.trans s1
      have ok : Ok _ (upd M s (sto t19.2)) _ := ok
      have hs : (upd M s (sto t19.2)) s = some (sto t19.2) := upd_same
      have hB : ∀ a u, a ≠ s → M0 a = some u → (upd M s (sto t19.2)) a = some u := (hB_draw hB)
      obtain ⟨M, eM⟩ : ∃ m, m = (upd M s (sto t19.2)) := ⟨_, rfl⟩
      rw [← eM] at ok hs hB
      clear eM
      obtain ⟨t20, e_t20, hm⟩ := bs hm
      refine q_set (σ' := fun v => [some (.ref s), some v_l_kit_here, some v_l_table_here, some v_l_found, some (.int x14), some v_l_plain_here, some v, y_l_more, none, none, none]) (ev_callD (a := (t19.1.length : Int)) (r := t20.1) (z' := t20.2) hs e_t20 (ea_cons mo_ow (ev_own rfl) (ea_d (ev_lenTM (e := Dat.int) (ea_d (ev_d (K := K) rfl h_l_plain_here) ea_nil)) ea_nil))) ok (fun _ => rfl) (fun v_l_at G H s1 ok h_l_at => ?_)
      have h_l_kit_here := dp_up s1 _ h_l_kit_here
      have h_l_table_here := dp_up s1 _ h_l_table_here
      have h_l_found := dp_up s1 _ h_l_found
      have h_l_plain_here := dp_up s1 _ h_l_plain_here
      have sg := sg.trans s1
      have sl18 := sl18.trans s1
      cases h_l_at
      have ok : Ok _ (upd M s (sto t20.2)) _ := ok
      have hs : (upd M s (sto t20.2)) s = some (sto t20.2) := upd_same
      have hB : ∀ a u, a ≠ s → M0 a = some u → (upd M s (sto t20.2)) a = some u := (hB_draw hB)
      obtain ⟨M, eM⟩ : ∃ m, m = (upd M s (sto t20.2)) := ⟨_, rfl⟩
      rw [← eM] at ok hs hB
      clear eM
      obtain ⟨t21, e_t21, hm⟩ := bs hm
      obtain ⟨t22, e_t22, hm⟩ := bs hm
      obtain ⟨t23, e_t23, hm⟩ := bs hm
      obtain ⟨t24, e_t24, hm⟩ := bs hm
      obtain ⟨t25, e_t25, hm⟩ := bs hm
      refine q_set (σ' := fun v => [some (.ref s), some v_l_kit_here, some v_l_table_here, some v_l_found, some (.int x14), some v_l_plain_here, some (.int t20.1), some v, none, none, none]) (ev_modO e_t25 (ev_add (ev_add (ev_ixTM (e := Dat.int) e_t21 (ev_d (K := K) rfl h_l_plain_here) (ev_d (K := K) rfl (.int _))) (ev_int (K := K))) (ev_callD (a := t22.2) (r := t23.1) (z' := t23.2) hs e_t23 (ea_cons mo_ow (ev_own rfl) (ea_d (ev_ixT (d := Dat.int t22.2) rfl (ev_ixTM (e := (eP2 Dat.str Dat.int)) e_t22 (ev_ixT (d := (eT (eP2 Dat.str Dat.int)) t1.1.1) rfl (ev_d (K := K) rfl h_l_kit_here) ev_int) (ev_d (K := K) rfl (.int _))) ev_int) ea_nil)))) (ev_ixT (d := Dat.int t24.2) rfl (ev_ixTM (e := (eP2 Dat.str Dat.int)) e_t24 (ev_ixT (d := (eT (eP2 Dat.str Dat.int)) t1.1.1) rfl (ev_d (K := K) rfl h_l_kit_here) ev_int) (ev_d (K := K) rfl (.int _))) ev_int)) ok (fun _ => rfl) (fun v_l_more G H s1 ok h_l_more => ?_)
      have h_l_kit_here := dp_up s1 _ h_l_kit_here
      have h_l_table_here := dp_up s1 _ h_l_table_here
      have h_l_found := dp_up s1 _ h_l_found
      have h_l_plain_here := dp_up s1 _ h_l_plain_here
      have sg := sg.trans s1
      have sl18 := sl18.trans s1
      cases h_l_more
      have ok : Ok _ (upd M s (sto t23.2)) _ := ok
      have hs : (upd M s (sto t23.2)) s = some (sto t23.2) := upd_same
      have hB : ∀ a u, a ≠ s → M0 a = some u → (upd M s (sto t23.2)) a = some u := (hB_draw hB)
      obtain ⟨M, eM⟩ : ∃ m, m = (upd M s (sto t23.2)) := ⟨_, rfl⟩
      rw [← eM] at ok hs hB
      clear eM
      obtain ⟨t26, e_t26, hm⟩ := bs hm
      obtain ⟨t27, e_t27, hm⟩ := bs hm
      obtain ⟨t28, e_t28, hm⟩ := bs hm
      obtain ⟨t29, e_t29, hm⟩ := bs hm
      refine q_set (σ' := fun v => [some (.ref s), some v_l_kit_here, some v_l_table_here, some v, some (.int x14), some v_l_plain_here, some (.int t20.1), some (.int t25), none, none, none]) (EvL.ev (el_catO (e := id) e_t29 (ev_d (K := K) rfl h_l_found) (EvL.ev (el_lst (ea_consD (ev_d (K := K) rfl h_l_plain_here) (ea_consD (ev_callD (a := (t1.1, t19.1)) (r := t26.1) (z' := t26.2) hs e_t26 (ea_cons mo_ow (ev_own rfl) (ea_d (ev_d (K := K) rfl h_l_kit_here) (ea_d (ev_d (K := K) rfl h_l_plain_here) ea_nil)))) (ea_consD (ev_catTO (e := Dat.int) e_t28 (ev_catTO (e := Dat.int) e_t27 (ev_slTM (e := Dat.int) (ev_d (K := K) rfl h_l_plain_here) eo_none (eo_some (ev_d (K := K) rfl (.int _)))) (ev_tup (ea_consD (ev_d (K := K) rfl (.int _)) (ea_nilD (K := K))))) (ev_slTM (e := Dat.int) (ev_d (K := K) rfl h_l_plain_here) (eo_some (ev_add (ev_d (K := K) rfl (.int _)) (ev_int (K := K)))) eo_none)) (ea_nilD (K := K))))))))) ok (fun _ => rfl) (fun v_l_found G H s1 ok h_l_found => ?_)
      have h_l_kit_here := dp_up s1 _ h_l_kit_here
      have h_l_table_here := dp_up s1 _ h_l_table_here
      have h_l_plain_here := dp_up s1 _ h_l_plain_here
      have sg := sg.trans s1
      have sl18 := sl18.trans s1
      have ok : Ok _ (upd M s (sto t26.2)) _ := ok
      have hs : (upd M s (sto t26.2)) s = some (sto t26.2) := upd_same
      have hB : ∀ a u, a ≠ s → M0 a = some u → (upd M s (sto t26.2)) a = some u := (hB_draw hB)
      obtain ⟨M, eM⟩ : ∃ m, m = (upd M s (sto t26.2)) := ⟨_, rfl⟩
      rw [← eM] at ok hs hB
      clear eM
      refine q_nil ?_
      cases hm
      exact hN _ _ _ _ sl18 ok ⟨_, _, _, _, _, rfl, h_l_found, hs, hB⟩
    · obtain ⟨y_l_plain_here, y_l_at, y_l_more, y_l_turn, v_l_found, rfl, h_l_found, hs, hB⟩ := hj
      have h_l_kit_here := dp_up s1 _ h_l_kit_here
      have h_l_table_here := dp_up s1 _ h_l_table_here
      have sg := sg.trans s1
      obtain ⟨t30, e_t30, hm⟩ := bs hm
      refine q_set (σ' := fun v => [some (.ref s), some v_l_kit_here, some v_l_table_here, some v_l_found, y_l_turn, y_l_plain_here, y_l_at, y_l_more, some v, none, none]) (ev_callP (res := fun r => DD K (eX_Peal r)) (a := t1.1) e_t30 (ea_d (ev_d (K := K) rfl h_l_kit_here) ea_nil)) ok (fun _ => rfl) (fun v_l_made_here G H s1 ok h_l_made_here => ?_)
      have h_l_kit_here := dp_up s1 _ h_l_kit_here
      have h_l_table_here := dp_up s1 _ h_l_table_here
      have h_l_found := dp_up s1 _ h_l_found
      have sg := sg.trans s1
      obtain ⟨t38, e_t38, hm⟩ := bs hm
      refine q_ret (ev_allL (ea_d (EvL.ev (el_lcM (ea := id) (eb := Dat.bool) (xs := fin12.1) (ys := t38) (hf := e_t38) (src_list (ev_d (K := K) rfl h_l_found)) (fun x31 _ Mx35 _ _ he36 sM34 sG33 hv32 => by (obtain ⟨t37, e_t37, he36⟩ := bs he36); (have he36 := Option.some.inj he36); subst he36; exact (tg_name ⟨rfl, (ev_callP (res := fun r => DD K (Dat.bool r)) (a := (t1.1, t2, t30, x31)) e_t37 (ea_d (ev_d (K := K) rfl (dp_up sG33 _ h_l_kit_here)) (ea_d (ev_d (K := K) rfl (dp_up sG33 _ h_l_table_here)) (ea_d (ev_d (K := K) rfl (dp_up sG33 _ h_l_made_here)) (ea_d (ev_d (K := K) rfl hv32) ea_nil)))))⟩)))) ea_nil)) ok (fun v G H s1 ok hv => ?_)
      have sg := sg.trans s1
      cases hm
      exact q v G H sg (ok.less (same_fin hB hs)) hv
/-! ### _law_right -/
theorem sc__law_right : FnScope ["_law_store", "_law_kit_here", "_law_table_here", "_law_made_here", "_law_found", "_law_turn", "_law_some"] ["_law_store"] (defScope s__law_right) := ⟨rfl, rfl, rfl, by decide +kernel, rfl, by decide +kernel, by decide +kernel⟩
def a__law_right (K : PySem.W.Frag) (a : Unit) : List V → Hp → Prop := nilP
def m__law_right (a : Unit) (z : Sto) : Option (Bool × Sto) :=
  (m__law_kit ((3 : Int), (6 : Int)) z).bind fun t1 => (m__law_table t1.1).bind fun t2 => (m__law_made t1.1).bind fun t3 => (m__law_all t1.1).bind fun t4 => (lcO (fun x5 : (List Int) => (m__law_told_right (t1.1, t2, t3, ((eT Dat.int) x5))).bind fun t11 => some t11) t4).bind fun t12 => cond (!(t12.all id)) (some (false, t1.2)) ((rngO (8 : Int)).bind fun t13 => (forR (R := Bool × Sto) (fun (st15 : Sto) (x16 : Int) => (m__law_pull (t4.length : Int) st15).bind fun t21 => (atI t4 t21.1).bind fun t22 => (m__law_odd (t1.1, t22) t21.2).bind fun t23 => (m__law_told_right (t1.1, t2, t3, t23.1)).bind fun t24 => cond (!t24) (some (.inr (false, t23.2))) (some (.inl t23.2))) t13 t1.2).bind fun fin14 => orR fin14 (fun fin14s => (atI t4 (0 : Int)).bind fun t25 => (m__law_none_right (t1.1, t25)).bind fun t26 => (cond t26 ((m__law_great_right () fin14s).bind fun t27 => some (t27.1, t27.2)) (some (false, fin14s))).bind fun t28 => some (t28.1, t28.2)) (fun r => some r))
abbrev sp__law_right [Tb] (K : PySem.W.Frag) : Sp := spD (a__law_right K) (m__law_right) fun r => DD K (Dat.bool r)
theorem ok__law_right [Tb] {P : Program} {w : World} {K : PySem.W.Frag} {mg : Str → Option Value} {base : Heap} (T : Txt K mg) (O__law_kit : FnOk P w K mg base CX0 3 T.a__law_kit T.d__law_kit ["_law_store", "_law_upto", "_law_most"] (sp__law_kit K)) (O__law_table : FnOk P w K mg base CX0 1 T.a__law_table T.d__law_table ["_law_kit_here"] (sp__law_table K)) (O__law_made : FnOk P w K mg base CX0 7 T.a__law_made T.d__law_made ["_law_kit_here"] (sp__law_made K)) (O__law_all : FnOk P w K mg base CX0 1 T.a__law_all T.d__law_all ["_law_kit_here"] (sp__law_all K)) (O__law_told_right : FnOkG P w K mg base CX0 8 T.a__law_told_right T.d__law_told_right ["_law_kit_here", "_law_table_here", "_law_made_here", "_law_some"] (sp__law_told_right K)) (O__law_odd : FnOk P w K mg base CX0 2 T.a__law_odd T.d__law_odd ["_law_store", "_law_kit_here", "_law_some"] (sp__law_odd K)) (O__law_pull : FnOk P w K mg base CX0 1 T.a__law_pull T.d__law_pull ["_law_store", "_law_many"] (sp__law_pull K)) (O__law_none_right : FnOk P w K mg base CX0 9 T.a__law_none_right T.d__law_none_right ["_law_kit_here", "_law_some"] (sp__law_none_right K)) (O__law_great_right : FnOkG P w K mg base CX0 9 T.a__law_great_right T.d__law_great_right ["_law_store"] (sp__law_great_right K)) : FnOkG P w K mg base CX0 (10) T.a__law_right T.d__law_right ["_law_store"] (sp__law_right K) := by
  refine okG T.F__law_right sc__law_right (fun vs H Q E h => ?_) (fun cdv A outer s0 H vs Q E hr hgd h => ?_)
  · obtain ⟨G, M0, s, z, z1, a, r, ws, rfl, ok, hs, rfl, hm, q⟩ := h
    rfl
  · obtain ⟨G, M0, s, z, z1, a, r, ws, rfl, ok, hs, rfl, hm, q⟩ := h
    unfold m__law_right at hm
    have sg := Same.refl G
    have hB : ∀ a u, a ≠ s → M0 a = some u → M0 a = some u := fun _ _ _ h => h
    refine ⟨_, (pss_cons (ps_set (i := 1) sc__law_right.nd rfl (.inr rfl) (pe_call O__law_kit (hr.mono (by decide)) (by rfl) T.g__law_kit T.F__law_kit.kp T.b__law_kit .nil pass0 (pa_cons (pv 0) (pa_cons pe_int (pa_cons pe_int pa_nil))))) (pss_cons (ps_asg (pe_tup (pa_cons (pe_call O__law_table (hr.mono (by decide)) (by rfl) T.g__law_table T.F__law_table.kp T.b__law_table .nil pass0 (pa_cons (pv 1) pa_nil)) (pa_cons (pe_call O__law_made (hr.mono (by decide)) (by rfl) T.g__law_made T.F__law_made.kp T.b__law_made .nil pass0 (pa_cons (pv 1) pa_nil)) pa_nil))) (pg_tup rfl (pgs_cons (pg_name (i := 2) sc__law_right.nd rfl (.inr rfl)) (pgs_cons (pg_name (i := 3) sc__law_right.nd rfl (.inr rfl)) pgs_nil)))) (pss_cons (ps_set (i := 4) sc__law_right.nd rfl (.inl rfl) (pe_call O__law_all (hr.mono (by decide)) (by rfl) T.g__law_all T.F__law_all.kp T.b__law_all .nil pass0 (pa_cons (pv 1) pa_nil))) (pss_cons (ps_if (pt_not (pt_val (pe_callB (cr_allK (K := K) rfl) (by rfl) T.n_all (by decide +kernel) (pa_cons (pe_lc (own := [("_law_some", 6)]) (g := (gName 6)) (tt := tYes) rfl sc__law_right.nd (pi_listK (K := K) (pv 4)) (blkOk_by (own := [("_law_some", 6)]) (N := ["_law_store", "_law_kit_here", "_law_table_here", "_law_made_here", "_law_found", "_law_turn", "_law_some"]) (sc := defScope s__law_right) (by decide +kernel)) (fun _ _ _ _ _ => (pg_name (i := 6) sc__law_right.nd rfl (by first | exact .inl rfl | exact .inr rfl))) (fun _ _ _ _ _ => pts_nil) (fun _ _ _ _ _ => (pe_callG O__law_told_right hgd (hr.mono (by decide)) (by rfl) T.g__law_told_right T.F__law_told_right.kp T.b__law_told_right .nil pass0 (pa_cons (pv 1) (pa_cons (pv 2) (pa_cons (pv 3) (pa_cons (pv 6) pa_nil))))))) pa_nil)))) (pss_cons (ps_ret pe_bl) pss_nil) pss_nil) (pss_cons (ps_for PassesOwn.never rfl (pi_range1 (by rfl) T.n_range (pa_cons pe_int pa_nil)) (pg_name (i := 5) sc__law_right.nd rfl (.inl rfl)) (pss_cons (ps_if (pt_not (pt_val (pe_callG O__law_told_right hgd (hr.mono (by decide)) (by rfl) T.g__law_told_right T.F__law_told_right.kp T.b__law_told_right .nil pass0 (pa_cons (pv 1) (pa_cons (pv 2) (pa_cons (pv 3) (pa_cons (pe_call O__law_odd (hr.mono (by decide)) (by rfl) T.g__law_odd T.F__law_odd.kp T.b__law_odd .nil pass0 (pa_cons (pv 0) (pa_cons (pv 1) (pa_cons (pe_ix (ix_listK (K := K)) (pv 4) (pe_call O__law_pull (hr.mono (by decide)) (by rfl) T.g__law_pull T.F__law_pull.kp T.b__law_pull .nil pass0 (pa_cons (pv 0) (pa_cons (pe_callB (cl_lenK (K := K)) (by rfl) T.n_len (by decide +kernel) (pa_cons (pv 4) pa_nil)) pa_nil))) (fun _ _ => rfl)) pa_nil)))) pa_nil))))))) (pss_cons (ps_ret pe_bl) pss_nil) pss_nil) pss_nil)) (pss_cons (ps_ret (pe_and (pe_call O__law_none_right (hr.mono (by decide)) (by rfl) T.g__law_none_right T.F__law_none_right.kp T.b__law_none_right .nil pass0 (pa_cons (pv 1) (pa_cons (pe_ix (ix_listK (K := K)) (pv 4) pe_int (fun _ _ => rfl)) pa_nil))) (pe_one (pe_callG O__law_great_right hgd (hr.mono (by decide)) (by rfl) T.g__law_great_right T.F__law_great_right.kp T.b__law_great_right .nil pass0 (pa_cons (pv 0) pa_nil))))) pss_nil)))))), ?_⟩
    refine nrm (σ' := [some (.ref s), none, none, none, none, none, none]) rfl ?_
    obtain ⟨t1, e_t1, hm⟩ := bs hm
    refine q_set (σ' := fun v => [some (.ref s), some v, none, none, none, none, none]) (ev_callD (a := ((3 : Int), (6 : Int))) (r := t1.1) (z' := t1.2) hs e_t1 (ea_cons mo_ow (ev_own rfl) (ea_d (ev_int (K := K)) (ea_d (ev_int (K := K)) ea_nil)))) ok (fun _ => rfl) (fun v_l_kit_here G H s1 ok h_l_kit_here => ?_)
    have sg := sg.trans s1
    have ok : Ok _ (upd M0 s (sto t1.2)) _ := ok
    have hs : (upd M0 s (sto t1.2)) s = some (sto t1.2) := upd_same
    have hB : ∀ a u, a ≠ s → M0 a = some u → (upd M0 s (sto t1.2)) a = some u := (hB_draw hB)
    obtain ⟨M, eM⟩ : ∃ m, m = (upd M0 s (sto t1.2)) := ⟨_, rfl⟩
    rw [← eM] at ok hs hB
    clear eM
    obtain ⟨t2, e_t2, hm⟩ := bs hm
    obtain ⟨t3, e_t3, hm⟩ := bs hm
    refine q_tupDD (σ' := fun v w => [some (.ref s), some v_l_kit_here, some v, some w, none, none, none]) (EvP.ev (ep_callF (e := Dat.int) (a := t1.1) e_t2 (ea_d (ev_d (K := K) rfl h_l_kit_here) ea_nil))) mo_dd (ev_callP (res := fun r => DD K (eX_Peal r)) (a := t1.1) e_t3 (ea_d (ev_d (K := K) rfl h_l_kit_here) ea_nil)) mo_dd ok (fun _ _ => rfl) (fun v_l_table_here v_l_made_here G H s1 ok h_l_table_here h_l_made_here => ?_)
    have h_l_kit_here := dp_up s1 _ h_l_kit_here
    have sg := sg.trans s1
    obtain ⟨t4, e_t4, hm⟩ := bs hm
    refine q_set (σ' := fun v => [some (.ref s), some v_l_kit_here, some v_l_table_here, some v_l_made_here, some v, none, none]) (ev_callP (res := fun r => DD K ((eL (eT Dat.int)) r)) (a := t1.1) e_t4 (ea_d (ev_d (K := K) rfl h_l_kit_here) ea_nil)) ok (fun _ => rfl) (fun v_l_found G H s1 ok h_l_found => ?_)
    have h_l_kit_here := dp_up s1 _ h_l_kit_here
    have h_l_table_here := dp_up s1 _ h_l_table_here
    have h_l_made_here := dp_up s1 _ h_l_made_here
    have sg := sg.trans s1
    obtain ⟨t12, e_t12, hm⟩ := bs hm
    refine q_if (et_not (et_B (ev_allL (ea_d (EvL.ev (el_lcM (ea := (eT Dat.int)) (eb := Dat.bool) (xs := t4) (ys := t12) (hf := e_t12) (src_list (ev_d (K := K) rfl h_l_found)) (fun x5 _ Mx9 _ _ he10 sM8 sG7 hv6 => by (obtain ⟨t11, e_t11, he10⟩ := bs he10); (have he10 := Option.some.inj he10); subst he10; exact (tg_name ⟨rfl, (ev_callP (res := fun r => DD K (Dat.bool r)) (a := (t1.1, t2, t3, ((eT Dat.int) x5))) e_t11 (ea_d (ev_d (K := K) rfl (dp_up sG7 _ h_l_kit_here)) (ea_d (ev_d (K := K) rfl (dp_up sG7 _ h_l_table_here)) (ea_d (ev_d (K := K) rfl (dp_up sG7 _ h_l_made_here)) (ea_d (ev_d (K := K) rfl hv6) ea_nil)))))⟩)))) ea_nil)))) ok (fun hb G H s1 ok => ?_) (fun hb G H s1 ok => ?_)
    · have hm := cond_t hb hm
      have h_l_kit_here := dp_up s1 _ h_l_kit_here
      have h_l_table_here := dp_up s1 _ h_l_table_here
      have h_l_made_here := dp_up s1 _ h_l_made_here
      have h_l_found := dp_up s1 _ h_l_found
      have sg := sg.trans s1
      refine q_ret (ev_bl (K := K)) ok (fun v G H s1 ok hv => ?_)
      have sg := sg.trans s1
      cases hm
      exact q v G H sg (ok.less (same_fin hB hs)) hv
    · have hm := cond_f hb hm
      have h_l_kit_here := dp_up s1 _ h_l_kit_here
      have h_l_table_here := dp_up s1 _ h_l_table_here
      have h_l_made_here := dp_up s1 _ h_l_made_here
      have h_l_found := dp_up s1 _ h_l_found
      have sg := sg.trans s1
      refine q_nilU ?_
      obtain ⟨t13, e_t13, hm⟩ := bs hm
      obtain ⟨fin14, e_fin14, hm⟩ := bs hm
      have hmo17 := hm
      refine q_forR (ea := Dat.int) (src_rngO e_t13 (ea_d (ev_int (K := K)) ea_nil)) ok (fun (st15 : Sto) σ1 G1 M1 => ∃ (y_l_turn : Option V), σ1 = [some (.ref s), some v_l_kit_here, some v_l_table_here, some v_l_made_here, some v_l_found, y_l_turn, none] ∧ (M1 s = some (sto st15)) ∧ (∀ a u, a ≠ s → M0 a = some u → M1 a = some u)) e_fin14 (fun G1 s1 => ⟨_, rfl, hs, hB⟩) (by rintro _ _ _ _ _ ⟨y_l_turn, rfl, hs, hB⟩ s2; exact ⟨_, rfl, hs, hB⟩) (fun x16 xv19 st15 st' σ1 G M H N hm hret18 hj s1 ok hv hN => ?_) (fun fin14s σ1 G M H hfin s1 ok hj => ?_)
      · obtain ⟨y_l_turn, rfl, hs, hB⟩ := hj
        have h_l_kit_here := dp_up s1 _ h_l_kit_here
        have h_l_table_here := dp_up s1 _ h_l_table_here
        have h_l_made_here := dp_up s1 _ h_l_made_here
        have h_l_found := dp_up s1 _ h_l_found
        have sg := sg.trans s1
        have sl20 := Same.refl G
        refine gn ?_
        have h_l_turn := hv
        cases h_l_turn
        refine nrm (σ' := [some (.ref s), some v_l_kit_here, some v_l_table_here, some v_l_made_here, some v_l_found, some (.int x16), none]) rfl ?_
        obtain ⟨t21, e_t21, hm⟩ := bs hm
        obtain ⟨t22, e_t22, hm⟩ := bs hm
        obtain ⟨t23, e_t23, hm⟩ := bs hm
        obtain ⟨t24, e_t24, hm⟩ := bs hm
        refine q_if (et_not (et_B (ev_callP (res := fun r => DD K (Dat.bool r)) (a := (t1.1, t2, t3, t23.1)) e_t24 (ea_d (ev_d (K := K) rfl h_l_kit_here) (ea_d (ev_d (K := K) rfl h_l_table_here) (ea_d (ev_d (K := K) rfl h_l_made_here) (ea_d (ev_callD (a := (t1.1, t22)) (r := t23.1) (z' := t23.2) upd_same e_t23 (ea_cons mo_ow (ev_own rfl) (ea_d (ev_d (K := K) rfl h_l_kit_here) (ea_d (ev_ixLM (e := (eT Dat.int)) e_t22 (ev_d (K := K) rfl h_l_found) (ev_callD (a := (t4.length : Int)) (r := t21.1) (z' := t21.2) hs e_t21 (ea_cons mo_ow (ev_own rfl) (ea_d (ev_lenLM (e := (eT Dat.int)) (ea_d (ev_d (K := K) rfl h_l_found) ea_nil)) ea_nil)))) ea_nil)))) ea_nil))))))) ok (fun hb G H s1 ok => ?_) (fun hb G H s1 ok => ?_)
        · have hm := cond_t hb hm
          have h_l_kit_here := dp_up s1 _ h_l_kit_here
          have h_l_table_here := dp_up s1 _ h_l_table_here
          have h_l_made_here := dp_up s1 _ h_l_made_here
          have h_l_found := dp_up s1 _ h_l_found
          have sg := sg.trans s1
          have sl20 := sl20.trans s1
          have ok : Ok _ (upd (upd M s (sto t21.2)) s (sto t23.2)) _ := ok
          have hs : (upd (upd M s (sto t21.2)) s (sto t23.2)) s = some (sto t23.2) := upd_same
          have hB : ∀ a u, a ≠ s → M0 a = some u → (upd (upd M s (sto t21.2)) s (sto t23.2)) a = some u := (hB_draw (hB_draw hB))
          obtain ⟨M, eM⟩ : ∃ m, m = (upd (upd M s (sto t21.2)) s (sto t23.2)) := ⟨_, rfl⟩
          rw [← eM] at ok hs hB
          clear eM
          refine q_ret (ev_bl (K := K)) ok (fun v G H s1 ok hv => ?_)
          have sg := sg.trans s1
          cases hm
          have hf0 := hret18 _ rfl
          rw [hf0] at hmo17
          have hmx0 := hmo17
          cases hmx0
          exact q v G H sg (ok.less (same_fin hB hs)) hv
        · have hm := cond_f hb hm
          have h_l_kit_here := dp_up s1 _ h_l_kit_here
          have h_l_table_here := dp_up s1 _ h_l_table_here
          have h_l_made_here := dp_up s1 _ h_l_made_here
          have h_l_found := dp_up s1 _ h_l_found
          have sg := sg.trans s1
          have sl20 := sl20.trans s1
          have ok : Ok _ (upd (upd M s (sto t21.2)) s (sto t23.2)) _ := ok
          have hs : (upd (upd M s (sto t21.2)) s (sto t23.2)) s = some (sto t23.2) := upd_same
          have hB : ∀ a u, a ≠ s → M0 a = some u → (upd (upd M s (sto t21.2)) s (sto t23.2)) a = some u := (hB_draw (hB_draw hB))
          obtain ⟨M, eM⟩ : ∃ m, m = (upd (upd M s (sto t21.2)) s (sto t23.2)) := ⟨_, rfl⟩
          rw [← eM] at ok hs hB
          clear eM
          refine q_nilU ?_
          refine q_nil ?_
          cases hm
          exact hN _ _ _ _ _ rfl sl20 ok ⟨_, rfl, hs, hB⟩
      · obtain ⟨y_l_turn, rfl, hs, hB⟩ := hj
        have h_l_kit_here := dp_up s1 _ h_l_kit_here
        have h_l_table_here := dp_up s1 _ h_l_table_here
        have h_l_made_here := dp_up s1 _ h_l_made_here
        have h_l_found := dp_up s1 _ h_l_found
        have sg := sg.trans s1
        rw [hfin] at hm
        have hm := orR_l hm
        obtain ⟨t25, e_t25, hm⟩ := bs hm
        obtain ⟨t26, e_t26, hm⟩ := bs hm
        obtain ⟨t28, e_t28, hm⟩ := bs hm
        refine q_ret (ev_andG (c := t28.1) (M2 := upd M s (sto t28.2)) (ev_callP (res := fun r => DD K (Dat.bool r)) (a := (t1.1, t25)) e_t26 (ea_d (ev_d (K := K) rfl h_l_kit_here) (ea_d (ev_ixLM (e := (eT Dat.int)) e_t25 (ev_d (K := K) rfl h_l_found) (ev_int (K := K))) ea_nil))) (fun eb => by have e1 := cond_t eb e_t28; (obtain ⟨t27, e_t27, e1⟩ := bs e1); cases e1; exact (ev_callD (a := ()) (r := t27.1) (z' := t27.2) hs e_t27 (ea_cons mo_ow (ev_own rfl) ea_nil))) (fun eb => by have e1 := cond_f eb e_t28; cases e1; exact ⟨rfl, upd_back hs⟩)) ok (fun v G H s1 ok hv => ?_)
        have sg := sg.trans s1
        have ok : Ok _ (upd M s (sto t28.2)) _ := ok
        have hs : (upd M s (sto t28.2)) s = some (sto t28.2) := upd_same
        have hB : ∀ a u, a ≠ s → M0 a = some u → (upd M s (sto t28.2)) a = some u := (hB_draw hB)
        obtain ⟨M, eM⟩ : ∃ m, m = (upd M s (sto t28.2)) := ⟨_, rfl⟩
        rw [← eM] at ok hs hB
        clear eM
        cases hm
        exact q v G H sg (ok.less (same_fin hB hs)) hv
/-! ### law -/
theorem sc_law : FnScope ["_law_script", "_law_k"] ["_law_script"] (defScope s_law) := ⟨rfl, rfl, rfl, by decide +kernel, rfl, by decide +kernel, by decide +kernel⟩
def a_law (K : PySem.W.Frag) (a : (List Int)) : List V → Hp → Prop := conP (SCP K a) (nilP)
def m_law (a : (List Int)) : Option Bool :=
  (rngO (if (if (5 : Int) < (a.length : Int) then (5 : Int) else (a.length : Int)) > (2 : Int) then (if (5 : Int) < (a.length : Int) then (5 : Int) else (a.length : Int)) else (2 : Int))).bind fun t1 => (lcO (fun x2 : Int => (m__law_opened (a, x2)).bind fun t8 => (m__law_right () t8).bind fun t9 => some t9.1) t1).bind fun t10 => some (t10.all id)
abbrev sp_law [Tb] (K : PySem.W.Frag) : Sp := spP (a_law K) (m_law) fun r => DD K (Dat.bool r)
theorem ok_law [Tb] {P : Program} {w : World} {K : PySem.W.Frag} {mg : Str → Option Value} {base : Heap} (T : Txt K mg) (O__law_right : FnOkG P w K mg base CX0 10 T.a__law_right T.d__law_right ["_law_store"] (sp__law_right K)) (O__law_opened : FnOk P w K mg base CX0 1 T.a__law_opened T.d__law_opened ["_law_script", "_law_k"] (sp__law_opened K)) : FnOkG P w K mg base CX0 (11) T.a_law T.d_law ["_law_script"] (sp_law K) := by
  refine okG T.F_law sc_law (fun vs H Q E h => ?_) (fun cdv A outer s0 H vs Q E hr hgd h => ?_)
  · obtain ⟨G, M0, a, r, ok, ⟨v_l_script, _, rfl, h_l_script, rfl⟩, hm, q⟩ := h
    rfl
  · obtain ⟨G, M0, a, r, ok, ⟨v_l_script, _, rfl, h_l_script, rfl⟩, hm, q⟩ := h
    unfold m_law at hm
    have sg := Same.refl G
    have hB := Same.refl M0
    refine ⟨_, (pss_cons (ps_ret (pe_callB (cr_allK (K := K) rfl) (by rfl) T.n_all (by decide +kernel) (pa_cons (pe_lc (own := [("_law_k", 1)]) (g := (gName 1)) (tt := tYes) rfl sc_law.nd (pi_range1 (by rfl) T.n_range (pa_cons (pe_callB (cl_max2 rfl) (by rfl) T.n_max (by decide +kernel) (pa_cons pe_int (pa_cons (pe_callB (cl_min2 rfl) (by rfl) T.n_min (by decide +kernel) (pa_cons (pe_callB (cl_lenK (K := K)) (by rfl) T.n_len (by decide +kernel) (pa_cons (pv 0) pa_nil)) (pa_cons pe_int pa_nil))) pa_nil))) pa_nil)) (blkOk_by (own := [("_law_k", 1)]) (N := ["_law_script", "_law_k"]) (sc := defScope s_law) (by decide +kernel)) (fun _ _ _ _ _ => (pg_name (i := 1) sc_law.nd rfl (by first | exact .inl rfl | exact .inr rfl))) (fun _ _ _ _ _ => pts_nil) (fun _ _ _ _ _ => (pe_callG O__law_right hgd (hr.mono (by decide)) (by rfl) T.g__law_right T.F__law_right.kp T.b__law_right .nil pass0 (pa_cons (pe_call O__law_opened (hr.mono (by decide)) (by rfl) T.g__law_opened T.F__law_opened.kp T.b__law_opened .nil pass0 (pa_cons (pv 0) (pa_cons (pv 1) pa_nil))) pa_nil)))) pa_nil))) pss_nil), ?_⟩
    refine nrm (σ' := [some v_l_script, none]) rfl ?_
    obtain ⟨t1, e_t1, hm⟩ := bs hm
    obtain ⟨t10, e_t10, hm⟩ := bs hm
    refine q_ret (ev_allL (ea_d (EvL.ev (el_lcM (ea := Dat.int) (eb := Dat.bool) (xs := t1) (ys := t10) (hf := e_t10) (src_rngO e_t1 (ea_d (ev_max2 (ea_d (ev_int (K := K)) (ea_d (ev_min2 (ea_d (ev_lenScr (ea_cons mo_scp (ev_var rfl mo_scp h_l_script) ea_nil)) (ea_d (ev_int (K := K)) ea_nil))) ea_nil))) ea_nil)) (fun x2 _ Mx6 _ _ he7 sM5 sG4 hv3 => by (obtain ⟨t8, e_t8, he7⟩ := bs he7); (obtain ⟨t9, e_t9, he7⟩ := bs he7); cases he7; exact (tg_name ⟨rfl, (ev_open (a := (a, x2)) e_t8 e_t9 (fun _ => rfl) (ea_cons mo_scp (ev_var rfl mo_scp (mo_scp _ _ _ sG4 h_l_script)) (ea_cons mo_dd (ev_d (K := K) rfl hv3) ea_nil)))⟩)))) ea_nil)) ok (fun v G H s1 ok hv => ?_)
    have sg := sg.trans s1
    cases hm
    exact q v G H sg (ok.less hB) hv
end K51
end
section
set_option maxHeartbeats 2000000
namespace Mx
open PySem L2 Kx
/-! ### what a mirror tells, by what is wanted of it -/
def Wp {α : Type} (o : Option α) (P : α → Prop) : Prop := ∃ r, o = some r ∧ P r
section
variable {α β γ S R : Type}
theorem wp_some {r : α} {P : α → Prop} (h : P r) : Wp (some r) P := ⟨r, rfl, h⟩
theorem wp_bind {o : Option α} {f : α → Option β} {P : α → Prop} {Q : β → Prop} (h : Wp o P) (k : ∀ r, P r → Wp (f r) Q) : Wp (o.bind f) Q := by
  obtain ⟨r, e, p⟩ := h
  obtain ⟨s, e2, q⟩ := k r p
  exact ⟨s, by rw [e]; exact e2, q⟩
theorem Wp.imp {o : Option α} {P Q : α → Prop} (h : Wp o P) (k : ∀ r, P r → Q r) : Wp o Q := by
  obtain ⟨r, e, p⟩ := h
  exact ⟨r, e, k r p⟩
theorem wp_cond {b : Bool} {x y : Option α} {P : α → Prop} (h1 : b = true → Wp x P) (h2 : b = false → Wp y P) : Wp (cond b x y) P := by
  cases b with
  | true => exact h1 rfl
  | false => exact h2 rfl
theorem wp_grd {p : Prop} [Decidable p] (h : p) : Wp (grd p) fun _ => True := ⟨(), grd_yes h, trivial⟩
theorem wp_mulO {i j : Int} {P : Int → Prop} (h : CMulO i j) (k : P (i * j)) : Wp (mulO i j) P := wp_bind (wp_grd h) fun _ _ => wp_some k
theorem wp_fdivO {i j : Int} {P : Int → Prop} (h : CDivN i j) (k : P (i.fdiv j)) : Wp (fdivO i j) P := wp_bind (wp_grd (.inl h)) fun _ _ => wp_some k
theorem wp_modO {i j : Int} {P : Int → Prop} (h : j ≠ 0) (k : P (i.fmod j)) : Wp (modO i j) P := wp_bind (wp_grd h) fun _ _ => wp_some k
theorem wp_powO {i j : Int} {P : Int → Prop} (h : CPow i j) (k : P (i ^ j.toNat)) : Wp (powO i j) P := wp_bind (wp_grd h) fun _ _ => wp_some k
theorem cdivw {i j : Int} {n : Nat} (h1 : 0 < j) (h2 : j < 2 ^ 200) : CDivW i j := ⟨h1, Nat.lt_of_lt_of_le (PySem.Flt.log2_lt_of (k := 200) (by decide) (by omega)) (by decide)⟩
theorem wp_dmO {i j : Int} {P : Int × Int → Prop} (h : CDivW i j) (k : P (i / j, i % j)) : Wp (dmO i j) P := wp_bind (wp_grd h) fun _ _ => wp_some k
theorem wp_is {o : Option α} {x : α} {P : α → Prop} (h : o = some x) (k : P x) : Wp o P := ⟨x, h, k⟩
theorem wp_appO {xs : List α} {x : α} {P : List α → Prop} (h : xs.length < 16777216) (k : P (xs ++ [x])) : Wp (appO xs x) P := wp_bind (wp_grd h) fun _ _ => wp_some k
theorem wp_catO {xs ys : List α} {P : List α → Prop} (h : xs.length + ys.length ≤ 16777216) (k : P (xs ++ ys)) : Wp (catO xs ys) P := wp_bind (wp_grd h) fun _ _ => wp_some k
theorem wp_rngO {n : Int} {P : List Int → Prop} (h : -(2 ^ 62) ≤ n ∧ n < 2 ^ 62) (k : P (irange 0 n)) : Wp (rngO n) P := wp_bind (wp_grd h) fun _ _ => wp_some k
theorem wp_rngN {n : Nat} {P : List Int → Prop} (h : n ≤ 16777216) (k : P (irange 0 (n : Int))) : Wp (rngO (n : Int)) P := wp_rngO (by omega) k
theorem atI_nat' {xs : List α} {i : Nat} (h : i < xs.length) : atI xs (i : Int) = some xs[i] := by
  unfold atI ixN
  rw [if_pos (by omega), if_pos (by omega)]
  show xs[(i : Int).toNat]? = _
  rw [Int.toNat_natCast]
  exact List.getElem?_eq_getElem h
theorem wp_atI {xs : List α} {i : Nat} {P : α → Prop} (h : i < xs.length) (k : P xs[i]) : Wp (atI xs (i : Int)) P := ⟨_, atI_nat' h, k⟩
/-- a comprehension: each element by what is wanted of it -/
theorem wp_mapO {f : α → Option β} {T : α → β → Prop} : ∀ {xs : List α}, (∀ x ∈ xs, Wp (f x) (T x)) → Wp (mapO f xs) fun ys => ys.length = xs.length ∧ ∀ (i : Nat) (x : α) (y : β), xs[i]? = some x → ys[i]? = some y → T x y
  | [], _ => wp_some ⟨rfl, fun i x y h => by simp at h⟩
  | a :: xs, h => by
    refine wp_bind (h a List.mem_cons_self) fun b hb => wp_bind (wp_mapO fun x hx => h x (List.mem_cons_of_mem _ hx)) fun ys hys => wp_some ⟨congrArg (· + 1) hys.1, fun i x y hx hy => ?_⟩
    cases i with
    | zero => simp at hx hy; subst hx; subst hy; exact hb
    | succ i => exact hys.2 i x y (by simpa using hx) (by simpa using hy)
theorem wp_lcO {f : α → Option β} {xs : List α} {P : List β → Prop} (T : α → β → Prop) (hl : xs.length ≤ 16777216) (h : ∀ x ∈ xs, Wp (f x) (T x)) (k : ∀ ys, ys.length = xs.length → (∀ (i : Nat) (x : α) (y : β), xs[i]? = some x → ys[i]? = some y → T x y) → P ys) : Wp (lcO f xs) P :=
  wp_bind (wp_grd hl) fun _ _ => (wp_mapO h).imp fun ys hy => k ys hy.1 hy.2
/-- its elements are a function of the items -/
theorem wp_lcO_map {f : α → Option β} {xs : List α} {P : List β → Prop} (g : α → β) (hl : xs.length ≤ 16777216) (h : ∀ x ∈ xs, f x = some (g x)) (k : P (xs.map g)) : Wp (lcO f xs) P :=
  wp_lcO (fun x y => y = g x) hl (fun x hx => ⟨g x, h x hx, rfl⟩) fun ys h1 h2 => by
    have : ys = xs.map g := by
      apply List.ext_getElem?
      intro i
      rw [List.getElem?_map]
      by_cases hi : i < xs.length
      · rw [List.getElem?_eq_getElem hi, List.getElem?_eq_getElem (by omega)]
        exact congrArg some (h2 i xs[i] ys[i] (List.getElem?_eq_getElem hi) (List.getElem?_eq_getElem (by omega)))
      · rw [List.getElem?_eq_none (by omega), List.getElem?_eq_none (by omega)]
        rfl
    rw [this]
    exact k
theorem wp_mapS {f : α → Sto → Option (β × Sto)} {T : α → β → Prop} : ∀ {xs : List α} {z : Sto}, (∀ x ∈ xs, ∀ z, Wp (f x z) fun r => T x r.1) → Wp (mapS f xs z) fun r => r.1.length = xs.length ∧ ∀ (i : Nat) (x : α) (y : β), xs[i]? = some x → r.1[i]? = some y → T x y
  | [], z, _ => wp_some ⟨rfl, fun i x y h => by simp at h⟩
  | a :: xs, z, h => by
    refine wp_bind (h a List.mem_cons_self z) fun b hb => wp_bind (wp_mapS fun x hx => h x (List.mem_cons_of_mem _ hx)) fun ys hys => wp_some ⟨congrArg (· + 1) hys.1, fun i x y hx hy => ?_⟩
    cases i with
    | zero => simp at hx hy; subst hx; subst hy; exact hb
    | succ i => exact hys.2 i x y (by simpa using hx) (by simpa using hy)
theorem wp_lcS {f : α → Sto → Option (β × Sto)} {xs : List α} {z : Sto} {P : List β × Sto → Prop} (T : α → β → Prop) (hl : xs.length ≤ 16777216) (h : ∀ x ∈ xs, ∀ z, Wp (f x z) fun r => T x r.1) (k : ∀ r : List β × Sto, r.1.length = xs.length → (∀ (i : Nat) (x : α) (y : β), xs[i]? = some x → r.1[i]? = some y → T x y) → P r) : Wp (lcS f xs z) P :=
  wp_bind (wp_grd hl) fun _ _ => (wp_mapS h).imp fun ys hy => k ys hy.1 hy.2
/-- a for, by an invariant over the turn -/
theorem wp_forO_at {f : S → α → Option S} {xs : List α} {P : S → Prop} (I : Nat → S → Prop) (hs : ∀ (i : Nat) (x : α) (s : S), xs[i]? = some x → I i s → Wp (f s x) (I (i + 1))) (hd : ∀ s, I xs.length s → P s) : ∀ (i : Nat) (s : S), i ≤ xs.length → I i s → Wp (forO f (xs.drop i) s) P := by
  intro i
  generalize hn : xs.length - i = n
  induction n generalizing i with
  | zero =>
    intro s hi h
    have e : i = xs.length := by omega
    subst e
    rw [List.drop_length]
    exact wp_some (hd s h)
  | succ n ih =>
    intro s hi h
    have hlt : i < xs.length := by omega
    rw [List.drop_eq_getElem_cons hlt]
    exact wp_bind (hs i xs[i] s (List.getElem?_eq_getElem hlt) h) fun s' h' => ih (i + 1) (by omega) s' (by omega) h'
theorem wp_forO {f : S → α → Option S} {xs : List α} {s : S} {P : S → Prop} (I : Nat → S → Prop) (h0 : I 0 s) (hs : ∀ (i : Nat) (x : α) (s : S), xs[i]? = some x → I i s → Wp (f s x) (I (i + 1))) (hd : ∀ s, I xs.length s → P s) : Wp (forO f xs s) P :=
  wp_forO_at I hs hd 0 s (Nat.zero_le _) h0
/-- a for that may return: J of what is handed on, Pr of what is returned -/
theorem wp_forR {f : S → α → Option (S ⊕ R)} {xs : List α} {s : S} {P : S ⊕ R → Prop} (I : S → Prop) (h0 : I s) (hs : ∀ x ∈ xs, ∀ s, I s → Wp (f s x) fun r => ∃ s', r = .inl s' ∧ I s') (hd : ∀ s, I s → P (.inl s)) : Wp (forR f xs s) P := by
  induction xs generalizing s with
  | nil => exact wp_some (hd s h0)
  | cons a xs ih =>
    refine wp_bind (hs a List.mem_cons_self s h0) fun r hr => ?_
    obtain ⟨s', rfl, h'⟩ := hr
    exact ih h' fun x hx => hs x (List.mem_cons_of_mem _ hx)
theorem wp_whileO {c : S → Option Bool} {f : S → Option S} {P : S → Prop} (I : S → Prop) (μ : S → Nat) (hs : ∀ s, I s → Wp (c s) fun b => (b = true → Wp (f s) fun s' => I s' ∧ μ s' < μ s) ∧ (b = false → P s)) : ∀ (n : Nat) (s : S), I s → μ s < n → Wp (whileO c f n s) P
  | 0, s, _, h => absurd h (Nat.not_lt_zero _)
  | n + 1, s, hI, h => by
    refine wp_bind (hs s hI) fun b hb => wp_cond (fun e => ?_) (fun e => wp_some (hb.2 e))
    exact wp_bind (hb.1 e) fun s' h' => wp_whileO I μ hs n s' h'.1 (by omega)
end
/-! ### ranges -/
theorem irange_nat_len (n : Nat) : (irange 0 (n : Int)).length = n := by rw [irange_len]; omega
theorem irange_at {n i : Nat} {x : Int} (h : (irange 0 (n : Int))[i]? = some x) : i < n ∧ x = (i : Int) := by
  have hl : i < (irange 0 (n : Int)).length := (List.getElem?_eq_some_iff.mp h).1
  rw [irange_nat_len] at hl
  rw [irange_get (by omega)] at h
  cases h
  exact ⟨hl, by omega⟩
theorem irange_mem {n : Nat} {x : Int} (h : x ∈ irange 0 (n : Int)) : ∃ i : Nat, i < n ∧ x = (i : Int) := by
  obtain ⟨i, hi, e⟩ := List.mem_iff_getElem.mp h
  exact ⟨i, irange_at (by rw [← e]; exact List.getElem?_eq_getElem hi)⟩
theorem enum_at {α : Type} {xs : List α} {i : Nat} {p : Int × α} (h : (enum xs)[i]? = some p) : ∃ x, xs[i]? = some x ∧ p = ((i : Int), x) := by
  unfold enum at h
  rw [List.getElem?_mapIdx] at h
  cases e : xs[i]? with
  | none => rw [e] at h; cases h
  | some x => rw [e] at h; cases h; exact ⟨x, rfl, rfl⟩
theorem cut_from {α : Type} (xs : List α) (p : Nat) : cut xs (some (p : Int)) none = xs.drop p := by
  unfold cut
  rw [HT.sIx_none, HT.sIx_nat, show List.take (xs.length - min p xs.length) (List.drop (min p xs.length) xs) = List.drop (min p xs.length) xs from List.take_of_length_le (by rw [List.length_drop]; omega)]
  by_cases h : p ≤ xs.length
  · rw [Nat.min_eq_left h]
  · rw [Nat.min_eq_right (by omega), List.drop_length, List.drop_of_length_le (by omega)]
theorem cut_to {α : Type} (xs : List α) (p : Nat) : cut xs none (some (p : Int)) = xs.take p := by
  unfold cut
  rw [HT.sIx_none, HT.sIx_nat, List.drop_zero, Nat.sub_zero]
  by_cases h : p ≤ xs.length
  · rw [Nat.min_eq_left h]
  · rw [Nat.min_eq_right (by omega), List.take_length, List.take_of_length_le (by omega)]
end Mx
end
section
set_option maxHeartbeats 2000000
namespace Mx
/-! ### rows of numbers as functions -/
abbrev Vc := Nat → Int
def vf (l : List Int) : Vc := fun i => l.getD i 0
theorem vf_at {l : List Int} {i : Nat} (h : i < l.length) : vf l i = l[i] := by unfold vf; simp [List.getD, h]
theorem vf_get {l : List Int} {i : Nat} {x : Int} (h : l[i]? = some x) : vf l i = x := by unfold vf; simp [List.getD, h]
/-! ### all that is spanned -/
inductive Spn (S : Vc → Prop) : Vc → Prop
  | zero : Spn S fun _ => 0
  | add {x g : Vc} : Spn S x → S g → Spn S fun i => x i + g i
  | sub {x g : Vc} : Spn S x → S g → Spn S fun i => x i - g i
section
variable {S T : Vc → Prop}
theorem Spn.is {x y : Vc} (h : Spn S x) (e : ∀ i, x i = y i) : Spn S y := by
  have : x = y := funext e
  exact this ▸ h
end
/-! ### rungs: noughts ahead, a step above 0 at the place -/
/-- by place: what can be gone down to nothing -/
def Down (n : Nat) (r : Nat → Vc) : Nat → Nat → Vc → Prop
  | 0, _, x => ∀ i, x i = 0
  | m + 1, p, x => ∃ c : Int, x p = c * r p p ∧ Down n r m (p + 1) fun i => x i - c * r p i
theorem Down.is {n : Nat} {r : Nat → Vc} : ∀ {m p : Nat} {x y : Vc}, Down n r m p x → (∀ i, x i = y i) → Down n r m p y := fun {m p x y} h e => by
  have : x = y := funext e
  exact this ▸ h
end Mx
end
section
set_option maxHeartbeats 2000000
namespace K51
open PySem L2 Kx Mx
theorem fm {a b : Int} (h : 0 < b) : a.fmod b = a % b := Int.fmod_eq_emod_of_nonneg a (by omega)
theorem fd {a b : Int} (h : 0 < b) : a.fdiv b = a / b := Int.fdiv_eq_ediv_of_nonneg a (by omega)
theorem dvd_emod {d a b : Int} (h1 : d ∣ a) (h2 : d ∣ b) : d ∣ a % b := by
  rw [Int.emod_def]
  exact Int.dvd_sub h1 (Int.dvd_mul_of_dvd_left h2)
theorem dvd_of_emod {d a b : Int} (h1 : d ∣ a % b) (h2 : d ∣ b) : d ∣ a := by
  have e : a = a % b + b * (a / b) := (Int.emod_add_mul_ediv a b).symm
  rw [e]
  exact Int.dvd_add h1 (Int.dvd_mul_of_dvd_left h2)
/-- moduli -/
structure Mdl (m : List Int) : Prop where
  l1 : 1 ≤ m.length
  l2 : m.length ≤ 12
  b : ∀ x ∈ m, 1 ≤ x ∧ x ≤ 99
theorem Mdl.at {m : List Int} (h : Mdl m) {i : Nat} (hi : i < m.length) : 1 ≤ vf m i ∧ vf m i ≤ 99 := by
  rw [vf_at hi]
  exact h.b _ (List.getElem_mem hi)
theorem small_mul {i j : Int} (h : -(2 ^ 64) < j ∧ j < 2 ^ 64) : CMulO i j := .inl (.inr h)
theorem small_mul' {i j : Int} (h : -(2 ^ 64) < i ∧ i < 2 ^ 64) : CMulO i j := .inl (.inl h)
end K51
end
section
set_option maxHeartbeats 2000000
namespace K51
open PySem L2 Kx Mx
/-! ### shared, common -/
theorem shared_spec {a b : Int} (ha : 0 < a) (hb : 0 ≤ b) : Wp (m_shared (a, b)) fun g => 0 < g ∧ g ∣ a ∧ g ∣ b ∧ ∀ d, d ∣ a → d ∣ b → d ∣ g := by
  unfold m_shared
  refine wp_bind (P := fun st : Int × Int => 0 < st.1 ∧ st.2 = 0 ∧ (∀ d, (d ∣ st.1 ∧ d ∣ st.2) ↔ (d ∣ a ∧ d ∣ b))) ?_ fun st ⟨h1, h2, h3⟩ => wp_some ?_
  · refine wp_whileO (fun st : Int × Int => 0 < st.1 ∧ 0 ≤ st.2 ∧ ∀ d, (d ∣ st.1 ∧ d ∣ st.2) ↔ (d ∣ a ∧ d ∣ b)) (fun st => st.2.toNat) ?_ _ _ ⟨ha, hb, fun d => Iff.rfl⟩ (by show b.toNat < b.toNat + 1; omega)
    rintro ⟨x, y⟩ ⟨h1, h2, h3⟩
    refine wp_some ⟨fun e => ?_, fun e => ?_⟩
    · have hy : 0 < y := of_decide_eq_true e
      refine wp_bind (wp_modO (P := fun t => t = x.fmod y) (by show y ≠ 0; omega) rfl) fun t ht => wp_some ?_
      rw [fm hy] at ht
      subst ht
      have l1 := Int.emod_nonneg x (show y ≠ 0 by omega)
      have l2 := Int.emod_lt_of_pos x hy
      refine ⟨⟨hy, l1, fun d => ?_⟩, ?_⟩
      · rw [← h3 d]
        exact ⟨fun h => ⟨dvd_of_emod h.2 h.1, h.1⟩, fun h => ⟨h.2, dvd_emod h.1 h.2⟩⟩
      · show (x % y).toNat < y.toNat
        omega
    · have hy : ¬ 0 < y := of_decide_eq_false e
      exact ⟨h1, by show y = 0; have : 0 ≤ y := h2; omega, h3⟩
  · have q := (h3 st.1).mp ⟨Int.dvd_refl _, by rw [h2]; exact Int.dvd_zero _⟩
    refine ⟨h1, q.1, q.2, fun d d1 d2 => ((h3 d).mpr ⟨d1, d2⟩).1⟩
theorem common_spec {m : List Int} (h : Mdl m) : Wp (m_common m) fun w => 0 < w ∧ w ≤ 99 ^ 12 ∧ ∀ i, i < m.length → vf m i ∣ w := by
  unfold m_common
  refine wp_bind (P := fun w : Int => 0 < w ∧ w ≤ 99 ^ 12 ∧ ∀ i, i < m.length → vf m i ∣ w) ?_ fun w hw => wp_some hw
  refine wp_forO (fun k (w : Int) => 0 < w ∧ w ≤ 99 ^ k ∧ ∀ i, i < k → vf m i ∣ w) ⟨by decide, by decide, fun i hi => by omega⟩ ?_ ?_
  · rintro k x w hx ⟨h1, h2, h3⟩
    have hk := (List.getElem?_eq_some_iff.mp hx).1
    have hb := h.b x (List.mem_of_getElem? hx)
    have vx := vf_get hx
    refine wp_bind (shared_spec h1 (by omega)) fun g ⟨g1, g2, g3, _⟩ => ?_
    have gle : g ≤ x := Int.le_of_dvd (by omega) g3
    refine wp_bind (wp_fdivO (P := fun t => t = w / g) (show CDivN w g from ⟨by omega, by omega⟩) (fd g1)) fun t ht => ?_
    subst ht
    refine wp_bind (wp_mulO (P := fun t => t = w / g * x) (small_mul ⟨by omega, by omega⟩) rfl) fun t ht => wp_some ?_
    subst ht
    obtain ⟨c, hc⟩ := g2
    obtain ⟨d, hd⟩ := g3
    have e1 : w / g = c := by rw [hc]; exact Int.mul_ediv_cancel_left _ (by omega)
    have cpos : 0 < c := by
      by_cases hc0 : 0 < c
      · exact hc0
      · have : g * c ≤ 0 := Int.mul_nonpos_of_nonneg_of_nonpos (by omega) (by omega)
        omega
    have cle : c ≤ w := by rw [hc]; have := Int.mul_le_mul_of_nonneg_right (show 1 ≤ g by omega) (show 0 ≤ c by omega); omega
    rw [e1]
    refine ⟨Int.mul_pos cpos (by omega), ?_, fun i hi => ?_⟩
    · have h4 : c * x ≤ 99 ^ k * 99 := Int.mul_le_mul (by omega) (by omega) (by omega) (by have : (0:Int) < 99 ^ k := Int.pow_pos (by decide); omega)
      rw [Int.pow_succ]
      exact h4
    · by_cases e : i = k
      · subst e
        rw [vx]
        exact Int.dvd_mul_left _ _
      · have q := h3 i (by omega)
        have : w ∣ c * x := ⟨d, by rw [hc, hd, Int.mul_comm g c, Int.mul_assoc]⟩
        exact Int.dvd_trans q this
  · rintro w ⟨h1, h2, h3⟩
    refine ⟨h1, Int.le_trans h2 ?_, h3⟩
    have : (99 : Int) ^ m.length ≤ 99 ^ 12 := by
      have h4 := h.l2
      have : ∀ k : Nat, k ≤ 12 → (99 : Int) ^ k ≤ 99 ^ 12 := by decide
      exact this _ h4
    exact this
end K51
end
section
set_option maxHeartbeats 2000000
namespace K51
open PySem L2 Kx Mx
theorem pull_spec {a : Int} (z : Sto) (h1 : 0 < a) (h2 : a < 2 ^ 200) : Wp (m__law_pull a z) fun r => 0 ≤ r.1 ∧ r.1 < a := by
  unfold m__law_pull pullM
  refine wp_cond (fun e => ?_) (fun e => ?_)
  · refine wp_bind (wp_dmO (P := fun t => t = (z.1 / a, z.1 % a)) (cdivw (n := 0) h1 h2) rfl) fun t ht => wp_some ?_
    subst ht
    exact ⟨Int.emod_nonneg _ (by omega), Int.emod_lt_of_pos _ h1⟩
  · refine wp_bind (wp_modO (P := fun t => 0 ≤ t ∧ t < 40961) (by decide) ?_) fun t1 ⟨g1, g2⟩ => ?_
    · rw [fm (by decide)]
      exact ⟨Int.emod_nonneg _ (by decide), Int.emod_lt_of_pos _ (by decide)⟩
    refine wp_bind (wp_mulO (P := fun _ => True) (small_mul ⟨by omega, by omega⟩) trivial) fun t2 _ => wp_bind (wp_mulO (P := fun _ => True) (small_mul' ⟨by decide, by decide⟩) trivial) fun t3 _ => ?_
    refine wp_bind (wp_modO (P := fun _ => True) (by decide) trivial) fun t4 _ => wp_bind (wp_fdivO (P := fun _ => True) ⟨by decide, by decide⟩ trivial) fun t5 _ => wp_bind (wp_modO (P := fun t => 0 ≤ t ∧ t < a) (by omega) ?_) fun t6 h6 => wp_some h6
    rw [fm h1]
    exact ⟨Int.emod_nonneg _ (by omega), Int.emod_lt_of_pos _ h1⟩
theorem opened_spec (ns : List Int) (k : Nat) : Wp (m__law_opened (ns, (k : Int))) fun _ => True := by
  unfold m__law_opened
  dsimp only
  refine wp_bind (wp_mulO (P := fun _ => True) (small_mul' ⟨by decide, by decide⟩) trivial) fun t1 _ => ?_
  refine wp_bind (P := fun _ => True) (wp_cond (fun e => ?_) (fun e => wp_some trivial)) fun j2 _ => ?_
  · have : (k : Int) < (ns.length : Int) := of_decide_eq_true e
    exact wp_bind (wp_atI (i := k) (P := fun _ => True) (by omega) trivial) fun t4 _ => wp_some trivial
  refine wp_bind (P := fun _ => True) (wp_cond (fun e => wp_some trivial) (fun e => wp_bind (wp_powO (P := fun _ => True) ⟨by decide, by decide, by decide⟩ trivial) fun t6 _ => wp_some trivial)) fun t7 _ => ?_
  refine wp_bind (wp_mulO (P := fun _ => True) (small_mul (by split <;> omega)) trivial) fun t8 _ => wp_bind (wp_mulO (P := fun _ => True) (small_mul' ⟨by decide, by decide⟩) trivial) fun t9 _ => wp_bind (wp_mulO (P := fun _ => True) (small_mul' ⟨by decide, by decide⟩) trivial) fun t10 _ => wp_bind (wp_modO (P := fun _ => True) (by decide) trivial) fun t11 _ => wp_some trivial
end K51
end
section
set_option maxHeartbeats 2000000
namespace K51
open PySem L2 Kx Mx
/-! ### names -/
structure NameOk (z : Str) : Prop where
  l1 : 1 ≤ z.cps.toList.length
  l2 : z.cps.toList.length ≤ 6
  b : ∀ c ∈ z.cps.toList, 97 ≤ c ∧ c ≤ 122
theorem letters : (Str.ofString "abcdefghijklmnopqrstuvwxyz").cps.toList = List.range' 97 26 := by decide +kernel
theorem str_len (z : Str) : z.length = z.cps.toList.length := by
  show z.cps.size = _
  rw [Array.length_toList]
theorem letter_at {i : Nat} (h : i < 26) : atS (Str.ofString "abcdefghijklmnopqrstuvwxyz") (i : Int) = some ⟨#[97 + i]⟩ := by
  unfold atS
  rw [grd_yes (by rw [str_len, letters]; decide)]
  show (atI (Str.ofString "abcdefghijklmnopqrstuvwxyz").cps.toList (i : Int)).bind _ = _
  rw [letters, atI_nat' (by simpa using h)]
  simp
theorem is_name_spec {z : Str} (h : NameOk z) : m_is_name z = some true := by
  have W : Wp (m_is_name z) fun b => b = true := by
    unfold m_is_name
    refine wp_bind (P := fun t => t = false) (wp_cond (fun e => by cases e) fun _ => ?_) fun t2 e2 => ?_
    · refine wp_bind (P := fun t => t = (z.cps.toList.length : Int)) ?_ fun t1 e1 => wp_some ?_
      · unfold lenS
        exact wp_bind (wp_grd (by rw [str_len]; have := h.l2; omega)) fun _ _ => wp_some (by rw [str_len])
      · subst e1
        have := h.l1
        have := h.l2
        simp only [Bool.not_eq_false', Bool.and_eq_true, decide_eq_true_eq]
        omega
    · subst e2
      refine wp_cond (fun e => by cases e) fun _ => ?_
      refine wp_bind (P := fun t : List Bool => t.all id = true) (wp_lcO (fun _ y => y = true) ?_ (fun x hx => ?_) ?_) fun t10 h => wp_some h
      · unfold signs
        rw [List.length_map]
        have := h.l2
        omega
      · unfold signs at hx
        obtain ⟨c, hc, rfl⟩ := List.mem_map.mp hx
        have hb := h.b c hc
        refine wp_bind (P := fun t => t = true) (wp_some ?_) fun t9 e => wp_some e
        rw [letters]
        refine decide_eq_true (List.mem_range'.mpr ⟨c - 97, by omega, by omega⟩)
      · intro ys hl h
        rw [List.all_eq_true]
        intro y hy
        obtain ⟨i, hi⟩ := List.mem_iff_getElem?.mp hy
        have hil := (List.getElem?_eq_some_iff.mp hi).1
        have := h i _ y (List.getElem?_eq_getElem (by omega)) hi
        rw [this]; rfl
  obtain ⟨r, hr, e⟩ := W
  rw [hr, e]
/-! ### spelling -/
def dg : Nat → Nat → List Nat
  | 0, _ => []
  | i + 1, n => (97 + n / 26 ^ i % 26) :: dg i n
theorem dg_len : ∀ (w n : Nat), (dg w n).length = w
  | 0, _ => rfl
  | w + 1, n => by rw [dg, List.length_cons, dg_len w n]
theorem dg_b : ∀ (w n : Nat), ∀ c ∈ dg w n, 97 ≤ c ∧ c ≤ 122
  | 0, _, c, h => by simp [dg] at h
  | w + 1, n, c, h => by
    rw [dg] at h
    rcases List.mem_cons.mp h with e | h
    · rw [e]
      have := Nat.mod_lt (n / 26 ^ w) (show 0 < 26 by decide)
      omega
    · exact dg_b w n c h
theorem dg_inj : ∀ {w n m : Nat}, dg w n = dg w m → n % 26 ^ w = m % 26 ^ w
  | 0, n, m, _ => by rw [Nat.pow_zero, Nat.mod_one, Nat.mod_one]
  | w + 1, n, m, h => by
    rw [dg, dg] at h
    obtain ⟨h1, h2⟩ := List.cons.inj h
    have ih := dg_inj h2
    rw [Nat.mod_pow_succ, Nat.mod_pow_succ, ih]
    have : n / 26 ^ w % 26 = m / 26 ^ w % 26 := by omega
    rw [this]
theorem spelt_spec {n w : Nat} (hw : w ≤ 6) : Wp (m__law_spelt ((n : Int), (w : Int))) fun r => r.cps.toList = dg w n := by
  unfold m__law_spelt
  refine wp_bind (wp_rngN (P := fun t => t = irange 0 (w : Int)) (by omega) rfl) fun t1 e1 => ?_
  subst e1
  refine wp_bind (wp_forO (P := fun s => s.1.cps.toList = dg w n) (fun i s => s.1.cps.toList = dg i n ∧ s.2 = ((n / 26 ^ i : Nat) : Int)) ⟨rfl, by simp⟩ ?_ ?_) fun fin h => wp_some h
  · intro i x s hx ⟨h1, h2⟩
    obtain ⟨hi, rfl⟩ := irange_at hx
    refine wp_bind (wp_modO (P := fun t => t = ((n / 26 ^ i % 26 : Nat) : Int)) (by decide) (by rw [fm (by decide), h2]; exact (Int.natCast_emod _ _).symm)) fun t9 e9 => ?_
    subst e9
    have hl := Nat.mod_lt (n / 26 ^ i) (show 0 < 26 by decide)
    refine wp_bind (wp_is (P := fun t : Str => t = ⟨#[97 + n / 26 ^ i % 26]⟩) (letter_at hl) rfl) fun t10 e10 => ?_
    subst e10
    refine wp_bind (P := fun t : Str => t.cps.toList = dg (i + 1) n) ?_ fun t11 h11 => ?_
    · unfold addS
      have ls : s.1.cps.toList.length = i := by rw [h1, dg_len]
      refine wp_bind (wp_grd (by rw [str_len, str_len, ls]; simp; omega)) fun _ _ => wp_some ?_
      show ((#[97 + n / 26 ^ i % 26] : Array Nat) ++ s.1.cps).toList = _
      rw [Array.toList_append, h1]
      rfl
    refine wp_bind (wp_fdivO (P := fun t => t = ((n / 26 ^ (i + 1) : Nat) : Int)) ⟨by decide, by decide⟩ ?_) fun t12 e12 => wp_some ⟨h11, e12⟩
    rw [fd (by decide), h2, Nat.pow_succ, ← Nat.div_div_eq_div_mul]
    exact (Int.natCast_ediv _ _).symm
  · intro s h
    rw [irange_nat_len] at h
    exact h.1
end K51
end
section
set_option maxHeartbeats 2000000
namespace K51
open PySem L2 Kx Mx
theorem pull_nat {a : Int} (z : Sto) (h1 : 0 < a) (h2 : a < 2 ^ 200) : Wp (m__law_pull a z) fun r => ∃ k : Nat, r.1 = (k : Int) ∧ (k : Int) < a :=
  (pull_spec z h1 h2).imp fun r ⟨g1, g2⟩ => ⟨r.1.toNat, by omega, by omega⟩
theorem srt_strict {xs : List Str} (h : xs.Nodup) : (srt xs).Pairwise fun a b => sLt a b = true := by
  have n : (srt xs).Nodup := (srt_perm xs).nodup_iff.mpr h
  refine ((srt_sorted xs).and n).imp fun {a b} ⟨h1, h2⟩ => ?_
  cases e : sLt a b with
  | true => rfl
  | false =>
    unfold sLe at h1
    exact absurd (sLt_tri e (by simpa using h1)) h2
def Nms (cs : List Str) : Prop := (∀ x ∈ cs, NameOk x) ∧ cs.Pairwise fun a b => sLt a b = true
theorem nodup_at {α : Type} {xs : List α} (h : ∀ (i j : Nat) (x y : α), i < j → xs[i]? = some x → xs[j]? = some y → x ≠ y) : xs.Nodup := by
  refine List.pairwise_iff_getElem.mpr fun i j hi hj hij => ?_
  exact h i j _ _ hij (List.getElem?_eq_getElem hi) (List.getElem?_eq_getElem hj)
theorem sort_nmsM {xs : List Str} {P : List Str → Prop} (hl : xs.length < 64) (hn : ∀ x ∈ xs, NameOk x) (hd : xs.Nodup) (k : ∀ ys, ys.length = xs.length → Nms ys → (∀ y ∈ ys, y ∈ xs) → P ys) : Wp (sortS xs) P :=
  wp_bind (wp_grd hl) fun _ _ => wp_some (k _ (srt_perm xs).length_eq ⟨fun x hx => hn x ((srt_perm xs).mem_iff.mp hx), srt_strict hd⟩ fun y hy => (srt_perm xs).mem_iff.mp hy)
def nameB (z : Str) : Bool := decide (1 ≤ z.cps.toList.length) && decide (z.cps.toList.length ≤ 6) && z.cps.toList.all fun c => decide (97 ≤ c) && decide (c ≤ 122)
theorem nameB_of {z : Str} (h : nameB z = true) : NameOk z := by
  unfold nameB at h
  simp only [Bool.and_eq_true, decide_eq_true_eq, List.all_eq_true] at h
  exact ⟨h.1.1, h.1.2, fun c hc => h.2 c hc⟩
abbrev W12 : List Str := [(Str.ofString "bell"), (Str.ofString "turns"), (Str.ofString "ring"), (Str.ofString "go"), (Str.ofString "tell"), (Str.ofString "hang"), (Str.ofString "down"), (Str.ofString "put"), (Str.ofString "strike"), (Str.ofString "back"), (Str.ofString "lots"), (Str.ofString "home")]
theorem w12_ok : W12.all nameB = true := by decide +kernel
theorem w12_nd : W12.Nodup := by decide +kernel
theorem mem4 {α : Type} {a b c d x : α} {k : Nat} (h : ([a, b, c, d] : List α)[k]? = some x) : x = a ∨ x = b ∨ x = c ∨ x = d := by
  have := List.mem_of_getElem? h
  simpa using this
theorem wp_at4 {a b c d : Int} {k : Nat} (hk : k < 4) : Wp (atI ([a, b, c, d] : List Int) (k : Int)) fun x => x = a ∨ x = b ∨ x = c ∨ x = d :=
  wp_atI (by simpa using hk) (mem4 (List.getElem?_eq_getElem (by simpa using hk)))
theorem pow6 {k : Nat} (h : k < 6) : atI ([(26 : Int), (676 : Int), (17576 : Int), (456976 : Int), (11881376 : Int), (308915776 : Int)] : List Int) (k : Int) = some ((26 ^ (k + 1) : Nat) : Int) := by
  match k, h with
  | 0, _ => rfl
  | 1, _ => rfl
  | 2, _ => rfl
  | 3, _ => rfl
  | 4, _ => rfl
  | 5, _ => rfl
/-- words, or of one width -/
def Wd (cs : List Str) : Prop := (∀ x ∈ cs, x ∈ W12) ∨ ∃ w, ∀ x ∈ cs, x.cps.toList.length = w
theorem calls_specW {n : Nat} (z : Sto) (h2 : n ≤ 8) : Wp (m__law_calls (n : Int) z) fun r => r.1.length = n ∧ Nms r.1 ∧ Wd r.1 := by
  unfold m__law_calls
  refine wp_bind (pull_nat z (by decide) (by decide)) fun t1 _ => wp_cond (fun _ => ?_) fun _ => ?_
  · refine wp_bind (pull_nat _ (by decide) (by decide)) fun t2 ⟨f, e2, hf⟩ => wp_bind (pull_nat _ (by decide) (by decide)) fun t3 ⟨l, e3, hl⟩ => ?_
    rw [e2, e3]
    refine wp_bind (wp_at4 (by omega)) fun t4 h4 => ?_
    refine wp_bind (wp_rngN (P := fun t => t = irange 0 (n : Int)) (by omega) rfl) fun t5 e5 => ?_
    subst e5
    refine wp_bind (P := fun t : List Str => t.length = n ∧ (∀ x ∈ t, NameOk x) ∧ t.Nodup ∧ ∀ x ∈ t, x ∈ W12) (wp_lcO (fun x y => W12[((f : Int) + t4 * x).toNat % 12]? = some y) (by rw [irange_nat_len]; omega) (fun x hx => ?_) ?_) fun t15 ⟨a1, a2, a3, a4⟩ => ?_
    · obtain ⟨j, hj, rfl⟩ := irange_mem hx
      refine wp_bind (wp_mulO (P := fun t => t = t4 * (j : Int)) (small_mul ⟨by omega, by omega⟩) rfl) fun t12 e12 => ?_
      subst e12
      obtain ⟨l4, rfl⟩ : ∃ l4 : Nat, t4 = (l4 : Int) := ⟨t4.toNat, by omega⟩
      have en : (f : Int) + (l4 : Int) * (j : Int) = ((f + l4 * j : Nat) : Int) := by push_cast; rfl
      rw [en]
      refine wp_bind (wp_modO (P := fun t => t = (((f + l4 * j) % 12 : Nat) : Int)) (by decide) (by rw [fm (by decide)]; exact (Int.natCast_emod _ _).symm)) fun t13 e13 => ?_
      subst e13
      have hm := Nat.mod_lt (f + l4 * j) (show 0 < 12 by decide)
      refine wp_bind (wp_atI (xs := W12) (P := fun y => W12[(f + l4 * j) % 12]? = some y) (by simpa using hm) (List.getElem?_eq_getElem (by simpa using hm))) fun t14 h14 => wp_some ?_
      rw [Int.toNat_natCast]
      exact h14
    · intro ys hl hy
      rw [irange_nat_len] at hl
      have at' : ∀ i y, ys[i]? = some y → i < n ∧ W12[((f : Int) + t4 * (i : Int)).toNat % 12]? = some y := fun i y e => by
        have hi : i < n := by have := (List.getElem?_eq_some_iff.mp e).1; omega
        have hx : (irange 0 (n : Int))[i]? = some (i : Int) := by rw [irange_get (by omega)]; simp
        exact ⟨hi, hy i (i : Int) y hx e⟩
      refine ⟨hl, fun x hx => ?_, nodup_at fun i j x y hij hx hy' e => ?_, fun x hx => ?_⟩
      · obtain ⟨i, hi⟩ := List.mem_iff_getElem?.mp hx
        exact nameB_of ((List.all_eq_true.mp w12_ok) x (List.mem_of_getElem? (at' i x hi).2))
      · subst e
        obtain ⟨b1, b2⟩ := at' i x hx
        obtain ⟨b3, b4⟩ := at' j x hy'
        have q : ((f : Int) + t4 * (i : Int)).toNat % 12 = ((f : Int) + t4 * (j : Int)).toNat % 12 := by
          have hi := (List.getElem?_eq_some_iff.mp b2).1
          exact (List.getElem?_inj hi w12_nd).mp (b2.trans b4.symm)
        rcases h4 with rfl | rfl | rfl | rfl <;> omega
      · obtain ⟨i, hi⟩ := List.mem_iff_getElem?.mp hx
        exact List.mem_of_getElem? (at' i x hi).2
    · exact wp_bind (sort_nmsM (P := fun ys => ys.length = n ∧ Nms ys ∧ Wd ys) (by omega) a2 a3 fun ys h1 h2 h3 => ⟨by omega, h2, .inl fun y hy => a4 y (h3 y hy)⟩) fun t16 h => wp_some h
  · refine wp_bind (pull_nat _ (by decide) (by decide)) fun t17 ⟨w, e17, hw⟩ => wp_bind (pull_nat _ (by decide) (by decide)) fun t18 ⟨l, e18, hl⟩ => ?_
    rw [e17, e18]
    refine wp_bind (wp_at4 (by omega)) fun t19 h19 => ?_
    have ew : ((1 : Int) + (w : Int)) - 1 = (w : Int) := by omega
    rw [ew]
    have hw6 : w < 6 := by omega
    refine wp_bind (wp_is (P := fun t => t = ((26 ^ (w + 1) : Nat) : Int)) (pow6 hw6) rfl) fun t20 e20 => ?_
    subst e20
    have hpos : 0 < 26 ^ (w + 1) := Nat.pos_of_ne_zero (by simp)
    have hbig : 26 ^ (w + 1) ≤ 308915776 := Nat.le_trans (Nat.pow_le_pow_right (by decide) (by omega : w + 1 ≤ 6)) (by decide)
    refine wp_bind (pull_nat _ (by omega) (by omega)) fun t21 ⟨f, e21, hf⟩ => ?_
    rw [e21]
    refine wp_bind (wp_rngN (P := fun t => t = irange 0 (n : Int)) (by omega) rfl) fun t22 e22 => ?_
    subst e22
    refine wp_bind (P := fun t : List Str => t.length = n ∧ (∀ x ∈ t, NameOk x) ∧ t.Nodup ∧ ∀ x ∈ t, x.cps.toList.length = w + 1) (wp_lcO (fun x y => y.cps.toList = dg (w + 1) (((f : Int) + t19 * x).toNat % 26 ^ (w + 1))) (by rw [irange_nat_len]; omega) (fun x hx => ?_) ?_) fun t32 ⟨a1, a2, a3, a4⟩ => ?_
    · obtain ⟨j, hj, rfl⟩ := irange_mem hx
      refine wp_bind (wp_mulO (P := fun t => t = t19 * (j : Int)) (small_mul ⟨by omega, by omega⟩) rfl) fun t29 e29 => ?_
      subst e29
      obtain ⟨l4, rfl⟩ : ∃ l4 : Nat, t19 = (l4 : Int) := ⟨t19.toNat, by omega⟩
      have en : (f : Int) + (l4 : Int) * (j : Int) = ((f + l4 * j : Nat) : Int) := by push_cast; rfl
      rw [en]
      refine wp_bind (wp_modO (P := fun t => t = (((f + l4 * j) % 26 ^ (w + 1) : Nat) : Int)) (by omega) (by rw [fm (by omega)]; exact (Int.natCast_emod _ _).symm)) fun t30 e30 => ?_
      subst e30
      have e1 : (1 : Int) + (w : Int) = ((w + 1 : Nat) : Int) := by omega
      rw [e1]
      refine wp_bind (spelt_spec (by omega)) fun t31 h31 => wp_some ?_
      rw [Int.toNat_natCast]
      exact h31
    · intro ys hl hy
      rw [irange_nat_len] at hl
      have at' : ∀ i y, ys[i]? = some y → i < n ∧ y.cps.toList = dg (w + 1) (((f : Int) + t19 * (i : Int)).toNat % 26 ^ (w + 1)) := fun i y e => by
        have hi : i < n := by have := (List.getElem?_eq_some_iff.mp e).1; omega
        have hx : (irange 0 (n : Int))[i]? = some (i : Int) := by rw [irange_get (by omega)]; simp
        exact ⟨hi, hy i (i : Int) y hx e⟩
      refine ⟨hl, fun x hx => ?_, nodup_at fun i j x y hij hx hy' e => ?_, fun x hx => ?_⟩
      · obtain ⟨i, hi⟩ := List.mem_iff_getElem?.mp hx
        have e := (at' i x hi).2
        exact ⟨by rw [e, dg_len]; omega, by rw [e, dg_len]; omega, fun c hc => dg_b _ _ c (by rw [← e]; exact hc)⟩
      · subst e
        obtain ⟨b1, b2⟩ := at' i x hx
        obtain ⟨b3, b4⟩ := at' j x hy'
        have q := dg_inj (b2.symm.trans b4)
        rw [Nat.mod_mod, Nat.mod_mod] at q
        clear b2 b4
        by_cases hw0 : w = 0
        · subst hw0
          rw [show (26 : Nat) ^ (0 + 1) = 26 from rfl] at q
          rcases h19 with rfl | rfl | rfl | rfl <;> omega
        · have hM : 676 ≤ 26 ^ (w + 1) := Nat.le_trans (by decide : 676 ≤ 26 ^ 2) (Nat.pow_le_pow_right (by decide) (by omega))
          have hlt : ((f : Int) + t19 * (i : Int)).toNat < ((f : Int) + t19 * (j : Int)).toNat ∧ ((f : Int) + t19 * (j : Int)).toNat - ((f : Int) + t19 * (i : Int)).toNat < 676 := by
            rcases h19 with rfl | rfl | rfl | rfl <;> omega
          have z := Nat.sub_mod_eq_zero_of_mod_eq q.symm
          rw [Nat.mod_eq_of_lt (by omega)] at z
          omega
      · obtain ⟨i, hi⟩ := List.mem_iff_getElem?.mp hx
        rw [(at' i x hi).2, dg_len]
    · exact wp_bind (sort_nmsM (P := fun ys => ys.length = n ∧ Nms ys ∧ Wd ys) (by omega) a2 a3 fun ys h1 h2 h3 => ⟨by omega, h2, .inr ⟨w + 1, fun y hy => a4 y (h3 y hy)⟩⟩) fun t16 h => wp_some h
theorem figure_spec {m : Nat} {s : Int} (z : Sto) (hm : m ≤ 5) (h1 : 2 ≤ s) (h2 : s ≤ 24) : Wp (m__law_figure ((m : Int), s) z) fun r => 0 ≤ r.1 ∧ r.1 ≤ 99 := by
  unfold m__law_figure
  refine wp_bind (pull_nat z (by omega) (by omega)) fun t1 ⟨a, e1, ha⟩ => wp_bind (pull_nat _ (by decide) (by decide)) fun t2 ⟨b, e2, hb⟩ => ?_
  rw [e1, e2]
  refine wp_bind (wp_mulO (P := fun t => t = 2 * s) (small_mul' ⟨by decide, by decide⟩) rfl) fun t3 e3 => wp_bind (wp_fdivO (P := fun t => t = s / 2) ⟨by decide, by decide⟩ (fd (by decide))) fun t4 e4 => ?_
  subst e3; subst e4
  refine wp_bind (pull_nat _ (by decide) (by decide)) fun t5 ⟨c, e5, hc⟩ => ?_
  rw [e5]
  refine wp_bind (wp_at4 (by omega)) fun t6 h6 => ?_
  have b6 : 0 ≤ t6 ∧ t6 ≤ 99 := by rcases h6 with rfl | rfl | rfl | rfl <;> omega
  refine wp_bind (wp_appO (P := fun t => t = [(1 : Int), 1 + (a : Int), 1 + (b : Int), t6]) (by simp) rfl) fun t7 e7 => ?_
  subst e7
  refine wp_cond (fun e => ?_) fun e => ?_
  · have : (m : Int) < 4 := of_decide_eq_true e
    refine wp_bind (wp_at4 (by omega)) fun t8 h8 => wp_some ?_
    rcases h8 with rfl | rfl | rfl | rfl <;> constructor <;> dsimp only <;> omega
  · have : ¬ (m : Int) < 4 := of_decide_eq_false e
    refine wp_bind (wp_is (P := fun t => t = 1 + (a : Int)) rfl rfl) fun t9 e9 => ?_
    subst e9
    refine wp_bind (pull_nat _ (by omega) (by omega)) fun t10 _ => ?_
    refine wp_bind (wp_mulO (P := fun t => 0 ≤ t ∧ t ≤ 99) (small_mul (by split <;> omega)) ?_) fun t11 h => wp_some h
    split
    · rw [Int.mul_one]; omega
    · rw [Int.mul_zero]; omega
end K51
end
section
set_option maxHeartbeats 2000000
namespace K51
open PySem L2 Kx Mx
/-! ### kits -/
def NotOk (cs : List Str) (ns : List (Str × Str × Int)) : Prop :=
  (∀ n ∈ ns, n.1 ∈ cs ∧ n.2.1 ∈ cs ∧ n.1 ≠ n.2.1 ∧ 1 ≤ n.2.2 ∧ n.2.2 ≤ 99) ∧ ns.Pairwise fun a b => ltP (a.1, a.2.1) (b.1, b.2.1) = true
structure Kit (k : List (Str × Int) × List (Str × Str × Int)) : Prop where
  l1 : 1 ≤ k.1.length
  l2 : k.1.length ≤ 8
  nm : Nms (k.1.map (·.1))
  sz : ∀ x ∈ k.1, 2 ≤ x.2 ∧ x.2 ≤ 24
  nt : NotOk (k.1.map (·.1)) k.2
  nl : k.2.length ≤ 64
theorem slt_ne {a b : Str} (h : sLt a b = true) : a ≠ b := fun e => by
  rw [e, sLt_irr] at h
  cases h
theorem pw_at {α : Type} {R : α → α → Prop} {xs : List α} (h : xs.Pairwise R) {i j : Nat} {x y : α} (hij : i < j) (hx : xs[i]? = some x) (hy : xs[j]? = some y) : R x y := by
  obtain ⟨h1, rfl⟩ := List.getElem?_eq_some_iff.mp hx
  obtain ⟨h2, rfl⟩ := List.getElem?_eq_some_iff.mp hy
  exact List.pairwise_iff_getElem.mp h i j h1 h2 hij
theorem pw_snoc {α : Type} {R : α → α → Prop} {xs : List α} {x : α} (h : xs.Pairwise R) (hx : ∀ y ∈ xs, R y x) : (xs ++ [x]).Pairwise R :=
  List.pairwise_append.mpr ⟨h, List.pairwise_singleton _ _, fun a ha b hb => by rw [List.mem_singleton.mp hb]; exact hx a ha⟩
theorem kit_specW {u m : Int} (z : Sto) (hu1 : 1 ≤ u) (hu2 : u ≤ 8) (hm1 : 2 ≤ m) (hm2 : m ≤ 24) : Wp (m__law_kit (u, m) z) fun r => Kit r.1 ∧ (r.1.1.length : Int) ≤ u ∧ (∀ b ∈ r.1.1, b.2 ≤ m) ∧ Wd (r.1.1.map (·.1)) := by
  unfold m__law_kit
  dsimp only
  refine wp_bind (pull_nat z (by omega) (by omega)) fun t1 ⟨n, e1, hn⟩ => ?_
  rw [e1]
  have en : (1 : Int) + (n : Int) = ((n + 1 : Nat) : Int) := by omega
  rw [en]
  refine wp_bind (calls_specW _ (by omega)) fun t2 ⟨hl2, hc, hwd⟩ => wp_bind (pull_nat _ (by omega) (by omega)) fun t3 ⟨s3, e3, h3⟩ => wp_bind (pull_nat _ (by decide) (by decide)) fun t4 _ => wp_bind (pull_nat _ (by decide) (by decide)) fun t5 ⟨md, e5, h5⟩ => ?_
  rw [e3, e5]
  generalize hcs : t2.1 = cs at hl2 hc hwd
  refine wp_bind (wp_lcS (P := fun r : List Int × Sto => r.1.length = n + 1 ∧ ∀ s ∈ r.1, 2 ≤ s ∧ s ≤ m) (fun _ y => 2 ≤ y ∧ y ≤ m) (by omega) (fun x hx z => ?_) ?_) fun t14 ⟨hl14, h14⟩ => ?_
  · refine wp_bind (P := fun t : Int × Sto => 2 ≤ t.1 ∧ t.1 ≤ m) (wp_cond (fun _ => wp_some ⟨by dsimp only; omega, by dsimp only; omega⟩) fun _ => wp_bind (pull_nat _ (by omega) (by omega)) fun t12 ⟨a, e, h⟩ => wp_some ⟨by dsimp only; omega, by dsimp only; omega⟩) fun t13 h => wp_some h
  · intro r hl h
    refine ⟨by omega, fun s hs => ?_⟩
    obtain ⟨i, hi⟩ := List.mem_iff_getElem?.mp hs
    have hil := (List.getElem?_eq_some_iff.mp hi).1
    exact h i _ s (List.getElem?_eq_getElem (by omega)) hi
  have uq : ∀ {i j : Nat} {x y : Str}, i < j → cs[i]? = some x → cs[j]? = some y → sLt x y = true := fun hij hx hy => pw_at hc.2 hij hx hy
  refine wp_bind (wp_forO (P := fun s : List (Str × Str × Int) × Sto => NotOk cs s.1 ∧ s.1.length ≤ 64) (fun i s => NotOk cs s.1 ∧ (∀ q ∈ s.1, ∃ j, j < i ∧ cs[j]? = some q.1) ∧ s.1.length ≤ i * 8) ⟨⟨fun q hq => (nomatch hq), List.Pairwise.nil⟩, fun q hq => (nomatch hq), by simp⟩ ?_ ?_) fun fin ⟨hf, hf2⟩ => ?_
  · intro i x s hx ⟨g1, g2, g3⟩
    have hi : i < n + 1 := by have := (List.getElem?_eq_some_iff.mp hx).1; omega
    rw [hl2]
    refine wp_bind (wp_rngN (P := fun t => t = irange 0 ((n + 1 : Nat) : Int)) (by omega) rfl) fun t22 e22 => ?_
    subst e22
    refine wp_bind (wp_forO (P := fun s : List (Str × Str × Int) × Sto => NotOk cs s.1 ∧ (∀ q ∈ s.1, ∃ j, j < i + 1 ∧ cs[j]? = some q.1) ∧ s.1.length ≤ (i + 1) * 8) (fun k s => NotOk cs s.1 ∧ (∀ q ∈ s.1, (∃ j, j < i ∧ cs[j]? = some q.1) ∨ (q.1 = x ∧ ∃ j, j < k ∧ cs[j]? = some q.2.1)) ∧ s.1.length ≤ i * 8 + k) ⟨g1, fun q hq => .inl (g2 q hq), by dsimp only; omega⟩ ?_ ?_) fun f2 h => wp_some h
    · intro k y s hy ⟨b1, b2, b3⟩
      obtain ⟨hk, rfl⟩ := irange_at hy
      refine wp_bind (wp_atI (P := fun t => 2 ≤ t ∧ t ≤ m) (by omega) (h14 _ (List.getElem_mem _))) fun t30 h30 => ?_
      refine wp_bind (figure_spec _ (by omega) h30.1 (by omega)) fun t31 h31 => ?_
      have hk' : k < cs.length := by omega
      have ey : cs[k]? = some cs[k] := List.getElem?_eq_getElem hk'
      refine wp_bind (wp_is (P := fun t => t = cs[k]) (atI_nat' hk') rfl) fun t32 e32 => ?_
      subst e32
      refine wp_cond (fun e => ?_) fun e => wp_some ⟨b1, fun q hq => (b2 q hq).imp id fun ⟨c1, j, c2, c3⟩ => ⟨c1, j, by omega, c3⟩, by dsimp only; omega⟩
      rw [Bool.and_eq_true] at e
      have e1 : cs[k] ≠ x := by simpa using e.1
      have e2 : 0 < t31.1 := by simpa using e.2
      refine wp_bind (wp_is (P := fun t => t = cs[k]) (atI_nat' hk') rfl) fun t33 e33 => ?_
      subst e33
      refine wp_bind (wp_appO (P := fun t => t = s.1 ++ [(x, cs[k], t31.1)]) (by omega) rfl) fun t34 e34 => wp_some ?_
      subst e34
      refine ⟨⟨fun q hq => ?_, pw_snoc b1.2 fun q hq => ?_⟩, fun q hq => ?_, by dsimp only; rw [List.length_append]; simp; omega⟩
      · rcases List.mem_append.mp hq with hq | hq
        · exact b1.1 q hq
        · rw [List.mem_singleton.mp hq]
          exact ⟨List.mem_of_getElem? hx, List.mem_of_getElem? ey, fun z => e1 z.symm, by dsimp only; omega, by dsimp only; omega⟩
      · unfold ltP
        dsimp only
        rcases b2 q hq with ⟨j, c1, c2⟩ | ⟨c1, j, c2, c3⟩
        · have := uq c1 c2 hx
          rw [if_neg (slt_ne this)]
          exact this
        · rw [if_pos c1]
          exact uq c2 c3 ey
      · rcases List.mem_append.mp hq with hq | hq
        · exact (b2 q hq).imp id fun ⟨c1, j, c2, c3⟩ => ⟨c1, j, by omega, c3⟩
        · rw [List.mem_singleton.mp hq]
          exact .inr ⟨rfl, k, by omega, ey⟩
    · intro s ⟨b1, b2, b3⟩
      rw [irange_nat_len] at b2 b3
      refine ⟨b1, fun q hq => ?_, by omega⟩
      rcases b2 q hq with ⟨j, c1, c2⟩ | ⟨c1, j, c2, c3⟩
      · exact ⟨j, by omega, c2⟩
      · exact ⟨i, by omega, by rw [c1]; exact hx⟩
  · intro s ⟨g1, g2, g3⟩
    exact ⟨g1, by omega⟩
  rw [hl2]
  refine wp_bind (wp_rngN (P := fun t => t = irange 0 ((n + 1 : Nat) : Int)) (by omega) rfl) fun t35 e35 => ?_
  subst e35
  refine wp_bind (P := fun t : List (Str × Int) => t.length = n + 1 ∧ t.map (·.1) = cs ∧ ∀ x ∈ t, 2 ≤ x.2 ∧ x.2 ≤ m) (wp_lcO (fun x y => ∃ k : Nat, x = (k : Int) ∧ cs[k]? = some y.1 ∧ 2 ≤ y.2 ∧ y.2 ≤ m) (by rw [irange_nat_len]; omega) (fun x hx => ?_) ?_) fun t44 ⟨d1, d2, d3⟩ => wp_some ?_
  · obtain ⟨k, hk, rfl⟩ := irange_mem hx
    have hk' : k < cs.length := by omega
    refine wp_bind (wp_is (P := fun t => t = cs[k]) (atI_nat' hk') rfl) fun t42 e42 => ?_
    subst e42
    refine wp_bind (wp_atI (P := fun t => 2 ≤ t ∧ t ≤ m) (by omega) (h14 _ (List.getElem_mem _))) fun t43 h43 => wp_some ⟨k, rfl, List.getElem?_eq_getElem hk', h43⟩
  · intro ys hl h
    rw [irange_nat_len] at hl
    have at' : ∀ (i : Nat) (y : Str × Int), ys[i]? = some y → cs[i]? = some y.1 ∧ 2 ≤ y.2 ∧ y.2 ≤ m := fun i y e => by
      have hi : i < n + 1 := by have := (List.getElem?_eq_some_iff.mp e).1; omega
      obtain ⟨k, c1, c2⟩ := h i (i : Int) y (by rw [irange_get (by omega)]; simp) e
      have : i = k := by omega
      subst this
      exact c2
    refine ⟨hl, List.ext_getElem? fun i => ?_, fun x hx => ?_⟩
    · rw [List.getElem?_map]
      by_cases hi : i < n + 1
      · have := (at' i _ (List.getElem?_eq_getElem (by omega))).1
        rw [List.getElem?_eq_getElem (by omega : i < ys.length), this]
        rfl
      · rw [List.getElem?_eq_none (by omega), List.getElem?_eq_none (by omega)]
        rfl
    · obtain ⟨i, hi⟩ := List.mem_iff_getElem?.mp hx
      exact (at' i x hi).2
  · refine ⟨⟨by dsimp only; omega, by dsimp only; omega, ?_, fun x hx => (by have := d3 x hx; omega), ?_, hf2⟩, by dsimp only; omega, fun x hx => (d3 x hx).2, by dsimp only; rw [d2]; exact hwd⟩
    · dsimp only; rw [d2]; exact hc
    · dsimp only; rw [d2]; exact hf
theorem kit_spec {u m : Int} (z : Sto) (hu1 : 1 ≤ u) (hu2 : u ≤ 8) (hm1 : 2 ≤ m) (hm2 : m ≤ 24) : Wp (m__law_kit (u, m) z) fun r => Kit r.1 ∧ (r.1.1.length : Int) ≤ u ∧ ∀ b ∈ r.1.1, b.2 ≤ m := (kit_specW z hu1 hu2 hm1 hm2).imp fun _ h => ⟨h.1, h.2.1, h.2.2.1⟩
end K51
end
section
set_option maxHeartbeats 2000000
namespace K51
open PySem L2 Kx Mx
theorem within_spec {x lo hi : Int} (h1 : lo ≤ x) (h2 : x ≤ hi) : m_is_within (x, lo, hi) = some true := by
  unfold m_is_within m_is_whole
  simp [h1, h2]
/-! ### tables whose keys differ -/
section
variable {α β : Type} [DecidableEq α]
theorem putA_new {xs : List (α × β)} {k : α} {v : β} (h : k ∉ xs.map (·.1)) : putA xs k v = xs ++ [(k, v)] := by
  unfold putA
  rw [if_neg]
  intro e
  obtain ⟨x, hx, e⟩ := List.any_eq_true.mp e
  exact h (List.mem_map.mpr ⟨x, hx, of_decide_eq_true e⟩)
theorem mergeA_nodup : ∀ {more acc : List (α × β)}, ((acc ++ more).map (·.1)).Nodup → mergeA acc more = acc ++ more
  | [], acc, _ => by rw [List.append_nil]; rfl
  | p :: more, acc, h => by
    have hn : p.1 ∉ acc.map (·.1) := fun e => by
      rw [List.map_append] at h
      have := (List.nodup_append.mp h).2.2 p.1 e p.1 (by simp)
      exact this rfl
    show mergeA (putA acc p.1 p.2) more = _
    rw [putA_new hn, mergeA_nodup (by simpa using h)]
    simp
theorem dictO_nodup {xs : List (α × β)} (hl : xs.length ≤ 16777216) (h : (xs.map (·.1)).Nodup) : dictO xs = some xs := by
  unfold dictO
  rw [grd_yes hl, mergeA_nodup (by simpa using h)]
  rfl
theorem getA_mem {xs : List (α × β)} {k : α} (h : k ∈ xs.map (·.1)) : ∃ b, getA xs k = some b := by
  induction xs with
  | nil => simp at h
  | cons p xs ih =>
    by_cases e : p.1 = k
    · exact ⟨_, getA_pos e⟩
    · rw [getA_neg e]
      refine ih ?_
      rcases List.mem_cons.mp h with q | q
      · exact absurd q.symm e
      · exact q
end
def cs (k : List (Str × Int) × List (Str × Str × Int)) : List Str := k.1.map (·.1)
def tb (k : List (Str × Int) × List (Str × Str × Int)) : List ((Str × Str) × Int) := k.2.map fun n => ((n.1, n.2.1), n.2.2)
abbrev pl (k : List (Str × Int) × List (Str × Str × Int)) : List (Str × Int) × List (Str × Str × Int) × List (Str × Int) × List ((Str × Str) × Int) := (k.1, k.2, k.1, tb k)
def tk (k : List (Str × Int) × List (Str × Str × Int)) (a b : Str) : Int := getD' (tb k) (a, b) 0
theorem nms_nodup {xs : List Str} (h : Nms xs) : xs.Nodup := h.2.imp fun h => slt_ne h
theorem ltP_ne {a b : Str × Str} (h : ltP a b = true) : a ≠ b := fun e => by
  unfold ltP at h
  rw [e, if_pos rfl, sLt_irr] at h
  cases h
section
variable {k : List (Str × Int) × List (Str × Str × Int)}
theorem Kit.nd (h : Kit k) : (cs k).Nodup := nms_nodup h.nm
theorem Kit.tnd (h : Kit k) : ((tb k).map (·.1)).Nodup := by
  unfold tb
  rw [List.map_map]
  exact (List.pairwise_map.mpr (h.nt.2.imp fun h => ltP_ne h))
theorem dcO_spec (h : Kit k) : dcO (fun x : Str × Str × Int => some ((x.1, x.2.1), x.2.2)) k.2 = some (tb k) := by
  unfold dcO
  have : lcO (fun x : Str × Str × Int => some ((x.1, x.2.1), x.2.2)) k.2 = some (tb k) := by
    obtain ⟨r, e1, e2⟩ := wp_lcO_map (P := fun t => t = tb k) (f := fun x : Str × Str × Int => some ((x.1, x.2.1), x.2.2)) (fun n => ((n.1, n.2.1), n.2.2)) (by have := h.nl; omega) (fun _ _ => rfl) rfl
    rw [e1, e2]
  rw [this]
  show some (mergeA [] (tb k)) = _
  rw [mergeA_nodup (by simpa using h.tnd)]
  rfl
theorem table_spec (h : Kit k) : m__law_table k = some (tb k) := by
  unfold m__law_table
  have : lcO (fun x : Str × Str × Int => some ((x.1, x.2.1), x.2.2)) k.2 = some (tb k) := by
    obtain ⟨r, e1, e2⟩ := wp_lcO_map (P := fun t => t = tb k) (f := fun x : Str × Str × Int => some ((x.1, x.2.1), x.2.2)) (fun n => ((n.1, n.2.1), n.2.2)) (by have := h.nl; omega) (fun _ _ => rfl) rfl
    rw [e1, e2]
  rw [this]
  show (dictO (tb k)).bind _ = _
  rw [dictO_nodup (by unfold tb; rw [List.length_map]; have := h.nl; omega) h.tnd]
  rfl
theorem is_bell_spec {b : Str × Int} (h1 : NameOk b.1) (h2 : 2 ≤ b.2 ∧ b.2 ≤ 24) : m_is_bell b = some true := by
  unfold m_is_bell
  rw [is_name_spec h1, within_spec h2.1 h2.2]
  rfl
theorem Kit.name (h : Kit k) {x : Str × Int} (hx : x ∈ k.1) : NameOk x.1 := h.nm.1 _ (List.mem_map.mpr ⟨x, hx, rfl⟩)
theorem check_bells_spec (h : Kit k) : m_check_bells k.1 = some () := by
  have W : Wp (m_check_bells k.1) fun _ => True := by
    unfold m_check_bells
    refine wp_cond (fun e => ?_) fun _ => ?_
    · have h1 := h.l1
      have h2 := h.l2
      have e1 : decide ((1 : Int) ≤ (k.1.length : Int)) = true := decide_eq_true (by omega)
      have e2 : decide ((k.1.length : Int) ≤ 8) = true := decide_eq_true (by omega)
      rw [e1, e2] at e
      cases e
    refine wp_bind (wp_forO (P := fun _ => True) (fun _ _ => True) trivial (fun i p s hp _ => ?_) fun _ _ => trivial) fun _ _ => wp_some trivial
    obtain ⟨x, hx, rfl⟩ := enum_at hp
    have hxm := List.mem_of_getElem? hx
    refine wp_bind (wp_is (P := fun t => t = true) (is_bell_spec (h.name hxm) (h.sz x hxm)) rfl) fun t e => ?_
    subst e
    refine wp_bind (P := fun t => t = false) (wp_cond (fun e => by cases e) fun _ => wp_bind (P := fun t => t = false) (wp_cond (fun e => ?_) fun _ => wp_some rfl) fun t e => wp_some e) fun t e => ?_
    · have hi : 0 < i := by have : (0 : Int) < (i : Int) := of_decide_eq_true e; omega
      have hil := (List.getElem?_eq_some_iff.mp hx).1
      have e1 : (i : Int) - 1 = ((i - 1 : Nat) : Int) := by omega
      dsimp only
      rw [e1]
      refine wp_bind (wp_is (P := fun t => t = k.1[i - 1]) (atI_nat' (by omega)) rfl) fun t13 e13 => wp_some ?_
      subst e13
      have := pw_at h.nm.2 (i := i - 1) (j := i) (x := (k.1[i - 1]).1) (y := x.1) (by omega) (by rw [List.getElem?_map, List.getElem?_eq_getElem (by omega)]; rfl) (by rw [List.getElem?_map, hx]; rfl)
      rw [this]
      rfl
    · subst e
      exact wp_cond (fun e => by cases e) fun _ => wp_some trivial
  obtain ⟨⟨⟩, hr, _⟩ := W
  exact hr
theorem is_notch_spec (h : Kit k) {n : Str × Str × Int} (hn : n ∈ k.2) : m_is_notch (n, cs k) = some true := by
  obtain ⟨h1, h2, h3, h4, h5⟩ := h.nt.1 n hn
  have n1 := h.nm.1 _ h1
  have n2 := h.nm.1 _ h2
  have W : Wp (m_is_notch (n, cs k)) fun b => b = true := by
    unfold m_is_notch
    refine wp_cond (fun e => by cases e) fun _ => ?_
    refine wp_bind (P := fun t : List Bool => t.all id = true) ?_ fun t8 h8 => ?_
    · refine (wp_is (x := [true, true]) ?_ rfl)
      unfold lcO
      rw [grd_yes (by simp)]
      have m1 : memB n.1 (cs k) = true := decide_eq_true h1
      have m2 : memB n.2.1 (cs k) = true := decide_eq_true h2
      simp [mapO, is_name_spec n1, is_name_spec n2, m1, m2]
    · rw [h8]
      refine wp_cond (fun e => by cases e) fun _ => wp_bind (P := fun t => t = true) (wp_cond (fun _ => ?_) fun e => ?_) fun t e => wp_some e
      · rw [within_spec h4 h5]
        exact wp_some rfl
      · exact absurd (by simpa using e) h3
  obtain ⟨r, hr, e⟩ := W
  rw [hr, e]
theorem check_notches_spec (h : Kit k) : m_check_notches (k.2, cs k) = some () := by
  have W : Wp (m_check_notches (k.2, cs k)) fun _ => True := by
    unfold m_check_notches
    refine wp_cond (fun e => by cases e) fun _ => ?_
    refine wp_bind (wp_forO (P := fun _ => True) (fun _ _ => True) trivial (fun i p s hp _ => ?_) fun _ _ => trivial) fun _ _ => wp_some trivial
    obtain ⟨x, hx, rfl⟩ := enum_at hp
    have hxm := List.mem_of_getElem? hx
    refine wp_bind (wp_is (P := fun t => t = true) (is_notch_spec h hxm) rfl) fun t e => ?_
    subst e
    refine wp_bind (P := fun t => t = false) (wp_cond (fun e => by cases e) fun _ => wp_bind (P := fun t => t = false) (wp_cond (fun e => ?_) fun _ => wp_some rfl) fun t e => wp_some e) fun t e => ?_
    · have hi : 0 < i := by have : (0 : Int) < (i : Int) := of_decide_eq_true e; omega
      have hil := (List.getElem?_eq_some_iff.mp hx).1
      have e1 : (i : Int) - 1 = ((i - 1 : Nat) : Int) := by omega
      dsimp only at hil ⊢
      rw [e1]
      refine wp_bind (wp_is (P := fun t => t = k.2[i - 1]) (atI_nat' (by omega)) rfl) fun t13 e13 => wp_some ?_
      subst e13
      have := pw_at h.nt.2 (i := i - 1) (j := i) (x := k.2[i - 1]) (y := x) (by omega) (List.getElem?_eq_getElem (by omega)) hx
      rw [this]
      rfl
    · subst e
      exact wp_cond (fun e => by cases e) fun _ => wp_some trivial
  obtain ⟨⟨⟩, hr, _⟩ := W
  exact hr
theorem names_lc (h : Kit k) : lcO (fun x : Str × Int => some x.1) k.1 = some (cs k) := by
  obtain ⟨r, e1, e2⟩ := wp_lcO_map (P := fun t => t = cs k) (f := fun x : Str × Int => some x.1) (fun n => n.1) (by have := h.l2; omega) (fun _ _ => rfl) rfl
  rw [e1, e2]
theorem init_spec (h : Kit k) : m_Peal___init__ (k.1, k.2) = some (pl k) := by
  unfold m_Peal___init__
  rw [check_bells_spec h]
  show (lcO _ k.1).bind _ = _
  rw [names_lc h]
  show (m_check_notches (k.2, cs k)).bind _ = _
  rw [check_notches_spec h]
  show (dictO k.1).bind _ = _
  rw [dictO_nodup (by have := h.l2; omega) h.nd]
  show (dcO _ k.2).bind _ = _
  rw [dcO_spec h]
  rfl
theorem check_name_spec (h : Kit k) {a : Str} (ha : a ∈ cs k) : m_check_name (pl k, a) = some () := by
  unfold m_check_name
  rw [is_name_spec (h.nm.1 _ ha)]
  obtain ⟨b, e⟩ := getA_mem (xs := k.1) ha
  show cond ((!true) || !hasA k.1 a) none (some ()) = _
  unfold hasA
  rw [e]
  rfl
theorem notch_spec (h : Kit k) {a b : Str} (ha : a ∈ cs k) (hb : b ∈ cs k) : m_Peal_notch (pl k, a, b) = some (tk k a b) := by
  unfold m_Peal_notch
  rw [check_name_spec h ha, check_name_spec h hb]
  rfl
end
end K51
end
section
set_option maxHeartbeats 2000000
namespace K51
open PySem L2 Kx Mx
/-! ### the pairs of a row: the one ahead of the other -/
def prs : List Str → List (Str × Str)
  | [] => []
  | x :: xs => xs.map (fun y => (x, y)) ++ prs xs
theorem mem_prs_cons {a b x : Str} {xs : List Str} : (a, b) ∈ prs (x :: xs) ↔ (a = x ∧ b ∈ xs) ∨ (a, b) ∈ prs xs := by
  rw [prs, List.mem_append, List.mem_map]
  constructor
  · rintro (⟨y, hy, e⟩ | h)
    · cases e
      exact .inl ⟨rfl, hy⟩
    · exact .inr h
  · rintro (⟨rfl, h⟩ | h)
    · exact .inl ⟨b, h, rfl⟩
    · exact .inr h
theorem prs_mem {a b : Str} : ∀ {xs : List Str}, (a, b) ∈ prs xs → a ∈ xs ∧ b ∈ xs
  | [], h => nomatch h
  | x :: xs, h => by
    rcases mem_prs_cons.mp h with ⟨e, h2⟩ | h2
    · exact ⟨e ▸ List.mem_cons_self, List.mem_cons_of_mem _ h2⟩
    · obtain ⟨h1, h2⟩ := prs_mem h2
      exact ⟨List.mem_cons_of_mem _ h1, List.mem_cons_of_mem _ h2⟩
theorem prs_len : ∀ xs : List Str, (prs xs).length ≤ xs.length * xs.length
  | [] => Nat.le_refl _
  | x :: xs => by
    have := prs_len xs
    rw [prs, List.length_append, List.length_map, List.length_cons, Nat.add_mul, Nat.mul_add]
    omega
theorem prs_anti {a b : Str} : ∀ {xs : List Str}, xs.Nodup → (a, b) ∈ prs xs → (b, a) ∉ prs xs
  | [], _, h => nomatch h
  | x :: xs, nd, h => by
    obtain ⟨n1, n2⟩ := List.nodup_cons.mp nd
    intro h'
    rcases mem_prs_cons.mp h with ⟨e1, q1⟩ | q1
    · rcases mem_prs_cons.mp h' with ⟨e2, q2⟩ | q2
      · exact n1 (e1 ▸ q2)
      · exact n1 (e1 ▸ (prs_mem q2).2)
    · rcases mem_prs_cons.mp h' with ⟨e2, q2⟩ | q2
      · exact n1 (e2 ▸ (prs_mem q1).2)
      · exact prs_anti n2 q1 q2
theorem prs_ne {a b : Str} {xs : List Str} (nd : xs.Nodup) (h : (a, b) ∈ prs xs) : a ≠ b := fun e => by
  subst e
  exact prs_anti nd h h
/-! places -/
/-! ahead_in -/
def ps2 : List Str → List (List (Str × Str))
  | [] => []
  | x :: xs => xs.map (fun y => (x, y)) :: ps2 xs
theorem ps2_flat : ∀ xs : List Str, (ps2 xs).flatten = prs xs
  | [] => rfl
  | x :: xs => by rw [ps2, List.flatten_cons, ps2_flat xs, prs]
theorem mapO_some {α β : Type} {f : α → Option β} {g : α → β} : ∀ {xs : List α}, (∀ x ∈ xs, f x = some (g x)) → mapO f xs = some (xs.map g)
  | [], _ => rfl
  | x :: xs, h => by
    unfold mapO
    rw [h x List.mem_cons_self, mapO_some fun y hy => h y (List.mem_cons_of_mem _ hy)]
    rfl
theorem ahead_map (r : List Str) : ∀ (pre s : List Str), r = pre ++ s → mapO (fun x : Int × Str => (some (cut r (some (x.1 + 1)) none)).bind fun zs => mapO (fun y : Str => some (x.2, y)) zs) (s.mapIdx fun i x => (((pre.length + i : Nat) : Int), x)) = some (ps2 s)
  | pre, [], _ => rfl
  | pre, x :: s, e => by
    rw [List.mapIdx_cons]
    have e1 : ((pre.length + 0 : Nat) : Int) + 1 = ((pre.length + 1 : Nat) : Int) := by omega
    have e2 : cut r (some (((pre.length + 0 : Nat) : Int) + 1)) none = s := by
      rw [e1, cut_from, e]
      rw [show pre.length + 1 = (pre ++ [x]).length by simp, show pre ++ x :: s = (pre ++ [x]) ++ s by simp, List.drop_left]
    have ih := ahead_map r (pre ++ [x]) s (by rw [e]; simp)
    have e3 : (fun (i : Nat) (y : Str) => (((pre.length + (i + 1) : Nat) : Int), y)) = fun (i : Nat) (y : Str) => ((((pre ++ [x]).length + i : Nat) : Int), y) := by
      funext i y
      rw [List.length_append, List.length_singleton]
      congr 2
      omega
    rw [← e3] at ih
    unfold mapO
    rw [ih]
    dsimp only
    rw [e2]
    show ((some s).bind fun zs => mapO _ zs).bind _ = _
    rw [Option.bind_some, mapO_some (g := fun y => (x, y)) fun _ _ => rfl]
    rfl
/-! ### sums -/
def sumF {α : Type} (xs : List α) (f : α → Int) : Int := (xs.map f).sum
theorem sumF_nil {α : Type} {f : α → Int} : sumF [] f = 0 := rfl
theorem sumF_cons {α : Type} {x : α} {xs : List α} {f : α → Int} : sumF (x :: xs) f = f x + sumF xs f := by unfold sumF; simp
theorem sumF_congr {α : Type} {xs : List α} {f g : α → Int} (h : ∀ x ∈ xs, f x = g x) : sumF xs f = sumF xs g := by
  unfold sumF
  rw [List.map_congr_left h]
theorem sumF_zero {α : Type} {xs : List α} {f : α → Int} (h : ∀ x ∈ xs, f x = 0) : sumF xs f = 0 := by
  induction xs with
  | nil => rfl
  | cons x xs ih => rw [sumF_cons, h x List.mem_cons_self, ih fun y hy => h y (List.mem_cons_of_mem _ hy)]; rfl
end K51
end
section
set_option maxHeartbeats 2000000
namespace K51
open PySem L2 Kx Mx
theorem ahead_spec {r : List Str} (h : r.length ≤ 8) : m_ahead_in r = some (prs r) := by
  unfold m_ahead_in lc2O
  have e : enum r = r.mapIdx fun i x => (((([] : List Str).length + i : Nat) : Int), x) := by
    unfold enum
    congr 1
    funext i x
    simp
  have := ahead_map r [] r rfl
  show ((mapO (fun x : Int × Str => (some (cut r (some (x.1 + 1)) none)).bind fun zs => mapO (fun y : Str => some (x.2, y)) zs) (enum r)).bind fun rs => (grd (rs.flatten.length ≤ 16777216)).bind fun _ => some rs.flatten).bind (fun t => some t) = _
  rw [e, this]
  show ((grd ((ps2 r).flatten.length ≤ 16777216)).bind fun _ => some (ps2 r).flatten).bind _ = _
  rw [ps2_flat, grd_yes (by have := prs_len r; have : r.length * r.length ≤ 8 * 8 := Nat.mul_le_mul h h; omega)]
  rfl
end K51
end
section
set_option maxHeartbeats 2000000
namespace K51
open PySem L2 Kx Mx
section
variable {α β : Type} [DecidableEq α]
theorem getA_map {k j : α} {v : β} : ∀ {xs : List (α × β)}, getA (xs.map fun x => if x.1 = k then (x.1, v) else x) j = (getA xs j).map fun y => if j = k then v else y
  | [] => rfl
  | p :: xs => by
    rw [List.map_cons]
    have e1 : (if p.1 = k then (p.1, v) else p).1 = p.1 := by split <;> rfl
    by_cases e : p.1 = j
    · rw [getA_pos (e1.trans e), getA_pos e]
      subst e
      by_cases q : p.1 = k
      · simp [q]
      · simp [q]
    · rw [getA_neg (fun z => e (e1.symm.trans z)), getA_neg e, getA_map]
theorem getA_snoc {k j : α} {v : β} : ∀ {xs : List (α × β)}, (¬ k ∈ xs.map (·.1)) → getA (xs ++ [(k, v)]) j = if j = k then some v else getA xs j
  | [], _ => by
    by_cases e : k = j
    · subst e
      rw [if_pos rfl]
      exact getA_pos (p := (k, v)) rfl
    · rw [if_neg (fun z => e z.symm)]
      exact getA_neg (p := (k, v)) e
  | p :: xs, h => by
    have h1 : p.1 ≠ k := fun e => h (by rw [List.map_cons, e]; exact List.mem_cons_self)
    have ih := getA_snoc (j := j) (v := v) (xs := xs) fun e => h (by rw [List.map_cons]; exact List.mem_cons_of_mem _ e)
    rw [List.cons_append]
    by_cases e : p.1 = j
    · rw [getA_pos e, getA_pos e, if_neg fun z => h1 (e.trans z)]
    · rw [getA_neg e, getA_neg e, ih]
theorem getA_put {k j : α} {v : β} {xs : List (α × β)} : getA (putA xs k v) j = if j = k then some v else getA xs j := by
  by_cases q : k ∈ xs.map (·.1)
  · obtain ⟨b, hb⟩ := getA_mem q
    have : (xs.any fun x => decide (x.1 = k)) = true := by
      obtain ⟨x, hx, e⟩ := List.mem_map.mp q
      exact List.any_eq_true.mpr ⟨x, hx, decide_eq_true e⟩
    unfold putA
    rw [if_pos this, getA_map]
    by_cases e : j = k
    · subst e
      rw [hb, if_pos rfl]
      simp
    · rw [if_neg e]
      cases getA xs j <;> simp [e]
  · rw [putA_new q, getA_snoc q]
theorem getD_put {k j : α} {v z : β} {xs : List (α × β)} : getD' (putA xs k v) j z = if j = k then v else getD' xs j z := by
  unfold getD'
  rw [getA_put]
  by_cases e : j = k
  · rw [if_pos e, if_pos e]; rfl
  · rw [if_neg e, if_neg e]
end
abbrev KT0 := List (Str × Int) × List (Str × Str × Int)
section
variable {k : KT0}
theorem lc_mod (h : Kit k) {f : Str × Int → Int} : lcO (fun x : Str × Int => (modO (f x) x.2).bind fun t => some t) k.1 = some (k.1.map fun b => f b % b.2) := by
  obtain ⟨r, e1, e2⟩ := wp_lcO_map (P := fun t => t = k.1.map fun b => f b % b.2) (f := fun x : Str × Int => (modO (f x) x.2).bind fun t => some t) (fun b => f b % b.2) (by have := h.l2; omega) (fun x hx => by
    have := h.sz x hx
    unfold modO
    rw [grd_yes (by omega)]
    show some ((f x).fmod x.2) = _
    rw [fm (by omega)]) rfl
  rw [e1, e2]
end
end K51
end
section
set_option maxHeartbeats 2000000
namespace K51
open PySem L2 Kx Mx
/-! ### standings: the row, each dial by its bell -/
abbrev SS := List Str × (Str × Int → Int)
section
variable {k : KT0} {s : SS} {x : Str}
theorem Kit.knd (h : Kit k) : k.1.Nodup := by
  have := h.nd
  unfold cs at this
  exact (List.pairwise_map.mp this).imp fun {a b} z e => z (by rw [e])
theorem dials_fn (h : Kit k) {ds : List Int} (hl : ds.length = k.1.length) : ∃ f, ds = k.1.map f := by
  refine ⟨fun b => ds.getD (k.1.idxOf b) 0, ?_⟩
  refine List.ext_getElem (by rw [List.length_map, hl]) fun i h1 h2 => ?_
  rw [List.getElem_map]
  have hi : i < k.1.length := by omega
  rw [h.knd.idxOf_getElem i hi]
  simp [List.getD, h1]
end
end K51
end
section
set_option maxHeartbeats 2000000
namespace K51
open PySem L2 Kx Mx
/-! ### repr of standings -/
theorem toPy_str (x : Str) : toPy (.str x) = .str x := by unfold toPy; rfl
theorem toPy_int (x : Int) : toPy (.int x) = .int x := by unfold toPy; rfl
/-- what is asked of each part of what is shown -/
structure RepAll (n m : Nat) (xs : List PyData) : Prop where
  w : PyData.weightAll xs ≤ n * xs.length
  i : PyData.intsShortAll 40 xs = true
  s : PyData.showableAll xs = true
  d : PyData.depthAll xs ≤ m
structure Rep (n m : Nat) (x : PyData) : Prop where
  w : x.weight + 1 ≤ n
  i : x.intsShort 40 = true
  s : x.showable = true
  d : x.depth ≤ m
theorem repAll {n m : Nat} : ∀ {xs : List PyData}, (∀ x ∈ xs, Rep n m x) → RepAll n m xs
  | [], _ => ⟨by unfold PyData.weightAll; simp, by unfold PyData.intsShortAll; rfl, by unfold PyData.showableAll; rfl, by unfold PyData.depthAll; omega⟩
  | x :: xs, h => by
    have h1 := h x List.mem_cons_self
    have h2 := repAll fun y hy => h y (List.mem_cons_of_mem _ hy)
    refine ⟨?_, ?_, ?_, ?_⟩
    · unfold PyData.weightAll
      rw [List.length_cons, Nat.mul_add]
      have := h1.w
      have := h2.w
      omega
    · unfold PyData.intsShortAll; rw [h1.i, h2.i]; rfl
    · unfold PyData.showableAll; rw [h1.s, h2.s]; rfl
    · unfold PyData.depthAll
      have := h1.d
      have := h2.d
      omega
theorem rep_tup {n m l : Nat} {xs : List PyData} (h : ∀ x ∈ xs, Rep n m x) (hl : n * xs.length + 1 ≤ l) : Rep l (m + 1) (.tuple xs) := by
  have := repAll h
  refine ⟨?_, ?_, ?_, ?_⟩
  · unfold PyData.weight; have := this.w; omega
  · unfold PyData.intsShort; exact this.i
  · unfold PyData.showable; exact this.s
  · unfold PyData.depth; have := this.d; omega
theorem Rep.ok {n m : Nat} {x : PyData} (h : Rep n m x) (hn : n ≤ 100000) (hm : m ≤ 50) : ∃ t, reprO x = some t := by
  refine ⟨x.shown, ?_⟩
  unfold reprO
  rw [if_pos]
  unfold repOk
  have h1 := h.w
  have h2 := h.d
  rw [h.i, h.s, decide_eq_true (by omega), decide_eq_true (by omega)]
  rfl
theorem Rep.mono {n m n' m' : Nat} {x : PyData} (h : Rep n m x) (hn : n ≤ n') (hm : m ≤ m') : Rep n' m' x := ⟨Nat.le_trans h.w hn, h.i, h.s, Nat.le_trans h.d hm⟩
end K51
end
section
set_option maxHeartbeats 2000000
namespace K51
open PySem L2 Kx Mx
section
variable {k : KT0}
/-- by how much c is turned on where a and b flip twice -/
def swf (k : KT0) (a b c : Str) : Int := (if c = a then tk k b a else 0) + if c = b then tk k a b else 0
end
end K51
end
section
set_option maxHeartbeats 2000000
namespace K51
open PySem L2 Kx Mx
/-! ### things of any kind -/
inductive Adm : Dat → Prop
  | non : Adm .none
  | bl (b : Bool) : Adm (.bool b)
  | int (i : Int) : Adm (.int i)
  | str {z : Str} (h : z.length ≤ 1000) : Adm (.str z)
  | lst (xs : List Dat) : Adm (.list xs)
  | tup {xs : List Dat} (h : ∀ x ∈ xs, Adm x) (hl : xs.length ≤ 1000) : Adm (.tuple xs)
  | dK (ks : List Key) (xs : List Dat) : Adm (.dK ks xs)
  | ins (ns : List Str) (xs : List Dat) : Adm (.ins "Peal" ns xs)
theorem Adm.is {d : Dat} (h : Adm d) (f : Dat → Bool) : isO1 "Peal" f d = some (f d) := by
  cases h with
  | ins ns xs =>
    show cond (decide (("Peal" : Str) = "Peal")) (some (f (.ins "Peal" ns xs))) none = _
    rw [decide_eq_true rfl]
    rfl
  | _ => rfl
theorem Adm.row {r : List Str} (h : ∀ x ∈ r, x.length ≤ 1000) (hl : r.length ≤ 1000) : Adm (.tuple (r.map Dat.str)) := .tup (fun x hx => by
  obtain ⟨y, hy, rfl⟩ := List.mem_map.mp hx
  exact .str (h y hy)) (by rw [List.length_map]; exact hl)
def whB : Dat → Bool
  | .int _ => true
  | _ => false
theorem whole2 {d : Dat} (h : Adm d) : m_is_whole_2 d = some (whB d) := by
  unfold m_is_whole_2
  rw [h.is]
  cases h <;> rfl
def wiB (lo hi : Int) : Dat → Bool
  | .int i => decide (lo ≤ i) && decide (i ≤ hi)
  | _ => false
theorem within2 {d : Dat} {lo hi : Int} (h : Adm d) : m_is_within_2 (d, lo, hi) = some (wiB lo hi d) := by
  unfold m_is_within_2
  dsimp only
  rw [whole2 h]
  cases h <;> rfl
theorem cat_ok {α : Type} {x y : List α} (h : x.length + y.length ≤ 16777216) : catO x y = some (x ++ y) := by
  unfold catO
  rw [grd_yes h]
  rfl
end K51
end
section
set_option maxHeartbeats 4000000
namespace K51
open PySem L2 Kx Mx TL
/-! ### checks of things of any kind, told whole -/
theorem eT_id {ds : List Dat} : eT id ds = .tuple ds := by
  show Dat.tuple (ds.map id) = _
  rw [List.map_id]
/-! names -/
section
variable {k : KT0}
/-! peals -/
theorem check_no {d : Dat} (h : isP "Peal" d = some false) : m_check_peal_2 d = some (.inr ("NoPeal", none)) := by
  unfold m_check_peal_2
  rw [h]
  rfl
theorem peal_first {T : Type} {d : Dat} {f : Unit → Option (T ⊕ Ex)} (h : isP "Peal" d = some false) : ((m_check_peal_2 d).bind fun t1 => orX t1 f (fun x => some (.inr x))) = some (.inr ("NoPeal", none)) := by
  rw [check_no h]
  rfl
/-! rows -/
end
end K51
end
section
set_option maxHeartbeats 4000000
namespace K51
open PySem L2 Kx Mx TL
/-! ### texts of a Peal, things that are none -/
structure SmS (n : Nat) (z : Str) : Prop where
  l : z.length ≤ n
  s : ∀ c ∈ tl z, c < 0x110000
theorem SmS.sok {n : Nat} {z : Str} (h : SmS n z) : sok z = true := sok_iff.mpr h.s
theorem SmS.mono {n m : Nat} {a : Str} (h : SmS n a) (hm : n ≤ m) : SmS m a := ⟨Nat.le_trans h.l hm, h.s⟩
theorem char_lt (c : Char) : c.toNat < 0x110000 := by
  have h := c.valid
  rcases h with h | h
  · have : c.toNat < 0xd800 := h
    omega
  · exact h.2
theorem smS_of (s : String) {n : Nat} (h : (Str.ofString s).length ≤ n) : SmS n (Str.ofString s) := ⟨h, fun c hc => by
  have hc : c ∈ (Str.ofString s).cps.toList := hc
  rw [Str.ofString_eq_toList] at hc
  simp at hc
  obtain ⟨a, _, rfl⟩ := hc
  exact char_lt a⟩
theorem strI_sm {i : Int} (h0 : 0 ≤ i) (h : i < 1000) : ∃ t, strIO i = some t ∧ SmS 100 t := by
  obtain ⟨n, rfl⟩ : ∃ n : Nat, i = (n : Int) := ⟨i.toNat, by omega⟩
  refine ⟨Str.ofString (toString (n : Int)), ?_, ?_, ?_⟩
  · unfold strIO
    rw [grd_yes]
    · rfl
    · refine ⟨?_, (smS_of (toString (n : Int)) (Nat.le_refl _)).sok⟩
      have hl : (n : Int).natAbs.log2 ≤ (n : Int).natAbs := Nat.log2_le_self _
      omega
  · rw [len_tl, tl_num]
    have := numL_len (n := n) (k := 3) (by decide) (by omega)
    omega
  · exact (smS_of (toString (n : Int)) (Nat.le_refl _)).s
end K51
end
section
set_option maxHeartbeats 4000000
namespace K51
open PySem L2 Kx Mx TL
/-! ### weights: what each two keep, by the program and by the law -/
section
variable {k : KT0} {s t : SS} {a b : Str}
def mS (k : KT0) : List Int := k.1.map (·.2)
theorem mS_len : (mS k).length = k.1.length := by unfold mS; rw [List.length_map]
theorem cs_len : (cs k).length = k.1.length := by unfold cs; rw [List.length_map]
theorem Kit.mdl (h : Kit k) : Mdl (mS k) := ⟨by rw [mS_len]; exact h.l1, by rw [mS_len]; have := h.l2; omega, fun x hx => by
  obtain ⟨b, hb, rfl⟩ := List.mem_map.mp hx
  have := h.sz b hb
  show 1 ≤ b.2 ∧ b.2 ≤ 99
  omega⟩
theorem twos_spec (h : Kit k) : m_twos (pl k) = some (prs (cs k)) := by
  unfold m_twos m_Peal_names
  show (((lcO _ k.1).bind _).bind _) = _
  rw [names_lc h]
  have hc : (cs k).length = k.1.length := by unfold cs; rw [List.length_map]
  show (m_ahead_in (cs k)).bind _ = _
  rw [ahead_spec (by have := h.l2; omega)]
  rfl
theorem prs_ok (h : Kit k) : ∀ p ∈ prs (cs k), p.1 ∈ cs k ∧ p.2 ∈ cs k ∧ p.1 ≠ p.2 := fun p hp => by
  obtain ⟨m1, m2⟩ := prs_mem (a := p.1) (b := p.2) hp
  exact ⟨m1, m2, prs_ne h.nd hp⟩
theorem swing_of_spec (h : Kit k) (ha : a ∈ cs k) (hb : b ∈ cs k) (ne : a ≠ b) : m_swing_of (pl k, a, b) = some (k.1.map fun c => swf k a b c.1 % c.2) := by
  unfold m_swing_of
  dsimp only
  rw [notch_spec h ha hb, Option.bind_some, notch_spec h hb ha, Option.bind_some]
  unfold m_dials_of
  dsimp only
  rw [lc_mod h (f := fun c => getD' (mergeA [] [(b, tk k a b), (a, tk k b a)]) c.1 0), Option.bind_some, Option.bind_some]
  congr 1
  refine List.map_congr_left fun c _ => ?_
  congr 1
  have em : mergeA [] [(b, tk k a b), (a, tk k b a)] = putA (putA [] b (tk k a b)) a (tk k b a) := rfl
  rw [em, getD_put, getD_put]
  unfold swf
  by_cases q1 : c.1 = a
  · rw [if_pos q1, if_pos q1, if_neg fun z => ne (q1.symm.trans z)]
    omega
  · rw [if_neg q1, if_neg q1, Int.zero_add]
    rfl
theorem prs_half : ∀ xs : List Str, 2 * (prs xs).length + xs.length = xs.length * xs.length
  | [] => rfl
  | x :: xs => by
    have := prs_half xs
    have e : (xs.length + 1) * (xs.length + 1) = xs.length * xs.length + 2 * xs.length + 1 := by rw [Nat.add_mul, Nat.mul_add]; omega
    rw [prs, List.length_append, List.length_map, List.length_cons, e]
    omega
theorem prs_28 (h : Kit k) : (prs (cs k)).length ≤ 28 := by
  have e := prs_half (cs k)
  have l := h.l2
  have l1 := h.l1
  have c := cs_len (k := k)
  generalize (cs k).length = n at e c
  have : n ≤ 8 := by omega
  have hn : n = 1 ∨ n = 2 ∨ n = 3 ∨ n = 4 ∨ n = 5 ∨ n = 6 ∨ n = 7 ∨ n = 8 := by omega
  rcases hn with rfl | rfl | rfl | rfl | rfl | rfl | rfl | rfl <;> omega
def swR (k : KT0) (p : Str × Str) : List Int := k.1.map fun c => swf k p.1 p.2 c.1 % c.2
def swV (k : KT0) : List (List Int) := (prs (cs k)).map (swR k)
theorem swings_eq (h : Kit k) : m_swings (pl k) = some (swV k) := by
  unfold m_swings
  have l := h.l2
  rw [twos_spec h, Option.bind_some]
  have l28 := prs_28 h
  obtain ⟨r, a, e⟩ := wp_lcO_map (P := fun r => r = swV k) (f := fun x2 : Str × Str => (m_swing_of (pl k, x2.1, x2.2)).bind fun t10 => some t10) (xs := prs (cs k)) (swR k) (by omega) (fun p hp => by
    obtain ⟨a1, a2, a3⟩ := prs_ok h p hp
    rw [swing_of_spec h a1 a2 a3]
    rfl) rfl
  rw [a, e]
  rfl
theorem ps2_at' : ∀ {xs : List Str} {i : Nat} (h : i < xs.length), (ps2 xs)[i]? = some ((xs.drop (i + 1)).map fun y => (xs[i], y))
  | x :: xs, 0, _ => rfl
  | x :: xs, i + 1, h => by
    rw [ps2, List.getElem?_cons_succ, ps2_at' (xs := xs) (by rw [List.length_cons] at h; omega)]
    rfl
theorem ps2_len' : ∀ xs : List Str, (ps2 xs).length = xs.length
  | [] => rfl
  | x :: xs => by rw [ps2, List.length_cons, List.length_cons, ps2_len' xs]
theorem law_twos_spec (h : Kit k) : m__law_twos k = some (prs (cs k)) := by
  have W : Wp (m__law_twos k) fun t => t = prs (cs k) := by
    unfold m__law_twos
    rw [names_lc h, Option.bind_some]
    have hl8 : (cs k).length ≤ 8 := by unfold cs; rw [List.length_map]; exact h.l2
    have lp : (prs (cs k)).length ≤ 64 := by have := prs_len (cs k); have : (cs k).length * (cs k).length ≤ 8 * 8 := Nat.mul_le_mul hl8 hl8; omega
    refine wp_bind (wp_rngN (P := fun t => t = irange 0 ((cs k).length : Int)) (by omega) rfl) fun t8 e8 => ?_
    subst e8
    refine wp_bind (wp_forO (P := fun st => st = prs (cs k)) (fun i st => st = ((ps2 (cs k)).take i).flatten) rfl ?_ fun s e => by rw [e, irange_nat_len, ← ps2_len', List.take_length, ps2_flat]) fun fin hf => wp_some hf
    intro i x st hx e
    subst e
    obtain ⟨hi, rfl⟩ := irange_at hx
    have e1 : (i : Int) + 1 = ((i + 1 : Nat) : Int) := by omega
    rw [e1, cut_from]
    refine wp_bind (wp_lcO_map (P := fun t => t = ((cs k).drop (i + 1)).map fun y => ((cs k)[i], y)) (fun y => ((cs k)[i], y)) (by rw [List.length_drop]; omega) (fun y _ => by rw [atI_nat' hi]; rfl) rfl) fun t23 e23 => ?_
    have et : ((ps2 (cs k)).take (i + 1)).flatten = ((ps2 (cs k)).take i).flatten ++ t23 := by
      rw [List.take_add_one, ps2_at' hi, e23, List.flatten_append]
      simp
    have lt : (((ps2 (cs k)).take i).flatten ++ t23).length ≤ 64 := by
      rw [← et]
      refine Nat.le_trans ?_ lp
      rw [← ps2_flat]
      have : (ps2 (cs k)).flatten = ((ps2 (cs k)).take (i + 1)).flatten ++ ((ps2 (cs k)).drop (i + 1)).flatten := by rw [← List.flatten_append, List.take_append_drop]
      rw [this, List.length_append]
      omega
    rw [List.length_append] at lt
    exact wp_bind (wp_catO (P := fun t => t = ((ps2 (cs k)).take (i + 1)).flatten) (by omega) et.symm) fun t e => wp_some e
  obtain ⟨r, hr, e⟩ := W
  rw [hr, e]
/-! order of the pairs -/
theorem all_marks_spec (h : Kit k) : m_all_marks (pl k) = some (mS k) := by
  unfold m_all_marks
  have l := h.l2
  obtain ⟨r, a, e⟩ := wp_lcO_map (P := fun r => r = mS k) (f := fun x1 : Str × Int => some x1.2) (xs := k.1) (·.2) (by omega) (fun _ _ => rfl) rfl
  show (lcO (fun x1 : Str × Int => some x1.2) k.1).bind _ = _
  rw [a, e]
  rfl
theorem zip3s {α β γ δ : Type} (f : α → β) (g : α → γ) (m : α → δ) : ∀ l : List α, (l.map f).zip ((l.map g).zip (l.map m)) = l.map fun b => (f b, g b, m b)
  | [] => rfl
  | x :: xs => by simp only [List.map_cons, List.zip_cons_cons, zip3s f g m xs]
theorem fdiv_wide {i j : Int} (h1 : 0 < j) (h2 : j < 2 ^ 200) : fdivO i j = some (i / j) := by
  unfold fdivO
  rw [grd_yes (.inr (cdivw (n := 0) h1 h2)), Option.bind_some, fd h1]
theorem mod_pos {i j : Int} (h : 0 < j) : modO i j = some (i % j) := by
  unfold modO
  rw [grd_yes (show j ≠ 0 by omega), Option.bind_some, fm h]
theorem mul_sm {i j : Int} (h : -(2 ^ 64) < i ∧ i < 2 ^ 64) : mulO i j = some (i * j) := by
  unfold mulO
  rw [grd_yes (small_mul' h)]
  rfl
/-- the least common number of the marks -/
theorem common_L (h : Kit k) : ∃ L : Int, m_common (mS k) = some L ∧ 0 < L ∧ L ≤ 99 ^ 12 ∧ ∀ c ∈ k.1, c.2 ∣ L := by
  obtain ⟨L, e, h1, h2, h3⟩ := common_spec h.mdl
  refine ⟨L, e, h1, h2, fun c hc => ?_⟩
  obtain ⟨i, hi⟩ := List.mem_iff_getElem?.mp hc
  have hil := (List.getElem?_eq_some_iff.mp hi).1
  have := h3 i (by rw [mS_len]; exact hil)
  have e : vf (mS k) i = c.2 := by
    unfold vf mS
    rw [List.getD_eq_getElem?_getD, List.getElem?_map, hi]
    rfl
  rw [e] at this
  exact this
/-- the sum that is looked at -/
def sumL (k : KT0) (L : Int) (f : Str × Int → Int) (p : Str × Str) : Int := sumF k.1 fun c => f c * (swf k p.1 p.2 c.1 % c.2) * (L / c.2)
theorem comes_spec (h : Kit k) {L : Int} (eL : m_common (mS k) = some L) (l0 : 0 < L) {f : Str × Int → Int} (hf : ∀ c ∈ k.1, 0 ≤ f c ∧ f c < c.2) (p : Str × Str) : m_comes_whole (mS k, k.1.map f, swR k p) = some (decide (sumL k L f p % L = 0)) := by
  unfold m_comes_whole
  dsimp only
  have h8 := h.l2
  unfold swR
  rw [eL, Option.bind_some, show mS k = k.1.map (·.2) from rfl, zip3s]
  obtain ⟨r, e1, e2⟩ := wp_lcO_map (P := fun r => r = (k.1.map fun b => (f b, swf k p.1 p.2 b.1 % b.2, b.2)).map fun x : Int × Int × Int => x.1 * x.2.1 * (L / x.2.2)) (f := fun x2 : (Int × Int × Int) => (mulO x2.1 x2.2.1).bind fun t11 => (fdivO L x2.2.2).bind fun t12 => (mulO t11 t12).bind fun t13 => some t13) (xs := k.1.map fun b => (f b, swf k p.1 p.2 b.1 % b.2, b.2)) (fun x => x.1 * x.2.1 * (L / x.2.2)) (by rw [List.length_map]; omega) (fun x hx => by
    obtain ⟨c, hc, rfl⟩ := List.mem_map.mp hx
    have hs := h.sz c hc
    have hfc := hf c hc
    have v0 := Int.emod_nonneg (swf k p.1 p.2 c.1) (show c.2 ≠ 0 by omega)
    have v1 := Int.emod_lt_of_pos (swf k p.1 p.2 c.1) (show 0 < c.2 by omega)
    dsimp only
    generalize swf k p.1 p.2 c.1 % c.2 = v at *
    have b1 : 0 ≤ f c * v := Int.mul_nonneg hfc.1 v0
    have b2 : f c * v ≤ 24 * 24 := Int.mul_le_mul (by omega) (by omega) v0 (by omega)
    rw [mul_sm (by omega), Option.bind_some, fdiv_wide (by omega) (by omega), Option.bind_some, mul_sm (by omega)]
    rfl) rfl
  rw [e1, Option.bind_some, e2, mod_pos l0, Option.bind_some]
  unfold sumL sumF
  rw [List.map_map]
  rfl
/-! numbers -/
theorem dvd_two {L ma mb p q X Y : Int} (h0 : 0 < L) (ha : 0 < ma) (hb : 0 < mb) (ea : L = ma * p) (eb : L = mb * q) : L ∣ X * p + Y * q ↔ ma * mb ∣ X * mb + Y * ma := by
  have e : (X * p + Y * q) * (ma * mb) = L * (X * mb + Y * ma) := by
    have e1 : X * p * (ma * mb) = L * (X * mb) := by rw [ea]; ac_rfl
    have e2 : Y * q * (ma * mb) = L * (Y * ma) := by rw [eb]; ac_rfl
    rw [Int.add_mul, e1, e2, Int.mul_add]
  have hm : 0 < ma * mb := Int.mul_pos ha hb
  constructor
  · intro hd
    have := Int.mul_dvd_mul hd (Int.dvd_refl (ma * mb))
    rw [e] at this
    exact Int.dvd_of_mul_dvd_mul_left (by omega) this
  · intro hd
    have := Int.mul_dvd_mul (Int.dvd_refl L) hd
    rw [← e] at this
    exact Int.dvd_of_mul_dvd_mul_right (by omega) this
theorem sumF_dvs {α : Type} {m : Int} {f : α → Int} : ∀ {xs : List α}, (∀ x ∈ xs, m ∣ f x) → m ∣ sumF xs f
  | [], _ => by rw [sumF_nil]; exact Int.dvd_zero _
  | x :: xs, h => by
    rw [sumF_cons]
    exact Int.dvd_add (h x List.mem_cons_self) (sumF_dvs fun y hy => h y (List.mem_cons_of_mem _ hy))
theorem sumF_sb {α : Type} {f g : α → Int} : ∀ {xs : List α}, (sumF xs fun x => f x - g x) = sumF xs f - sumF xs g
  | [] => rfl
  | x :: xs => by rw [sumF_cons, sumF_cons, sumF_cons, sumF_sb]; omega
theorem sumF_ad {α : Type} {f g : α → Int} : ∀ {xs : List α}, (sumF xs fun x => f x + g x) = sumF xs f + sumF xs g
  | [] => rfl
  | x :: xs => by rw [sumF_cons, sumF_cons, sumF_cons, sumF_ad]; omega
theorem sumF_pick {g : Str × Int → Int} {c : Str × Int} : ∀ {xs : List (Str × Int)}, (xs.map (·.1)).Nodup → c ∈ xs → (sumF xs fun x => if x.1 = c.1 then g x else 0) = g c
  | [], _, hc => nomatch hc
  | x :: xs, nd, hc => by
    rw [List.map_cons, List.nodup_cons] at nd
    rw [sumF_cons]
    rcases List.mem_cons.mp hc with rfl | hc
    · rw [if_pos rfl, sumF_zero fun y hy => if_neg fun (z : y.1 = c.1) => nd.1 (z ▸ List.mem_map.mpr ⟨y, hy, rfl⟩)]
      omega
    · rw [if_neg fun (z : x.1 = c.1) => nd.1 (z ▸ List.mem_map.mpr ⟨c, hc, rfl⟩), sumF_pick nd.2 hc]
      omega
theorem sumL_dvd (h : Kit k) {L : Int} (l0 : 0 < L) (hL : ∀ c ∈ k.1, c.2 ∣ L) {f : Str × Int → Int} {ca cb : Str × Int} (hca : ca ∈ k.1) (hcb : cb ∈ k.1) (ne : ca.1 ≠ cb.1) :
    sumL k L f (ca.1, cb.1) % L = 0 ↔ (f ca * tk k cb.1 ca.1 * cb.2 + f cb * tk k ca.1 cb.1 * ca.2) % (ca.2 * cb.2) = 0 := by
  have sa := h.sz ca hca
  have sb := h.sz cb hcb
  obtain ⟨p, ep⟩ := hL ca hca
  obtain ⟨q, eq⟩ := hL cb hcb
  have e1 : sumL k L f (ca.1, cb.1) - (sumF k.1 fun c => f c * swf k ca.1 cb.1 c.1 * (L / c.2)) = sumF k.1 fun c => f c * (swf k ca.1 cb.1 c.1 % c.2) * (L / c.2) - f c * swf k ca.1 cb.1 c.1 * (L / c.2) := sumF_sb.symm
  have d1 : L ∣ sumL k L f (ca.1, cb.1) - (sumF k.1 fun c => f c * swf k ca.1 cb.1 c.1 * (L / c.2)) := by
    rw [e1]
    refine sumF_dvs fun c hc => ?_
    have hs := h.sz c hc
    obtain ⟨r, er⟩ := hL c hc
    have ed : L / c.2 = r := by rw [er]; exact Int.mul_ediv_cancel_left _ (by omega)
    rw [ed]
    generalize swf k ca.1 cb.1 c.1 = v
    refine ⟨-(f c * (v / c.2)), ?_⟩
    have ev : v % c.2 = v - c.2 * (v / c.2) := by have := Int.emod_add_mul_ediv v c.2; omega
    rw [ev, Int.mul_sub, Int.sub_mul, er, Int.mul_neg]
    have : f c * (c.2 * (v / c.2)) * r = c.2 * r * (f c * (v / c.2)) := by ac_rfl
    rw [this]
    omega
  have e2 : (sumF k.1 fun c => f c * swf k ca.1 cb.1 c.1 * (L / c.2)) = f ca * tk k cb.1 ca.1 * p + f cb * tk k ca.1 cb.1 * q := by
    have ec : (sumF k.1 fun c => f c * swf k ca.1 cb.1 c.1 * (L / c.2)) = sumF k.1 fun c => (if c.1 = ca.1 then f c * tk k cb.1 ca.1 * (L / c.2) else 0) + (if c.1 = cb.1 then f c * tk k ca.1 cb.1 * (L / c.2) else 0) := sumF_congr fun c _ => by
      unfold swf
      by_cases q1 : c.1 = ca.1
      · rw [if_pos q1, if_pos q1, if_neg (fun z => ne (q1.symm.trans z)), if_neg (fun z => ne (q1.symm.trans z)), Int.add_zero, Int.add_zero]
      · rw [if_neg q1, if_neg q1]
        by_cases q2 : c.1 = cb.1
        · rw [if_pos q2, if_pos q2, Int.zero_add, Int.zero_add]
        · rw [if_neg q2, if_neg q2, Int.add_zero, Int.mul_zero, Int.zero_mul]
    have nd : (k.1.map (·.1)).Nodup := h.nd
    rw [ec, sumF_ad, sumF_pick (g := fun c => f c * tk k cb.1 ca.1 * (L / c.2)) nd hca, sumF_pick (g := fun c => f c * tk k ca.1 cb.1 * (L / c.2)) nd hcb]
    rw [show L / ca.2 = p by rw [ep]; exact Int.mul_ediv_cancel_left _ (by omega), show L / cb.2 = q by rw [eq]; exact Int.mul_ediv_cancel_left _ (by omega)]
  rw [e2] at d1
  have key := dvd_two (X := f ca * tk k cb.1 ca.1) (Y := f cb * tk k ca.1 cb.1) l0 (by omega) (by omega) ep eq
  constructor
  · intro hz
    exact Int.emod_eq_zero_of_dvd (key.mp ((Int.dvd_iff_dvd_of_dvd_sub d1).mp (Int.dvd_of_emod_eq_zero hz)))
  · intro hz
    have := key.mpr (Int.dvd_of_emod_eq_zero hz)
    exact Int.emod_eq_zero_of_dvd ((Int.dvd_iff_dvd_of_dvd_sub d1).mpr this)
end
end K51
end
section
set_option maxHeartbeats 4000000
namespace K51
open PySem L2 Kx Mx TL
/-! ### k51: what is told of any thing -/
theorem getA_nodup {α β : Type} [DecidableEq α] {xs : List (α × β)} (nd : (xs.map (·.1)).Nodup) {x : α × β} (hx : x ∈ xs) : getA xs x.1 = some x.2 := by
  induction xs with
  | nil => cases hx
  | cons p xs ih =>
    rw [List.map_cons] at nd
    obtain ⟨n1, n2⟩ := List.nodup_cons.mp nd
    rcases List.mem_cons.mp hx with rfl | hx
    · exact getA_pos rfl
    · rw [getA_neg (fun e => n1 (by rw [e]; exact List.mem_map.mpr ⟨x, hx, rfl⟩))]
      exact ih n2 hx
theorem getA_in {α β : Type} [DecidableEq α] {xs : List (α × β)} {a : α} {v : β} (e : getA xs a = some v) : (a, v) ∈ xs := by
  induction xs with
  | nil => cases e
  | cons p xs ih =>
    by_cases q : p.1 = a
    · rw [getA_pos q] at e
      cases e
      rw [← q]
      exact List.mem_cons_self
    · rw [getA_neg q] at e
      exact List.mem_cons_of_mem _ (ih e)
theorem loop_dec {α : Type} {F : Unit → α → Option (Unit ⊕ Bool)} {b : α → Bool} : ∀ {xs : List α}, (∀ x ∈ xs, F () x = cond (!b x) (some (.inr false)) (some (.inl ()))) → forR F xs () = if xs.all b then some (.inl ()) else some (.inr false)
  | [], _ => rfl
  | x :: xs, h => by
    show (F () x).bind _ = _
    rw [h x List.mem_cons_self]
    have ih := loop_dec fun y hy => h y (List.mem_cons_of_mem _ hy)
    cases e : b x with
    | true =>
      show forR F xs () = _
      rw [ih, List.all_cons, e, Bool.true_and]
    | false =>
      rw [List.all_cons, e, Bool.false_and]
      rfl
theorem mapO_in {α β γ : Type} {f : β → Option γ} {g : α → β} {o : α → γ} : ∀ {xs : List α}, (∀ x ∈ xs, f (g x) = some (o x)) → mapO f (xs.map g) = some (xs.map o)
  | [], _ => rfl
  | x :: xs, h => by
    show (f (g x)).bind _ = _
    rw [h x List.mem_cons_self, Option.bind_some, mapO_in fun y hy => h y (List.mem_cons_of_mem _ hy)]
    rfl
theorem lc_in {α β γ : Type} {f : β → Option γ} {g : α → β} {o : α → γ} {xs : List α} (hl : xs.length ≤ 16777216) (h : ∀ x ∈ xs, f (g x) = some (o x)) : lcO f (xs.map g) = some (xs.map o) := by
  unfold lcO
  rw [grd_yes (by rw [List.length_map]; exact hl), Option.bind_some, mapO_in h]
section
variable {k : KT0}
theorem tk_range (h : Kit k) (a b : Str) : 0 ≤ tk k a b ∧ tk k a b ≤ 99 := by
  unfold tk getD'
  cases e : getA (tb k) (a, b) with
  | none => simp
  | some v =>
    unfold getA at e
    obtain ⟨x, hx, rfl⟩ := Option.map_eq_some_iff.mp e
    have := List.mem_of_find?_eq_some hx
    unfold tb at this
    obtain ⟨n, hn, rfl⟩ := List.mem_map.mp this
    have := h.nt.1 n hn
    show 0 ≤ n.2.2 ∧ n.2.2 ≤ 99
    omega
/-- the bell of a name -/
def bo (k : KT0) (a : Str) : Str × Int := (a, (getA k.1 a).getD 0)
theorem bo_mem {a : Str} (ha : a ∈ cs k) : bo k a ∈ k.1 := by
  obtain ⟨v, e⟩ := getA_mem (xs := k.1) ha
  have := getA_in e
  unfold bo
  rw [e]
  exact this
/-- whether two keep these numbers -/
def keepB (k : KT0) (f : Str × Int → Int) (p : Str × Str) : Bool := decide ((f (bo k p.1) * tk k p.2 p.1 * (bo k p.2).2 + f (bo k p.2) * tk k p.1 p.2 * (bo k p.1).2) % ((bo k p.1).2 * (bo k p.2).2) = 0)
def keeps (k : KT0) (f : Str × Int → Int) : Bool := (prs (cs k)).all (keepB k f)
theorem law_keeps_spec (h : Kit k) {f : Str × Int → Int} (hf : ∀ c ∈ k.1, 0 ≤ f c ∧ f c < c.2) : m__law_keeps (k, tb k, k.1.map f) = some (keeps k f) := by
  unfold m__law_keeps
  dsimp only
  have h8 := h.l2
  have nd : (k.1.map (·.1)).Nodup := h.nd
  rw [dictO_nodup (by omega) nd, Option.bind_some, List.length_map]
  obtain ⟨r, e1, e2⟩ := wp_rngN (P := fun t => t = irange 0 (k.1.length : Int)) (n := k.1.length) (by omega) rfl
  rw [e1, Option.bind_some, e2]
  obtain ⟨r2, e3, e4⟩ := wp_lcO (P := fun r => r = k.1.map fun c => (c.1, f c)) (f := fun x3 : Int => (atI k.1 x3).bind fun t9 => (atI (k.1.map f) x3).bind fun t10 => some (t9.1, t10)) (xs := irange 0 (k.1.length : Int)) (fun x y => ∃ j : Nat, x = (j : Int) ∧ ∃ c, k.1[j]? = some c ∧ y = (c.1, f c)) (by rw [irange_nat_len]; omega) (fun x hx => by
    obtain ⟨j, hj, rfl⟩ := irange_mem hx
    rw [atI_nat' hj, Option.bind_some, atI_nat' (xs := k.1.map f) (i := j) (by rw [List.length_map]; exact hj), Option.bind_some, List.getElem_map]
    exact wp_some ⟨j, rfl, _, List.getElem?_eq_getElem hj, rfl⟩) (fun ys hl hy => by
    rw [irange_nat_len] at hl
    refine List.ext_getElem (by rw [hl, List.length_map]) fun i h1 h2 => ?_
    have hi : i < k.1.length := by omega
    obtain ⟨_, e⟩ := irange_at (n := k.1.length) (i := i) (x := (i : Int)) (by
      rw [List.getElem?_eq_getElem (by rw [irange_nat_len]; exact hi)]
      obtain ⟨_, e⟩ := irange_at (n := k.1.length) (List.getElem?_eq_getElem (l := irange 0 (k.1.length : Int)) (i := i) (by rw [irange_nat_len]; exact hi))
      rw [e])
    obtain ⟨j, ej, c, hc, ey⟩ := hy i (i : Int) ys[i] (by
      rw [List.getElem?_eq_getElem (by rw [irange_nat_len]; exact hi)]
      obtain ⟨_, e⟩ := irange_at (n := k.1.length) (List.getElem?_eq_getElem (l := irange 0 (k.1.length : Int)) (i := i) (by rw [irange_nat_len]; exact hi))
      rw [e]) (List.getElem?_eq_getElem h1)
    have : j = i := by omega
    subst this
    rw [ey, List.getElem_map]
    rw [List.getElem?_eq_getElem hi] at hc
    cases hc
    rfl)
  rw [e3, Option.bind_some, e4]
  have nd2 : ((k.1.map fun c => (c.1, f c)).map (·.1)).Nodup := by
    rw [List.map_map]
    exact nd
  rw [dictO_nodup (by rw [List.length_map]; omega) nd2, Option.bind_some, law_twos_spec h, Option.bind_some]
  rw [loop_dec (b := keepB k f) (fun p hp => ?_)]
  · unfold keeps
    cases (prs (cs k)).all (keepB k f) <;> rfl
  · obtain ⟨m1, m2, ne⟩ := prs_ok h p hp
    have ba := bo_mem m1
    have bb := bo_mem m2
    have ga : getA (k.1.map fun c => (c.1, f c)) p.1 = some (f (bo k p.1)) := getA_nodup (x := ((bo k p.1).1, f (bo k p.1))) nd2 (List.mem_map.mpr ⟨_, ba, rfl⟩)
    have gb : getA (k.1.map fun c => (c.1, f c)) p.2 = some (f (bo k p.2)) := getA_nodup (x := ((bo k p.2).1, f (bo k p.2))) nd2 (List.mem_map.mpr ⟨_, bb, rfl⟩)
    have sa : getA k.1 p.1 = some (bo k p.1).2 := getA_nodup (x := bo k p.1) nd ba
    have sb : getA k.1 p.2 = some (bo k p.2).2 := getA_nodup (x := bo k p.2) nd bb
    have fa := hf _ ba
    have fb := hf _ bb
    have za := h.sz _ ba
    have zb := h.sz _ bb
    have ta := tk_range h p.2 p.1
    have tb' := tk_range h p.1 p.2
    rw [ga, Option.bind_some, show getD' (tb k) (p.2, p.1) 0 = tk k p.2 p.1 from rfl, mul_sm (by omega), Option.bind_some, sb, Option.bind_some]
    have b1 : 0 ≤ f (bo k p.1) * tk k p.2 p.1 := Int.mul_nonneg fa.1 ta.1
    have b2 : f (bo k p.1) * tk k p.2 p.1 ≤ 24 * 99 := Int.mul_le_mul (by omega) ta.2 ta.1 (by omega)
    have b3 : 0 ≤ f (bo k p.2) * tk k p.1 p.2 := Int.mul_nonneg fb.1 tb'.1
    have b4 : f (bo k p.2) * tk k p.1 p.2 ≤ 24 * 99 := Int.mul_le_mul (by omega) tb'.2 tb'.1 (by omega)
    rw [mul_sm (by omega), Option.bind_some, gb, Option.bind_some, show getD' (tb k) (p.1, p.2) 0 = tk k p.1 p.2 from rfl, mul_sm (by omega), Option.bind_some, sa, Option.bind_some, mul_sm (by omega), Option.bind_some, Option.bind_some, Option.bind_some, mul_sm (by omega), Option.bind_some, mod_pos (Int.mul_pos (by omega) (by omega)), Option.bind_some]
    rfl
theorem keepB_sum (h : Kit k) {L : Int} (l0 : 0 < L) (hL : ∀ c ∈ k.1, c.2 ∣ L) (f : Str × Int → Int) {p : Str × Str} (hp : p ∈ prs (cs k)) : decide (sumL k L f p % L = 0) = keepB k f p := by
  obtain ⟨m1, m2, ne⟩ := prs_ok h p hp
  have := sumL_dvd h l0 hL (f := f) (bo_mem m1) (bo_mem m2) ne
  unfold keepB
  exact decide_eq_decide.mpr this
theorem ints_enc (xs : List Int) : intsD (.tuple (xs.map Dat.int)) = some xs := mapO_enc (f := intD) (e := Dat.int) fun _ => rfl
theorem swings_keep (h : Kit k) {f : Str × Int → Int} (hf : ∀ c ∈ k.1, 0 ≤ f c ∧ f c < c.2) : (lcO (fun x17 : (List Int) => (intsD (.tuple ((k.1.map f).map Dat.int))).bind fun t23 => (m_comes_whole (mS k, t23, x17)).bind fun t24 => some t24) (swV k)).bind (fun t25 => some (t25.all id)) = some (keeps k f) := by
  obtain ⟨L, eL, l0, _, hL⟩ := common_L h
  have p28 := prs_28 h
  unfold swV
  rw [lc_in (o := keepB k f) (by omega) (fun p hp => by
    rw [ints_enc, Option.bind_some, comes_spec h eL l0 hf p, Option.bind_some, keepB_sum h l0 hL f hp]), Option.bind_some]
  unfold keeps
  rw [List.all_map]
  rfl
end
end K51
end
section
set_option maxHeartbeats 4000000
namespace K51
open PySem L2 Kx Mx TL
section
variable {k : KT0}
theorem law_whole2 {d : Dat} (h : Adm d) : m__law_whole d = some (whB d) := by
  have e : m__law_whole d = m_is_whole_2 d := rfl
  rw [e, whole2 h]
theorem all_ints : ∀ {ds : List Dat}, ds.all whB = true → ∃ xs : List Int, ds = xs.map Dat.int
  | [], _ => ⟨[], rfl⟩
  | d :: ds, h => by
    rw [List.all_cons, Bool.and_eq_true] at h
    obtain ⟨xs, rfl⟩ := all_ints h.2
    cases d with
    | int i => exact ⟨i :: xs, rfl⟩
    | _ => exact absurd (show false = true from h.1) (by decide)
theorem wi_wh {lo hi : Int} {d : Dat} (h : wiB lo hi d = true) : whB d = true := by
  cases d <;> first | rfl | exact absurd (show false = true from h) (by decide)
theorem are_len (h : Kit k) {ds : List Dat} (el : ds.length ≠ k.1.length) : m_are_weights (pl k, .tuple ds) = some false := by
  unfold m_are_weights
  dsimp only
  rw [all_marks_spec h, Option.bind_some, show isO1 "Peal" isT (.tuple ds) = some true from rfl, Option.bind_some, Bool.not_true, cond_false, show lenD (.tuple ds) = some (ds.length : Int) from rfl, Option.bind_some, mS_len, decide_eq_false (by omega), Bool.not_false, Option.bind_some, cond_true]
theorem are_eq (h : Kit k) {ds : List Dat} (hx : ∀ x ∈ ds, Adm x) (el : ds.length = k.1.length) : m_are_weights (pl k, .tuple ds) = cond (!((ds.zip (mS k)).all fun x => wiB 0 (x.2 - 1) x.1)) (some false) ((lcO (fun x17 : (List Int) => (intsD (.tuple ds)).bind fun t23 => (m_comes_whole (mS k, t23, x17)).bind fun t24 => some t24) (swV k)).bind fun t25 => some (t25.all id)) := by
  have h8 := h.l2
  have ez : lcO (fun x6 : Dat × Int => (m_is_within_2 (x6.1, (0 : Int), (x6.2 - (1 : Int)))).bind fun t14 => some t14) (ds.zip (mS k)) = some ((ds.zip (mS k)).map fun x => wiB 0 (x.2 - 1) x.1) := by
    obtain ⟨r, e1, e2⟩ := wp_lcO_map (f := fun x6 : Dat × Int => (m_is_within_2 (x6.1, (0 : Int), (x6.2 - (1 : Int)))).bind fun t14 => some t14) (xs := ds.zip (mS k)) (P := fun r => r = (ds.zip (mS k)).map fun x => wiB 0 (x.2 - 1) x.1) (fun x => wiB 0 (x.2 - 1) x.1) (by rw [List.length_zip]; omega) (fun x hm => by
      rw [within2 (hx _ (List.of_mem_zip hm).1)]; rfl) rfl
    rw [e1, e2]
  unfold m_are_weights
  dsimp only
  rw [all_marks_spec h, Option.bind_some, show isO1 "Peal" isT (.tuple ds) = some true from rfl, Option.bind_some, Bool.not_true, cond_false, show lenD (.tuple ds) = some (ds.length : Int) from rfl, Option.bind_some, mS_len, decide_eq_true (by omega), Bool.not_true, Option.bind_some, cond_false, show tupD (.tuple ds) = some ds from rfl, Option.bind_some, ez, Option.bind_some, List.all_map, swings_eq h, Option.bind_some]
  rfl
theorem due_len {ds : List Dat} (el : ds.length ≠ k.1.length) : m__law_due (k, tb k, .tuple ds) = some false := by
  unfold m__law_due
  dsimp only
  rw [show isO1 "Peal" isT (.tuple ds) = some true from rfl, Option.bind_some, Bool.not_true, cond_false, show lenD (.tuple ds) = some (ds.length : Int) from rfl, Option.bind_some, decide_eq_false (by omega), Bool.not_false, cond_true, Option.bind_some, Option.bind_some, cond_true]
theorem due_odd (h : Kit k) {ds : List Dat} (hx : ∀ x ∈ ds, Adm x) (el : ds.length = k.1.length) (ea : ds.all whB = false) : m__law_due (k, tb k, .tuple ds) = some false := by
  have h8 := h.l2
  have ew : lcO (fun x4 : Dat => (m__law_whole x4).bind fun t10 => some t10) ds = some (ds.map whB) := by
    obtain ⟨r, e1, e2⟩ := wp_lcO_map (f := fun x4 : Dat => (m__law_whole x4).bind fun t10 => some t10) (xs := ds) (P := fun r => r = ds.map whB) whB (by omega) (fun x hm => by rw [law_whole2 (hx x hm)]; rfl) rfl
    rw [e1, e2]
  have ewd : (ds.map whB).all id = ds.all whB := by rw [List.all_map]; rfl
  unfold m__law_due
  dsimp only
  rw [show isO1 "Peal" isT (.tuple ds) = some true from rfl, Option.bind_some, Bool.not_true, cond_false, show lenD (.tuple ds) = some (ds.length : Int) from rfl, Option.bind_some, decide_eq_true (by omega), Bool.not_true, cond_false, show tupD (.tuple ds) = some ds from rfl, Option.bind_some, ew, Option.bind_some, ewd, ea, Bool.not_false, Option.bind_some, Option.bind_some, cond_true]
theorem due_eq (h : Kit k) {f : Str × Int → Int} : m__law_due (k, tb k, .tuple ((k.1.map f).map Dat.int)) = cond (!(k.1.all fun c => decide (0 ≤ f c) && decide (f c < c.2))) (some false) (m__law_keeps (k, tb k, k.1.map f)) := by
  have h8 := h.l2
  have hx : ∀ x ∈ (k.1.map f).map Dat.int, Adm x := fun x hx => by
    obtain ⟨y, _, rfl⟩ := List.mem_map.mp hx
    exact .int y
  have lD : ((k.1.map f).map Dat.int).length = k.1.length := by rw [List.length_map, List.length_map]
  have ew : lcO (fun x4 : Dat => (m__law_whole x4).bind fun t10 => some t10) ((k.1.map f).map Dat.int) = some (((k.1.map f).map Dat.int).map whB) := by
    obtain ⟨r, e1, e2⟩ := wp_lcO_map (f := fun x4 : Dat => (m__law_whole x4).bind fun t10 => some t10) (xs := (k.1.map f).map Dat.int) (P := fun r => r = ((k.1.map f).map Dat.int).map whB) whB (by omega) (fun x hm => by rw [law_whole2 (hx x hm)]; rfl) rfl
    rw [e1, e2]
  have ewd : (((k.1.map f).map Dat.int).map whB).all id = true := by
    rw [List.all_eq_true]
    intro b hb
    obtain ⟨d, hd, rfl⟩ := List.mem_map.mp hb
    obtain ⟨y, _, rfl⟩ := List.mem_map.mp hd
    rfl
  unfold m__law_due
  dsimp only
  rw [show isO1 "Peal" isT (.tuple ((k.1.map f).map Dat.int)) = some true from rfl, Option.bind_some, Bool.not_true, cond_false, show lenD (.tuple ((k.1.map f).map Dat.int)) = some (((k.1.map f).map Dat.int).length : Int) from rfl, Option.bind_some, decide_eq_true (by omega), Bool.not_true, cond_false, show tupD (.tuple ((k.1.map f).map Dat.int)) = some ((k.1.map f).map Dat.int) from rfl, Option.bind_some, ew, Option.bind_some, ewd, Bool.not_true, Option.bind_some, Option.bind_some, cond_false, Option.bind_some, lD]
  obtain ⟨r, e1, e2⟩ := wp_rngN (P := fun t => t = irange 0 (k.1.length : Int)) (n := k.1.length) (by omega) rfl
  rw [e1, Option.bind_some, e2]
  rw [loop_dec (b := fun x : Int => (k.1[x.toNat]?.map fun c => decide (0 ≤ f c) && decide (f c < c.2)).getD true) (fun x hm => by
    obtain ⟨j, hj, rfl⟩ := irange_mem hm
    have e1 : atD (.tuple ((k.1.map f).map Dat.int)) (j : Int) = some (.int (f k.1[j])) := by
      show atI ((k.1.map f).map Dat.int) (j : Int) = _
      rw [atI_nat' (by rw [List.length_map, List.length_map]; exact hj), List.getElem_map, List.getElem_map]
    rw [e1, Option.bind_some, atI_nat' hj, Option.bind_some, show intD (.int (f k.1[j])) = some (f k.1[j]) from rfl, Option.bind_some, Int.toNat_natCast, List.getElem?_eq_getElem hj]
    rfl)]
  have eall : ((irange 0 (k.1.length : Int)).all fun x : Int => (k.1[x.toNat]?.map fun c => decide (0 ≤ f c) && decide (f c < c.2)).getD true) = k.1.all fun c => decide (0 ≤ f c) && decide (f c < c.2) := by
    rw [Bool.eq_iff_iff, List.all_eq_true, List.all_eq_true]
    constructor
    · intro hz c hc
      obtain ⟨i, hi⟩ := List.mem_iff_getElem?.mp hc
      have hil := (List.getElem?_eq_some_iff.mp hi).1
      have hm : (i : Int) ∈ irange 0 (k.1.length : Int) := by
        have : (irange 0 (k.1.length : Int))[i]? = some (i : Int) := by
          have hl : i < (irange 0 (k.1.length : Int)).length := by rw [irange_nat_len]; exact hil
          obtain ⟨_, e⟩ := irange_at (n := k.1.length) (List.getElem?_eq_getElem hl)
          rw [List.getElem?_eq_getElem hl, e]
        exact List.mem_of_getElem? this
      have := hz _ hm
      rw [Int.toNat_natCast, hi] at this
      exact this
    · intro hz x hm
      obtain ⟨j, hj, rfl⟩ := irange_mem hm
      rw [Int.toNat_natCast, List.getElem?_eq_getElem hj]
      exact hz _ (List.getElem_mem hj)
  rw [eall]
  cases er : k.1.all fun c => decide (0 ≤ f c) && decide (f c < c.2) with
  | false => rfl
  | true =>
    rw [if_pos rfl, Option.bind_some, Bool.not_true, cond_false]
    show ((intsD (.tuple ((k.1.map f).map Dat.int))).bind fun t26 => (m__law_keeps (k, tb k, t26)).bind fun t27 => some t27) = _
    rw [ints_enc, Option.bind_some]
    cases m__law_keeps (k, tb k, k.1.map f) <;> rfl
theorem zip_key {f : Str × Int → Int} : (((k.1.map f).map Dat.int).zip (mS k)).all (fun x => wiB 0 (x.2 - 1) x.1) = k.1.all fun c => decide (0 ≤ f c) && decide (f c < c.2) := by
  have e : ∀ l : List (Str × Int), ((l.map f).map Dat.int).zip (l.map (·.2)) = l.map fun c => (Dat.int (f c), c.2) := fun l => by
    induction l with
    | nil => rfl
    | cons x l ih => simp only [List.map_cons, List.zip_cons_cons, ih]
  rw [show mS k = k.1.map (·.2) from rfl, e, List.all_map]
  exact congrArg (List.all k.1) (funext fun c => by
    show wiB 0 (c.2 - 1) (.int (f c)) = _
    show (decide (0 ≤ f c) && decide (f c ≤ c.2 - 1)) = _
    by_cases q : f c < c.2
    · rw [decide_eq_true q, decide_eq_true (show f c ≤ c.2 - 1 by omega)]
    · rw [decide_eq_false q, decide_eq_false (show ¬ f c ≤ c.2 - 1 by omega)])
/-- the same is told of any thing, by the program and by the law -/
theorem are_spec (h : Kit k) {d : Dat} (ad : Adm d) : ∃ b, m_are_weights (pl k, d) = some b ∧ m__law_due (k, tb k, d) = some b := by
  by_cases e : ∃ ds, d = .tuple ds
  · obtain ⟨ds, rfl⟩ := e
    have hx : ∀ x ∈ ds, Adm x := by
      cases ad with
      | tup h _ => exact h
    by_cases el : ds.length = k.1.length
    · cases ea : ds.all whB with
      | false =>
        refine ⟨false, ?_, due_odd h hx el ea⟩
        have : ((ds.zip (mS k)).all fun x => wiB 0 (x.2 - 1) x.1) = false := by
          rw [Bool.eq_false_iff]
          intro hz
          rw [List.all_eq_true] at hz
          rw [Bool.eq_false_iff] at ea
          refine ea (List.all_eq_true.mpr fun x hm => ?_)
          obtain ⟨i, hi⟩ := List.mem_iff_getElem?.mp hm
          have hil := (List.getElem?_eq_some_iff.mp hi).1
          have hm2 : (x, (mS k)[i]'(by rw [mS_len]; omega)) ∈ ds.zip (mS k) := List.mem_iff_getElem?.mpr ⟨i, by
            rw [List.getElem?_zip_eq_some]
            exact ⟨hi, List.getElem?_eq_getElem _⟩⟩
          exact wi_wh (hz _ hm2)
        rw [are_eq h hx el, this]
        rfl
      | true =>
        obtain ⟨xs, rfl⟩ := all_ints ea
        have el2 : xs.length = k.1.length := by rw [List.length_map] at el; exact el
        obtain ⟨f, rfl⟩ := dials_fn h el2
        rw [are_eq h hx el, due_eq h, zip_key]
        cases er : k.1.all fun c => decide (0 ≤ f c) && decide (f c < c.2) with
        | false => exact ⟨false, rfl, rfl⟩
        | true =>
          have hf : ∀ c ∈ k.1, 0 ≤ f c ∧ f c < c.2 := fun c hc => by
            have := List.all_eq_true.mp er c hc
            rw [Bool.and_eq_true] at this
            exact ⟨of_decide_eq_true this.1, of_decide_eq_true this.2⟩
          rw [Bool.not_true, cond_false, cond_false]
          exact ⟨keeps k f, swings_keep h hf, law_keeps_spec h hf⟩
    · exact ⟨false, are_len h el, due_len el⟩
  · have ef : isT d = false := by cases ad <;> first | rfl | exact absurd ⟨_, rfl⟩ e
    refine ⟨false, ?_, ?_⟩
    · unfold m_are_weights
      dsimp only
      rw [all_marks_spec h, Option.bind_some, ad.is, ef]
      rfl
    · unfold m__law_due
      dsimp only
      rw [ad.is, ef]
      rfl
/-! what is told, and that it is shown alike behind -/
def Fine (d : Dat) : Prop := Adm d ∧ ∃ t, reprY d = some t
theorem told_spec (h : Kit k) {d : Dat} (fd : Fine d) : m__law_told_right (k, tb k, pl k, d) = some true := by
  obtain ⟨ad, t, et⟩ := fd
  obtain ⟨b, e1, e2⟩ := are_spec h ad
  have ei : m_is_weights (pl k, d) = some b := by
    unfold m_is_weights
    have e : m_check_peal (pl k) = some () := by unfold m_check_peal; rfl
    dsimp only
    rw [e, Option.bind_some, e1]
    rfl
  unfold m__law_told_right
  dsimp only
  rw [show reprY (id d) = some t from et, Option.bind_some, e2, Option.bind_some, ei, Option.bind_some, Option.bind_some, Option.bind_some]
  have el : lcO (fun x6 : Bool => some (true && decide (x6 = b))) [b, b, b] = some [true, true, true] := by
    unfold lcO
    rw [grd_yes (by simp)]
    cases b <;> rfl
  rw [el, Option.bind_some]
  show (cond true ((some t).bind fun t13 => some (decide (t13 = t))) (some false)).bind (fun t14 => some t14) = _
  rw [cond_true, Option.bind_some, decide_eq_true rfl]
  rfl
/-! what is shown -/
theorem rep_abs {x : Int} {m : Nat} (h : x.natAbs ≤ 10 ^ 30) : Rep 200 m (.int x) := by
  have hl : x.natAbs.log2 ≤ 100 := by
    by_cases z : x.natAbs = 0
    · rw [z]; simp
    · have := (Nat.log2_lt z).mpr (show x.natAbs < 2 ^ 100 from Nat.lt_of_le_of_lt h (by decide))
      omega
  refine ⟨?_, ?_, ?_, ?_⟩
  · unfold PyData.weight
    split <;> omega
  · unfold PyData.intsShort
    have e := PySem.int_text_length_le10 (k := 31) (a := x) (by decide) (Nat.lt_of_le_of_lt h (by decide))
    refine decide_eq_true ?_
    show (Str.ofString (toString x)).length ≤ 40
    rw [ofString_length]
    omega
  · unfold PyData.showable
    exact decide_eq_true (by omega)
  · unfold PyData.depth; omega
/-- a plain thing that can be shown -/
structure Pln (d : Dat) : Prop where
  a : Adm d
  p : pur d = true
  r : Rep 2000 3 (toPy d)
theorem pl_int {x : Int} (h : x.natAbs ≤ 10 ^ 30) : Pln (.int x) := ⟨.int x, by unfold pur; rfl, by rw [toPy_int]; exact (rep_abs h).mono (by decide) (Nat.le_refl _)⟩
theorem pl_bool (b : Bool) : Pln (.bool b) := ⟨.bl b, by unfold pur; rfl, by unfold toPy; exact ⟨by unfold PyData.weight; omega, by unfold PyData.intsShort; rfl, by unfold PyData.showable; rfl, by unfold PyData.depth; omega⟩⟩
theorem pl_none : Pln .none := ⟨.non, by unfold pur; rfl, by unfold toPy; exact ⟨by unfold PyData.weight; omega, by unfold PyData.intsShort; rfl, by unfold PyData.showable; rfl, by unfold PyData.depth; omega⟩⟩
theorem pl_str {z : Str} (h : z.length ≤ 8) : Pln (.str z) := ⟨.str (by omega), by unfold pur; rfl, by
  rw [toPy_str]
  have hz : z.cps.size ≤ 8 := h
  exact ⟨by unfold PyData.weight; omega, by unfold PyData.intsShort; rfl, by unfold PyData.showable; rfl, by unfold PyData.depth; omega⟩⟩
theorem rep_of {ds : List Dat} (h : ∀ d ∈ ds, Pln d) : ∀ x ∈ ds.map toPy, Rep 2000 3 x := fun x hx => by
  obtain ⟨d, hd, rfl⟩ := List.mem_map.mp hx
  exact (h d hd).r
theorem dk0_no {d : Dat} (h : pur d = true) : dk0 d = false := by
  cases d with
  | dK ks ds => unfold pur at h; cases h
  | _ => rfl
theorem fine_tup {ds : List Dat} (h : ∀ d ∈ ds, Pln d) (hl : ds.length ≤ 40) : Fine (.tuple ds) := by
  refine ⟨.tup (fun d hd => (h d hd).a) (by omega), ?_⟩
  have hd : ds.any dk0 = false := by
    rw [Bool.eq_false_iff]
    intro e
    obtain ⟨d, hd, e⟩ := List.any_eq_true.mp e
    rw [dk0_no (h d hd).p] at e
    cases e
  have hp : pur (.tuple ds) = true := pur_tuple fun d hd => (h d hd).p
  obtain ⟨t, ht⟩ := (rep_tup (n := 2000) (m := 3) (l := 2000 * 40 + 1) (xs := ds.map toPy) (rep_of h) (by rw [List.length_map]; omega)).ok (by decide) (by decide)
  refine ⟨t, ?_⟩
  show (if ds.any dk0 = true then repE ds else (if pur (.tuple ds) && true then reprO (toPy (.tuple ds)) else none)) = some t
  rw [hd, if_neg (by decide), hp, if_pos (by rfl), toPy_tuple]
  exact ht
theorem rep_lst' {n m l : Nat} {xs : List PyData} (h : ∀ x ∈ xs, Rep n m x) (hl : n * xs.length + 1 < l) : Rep l (m + 1) (.list xs) := by
  have r1 := repAll h
  refine ⟨?_, ?_, ?_, ?_⟩
  · unfold PyData.weight; have := r1.w; omega
  · unfold PyData.intsShort; exact r1.i
  · unfold PyData.showable; exact r1.s
  · unfold PyData.depth; have := r1.d; omega
theorem fine_lst {ds : List Dat} (h : ∀ d ∈ ds, Pln d) (hl : ds.length ≤ 40) : Fine (.list ds) := by
  refine ⟨.lst _, ?_⟩
  have hp : pur (.list ds) = true := pur_list fun d hd => (h d hd).p
  obtain ⟨t, ht⟩ := (rep_lst' (n := 2000) (m := 3) (l := 2000 * 40 + 5) (xs := ds.map toPy) (rep_of h) (by rw [List.length_map]; omega)).ok (by decide) (by decide)
  refine ⟨t, ?_⟩
  show (if pur (.list ds) && true then reprO (toPy (.list ds)) else none) = some t
  rw [hp, if_pos (by rfl), toPy_list]
  exact ht
theorem rep_dict : Rep 200 3 (.dict []) := ⟨by decide +kernel, by decide +kernel, by decide +kernel, by decide +kernel⟩
theorem fine_dict {A B : List Int} (hA : ∀ x ∈ A, x.natAbs ≤ 10 ^ 30) (hB : ∀ x ∈ B, x.natAbs ≤ 10 ^ 30) (hl : A.length + B.length ≤ 30) : Fine (.tuple (A.map Dat.int ++ [.dK [] []] ++ B.map Dat.int)) := by
  refine ⟨.tup (fun d hd => ?_) (by simp; omega), ?_⟩
  · rcases List.mem_append.mp hd with hd | hd
    · rcases List.mem_append.mp hd with hd | hd
      · obtain ⟨x, _, rfl⟩ := List.mem_map.mp hd; exact .int x
      · rw [List.mem_singleton.mp hd]; exact .dK _ _
    · obtain ⟨x, _, rfl⟩ := List.mem_map.mp hd; exact .int x
  · have e1 : (A.map Dat.int ++ [Dat.dK [] []] ++ B.map Dat.int).any dk0 = true := List.any_eq_true.mpr ⟨.dK [] [], by simp, rfl⟩
    have e2 : (A.map Dat.int ++ [Dat.dK [] []] ++ B.map Dat.int).all scE = true := by
      rw [List.all_eq_true]
      intro d hd
      rcases List.mem_append.mp hd with hd | hd
      · rcases List.mem_append.mp hd with hd | hd
        · obtain ⟨x, _, rfl⟩ := List.mem_map.mp hd; rfl
        · rw [List.mem_singleton.mp hd]; rfl
      · obtain ⟨x, _, rfl⟩ := List.mem_map.mp hd; rfl
    have hr : ∀ x ∈ (A.map Dat.int ++ [Dat.dK [] []] ++ B.map Dat.int).map pyE, Rep 200 3 x := fun x hx => by
      obtain ⟨d, hd, rfl⟩ := List.mem_map.mp hx
      rcases List.mem_append.mp hd with hd | hd
      · rcases List.mem_append.mp hd with hd | hd
        · obtain ⟨x, hxA, rfl⟩ := List.mem_map.mp hd
          show Rep 200 3 (toPy (.int x))
          rw [toPy_int]
          exact rep_abs (hA x hxA)
        · rw [List.mem_singleton.mp hd]
          exact rep_dict
      · obtain ⟨x, hxB, rfl⟩ := List.mem_map.mp hd
        show Rep 200 3 (toPy (.int x))
        rw [toPy_int]
        exact rep_abs (hB x hxB)
    obtain ⟨t, ht⟩ := (rep_tup (n := 200) (m := 3) (l := 200 * 40 + 1) hr (by simp; omega)).ok (by decide) (by decide)
    obtain ⟨g, _⟩ := reprO_of ht
    refine ⟨(PyData.tuple ((A.map Dat.int ++ [Dat.dK [] []] ++ B.map Dat.int).map pyE)).shown, ?_⟩
    show (if (A.map Dat.int ++ [Dat.dK [] []] ++ B.map Dat.int).any dk0 = true then repE (A.map Dat.int ++ [Dat.dK [] []] ++ B.map Dat.int) else _) = some _
    rw [if_pos e1]
    unfold repE
    rw [e2, g, if_pos (by rfl)]
end
end K51
end
section
set_option maxHeartbeats 4000000
namespace K51
open PySem L2 Kx Mx TL
/-! ### k51: what is drawn, the law -/
section
variable {k : KT0}
/-- numbers that are small -/
def SmL (xs : List Int) : Prop := ∀ x ∈ xs, x.natAbs ≤ 1000
theorem pln_ints {xs : List Int} (h : SmL xs) : ∀ d ∈ xs.map Dat.int, Pln d := fun d hd => by
  obtain ⟨x, hx, rfl⟩ := List.mem_map.mp hd
  exact pl_int (Nat.le_trans (h x hx) (by decide))
theorem fine_ints {xs : List Int} (h : SmL xs) (hl : xs.length ≤ 40) : Fine (eT Dat.int xs) := fine_tup (ds := xs.map Dat.int) (pln_ints h) (by rw [List.length_map]; exact hl)
theorem sm_take {xs : List Int} (h : SmL xs) (n : Nat) : SmL (xs.take n) := fun x hx => h x (List.mem_of_mem_take hx)
theorem sm_drop {xs : List Int} (h : SmL xs) (n : Nat) : SmL (xs.drop n) := fun x hx => h x (List.mem_of_mem_drop hx)
theorem sm_cut {xs : List Int} (h : SmL xs) (a b : Option Int) : SmL (cut xs a b) := fun x hx => by
  unfold cut at hx
  exact h x (List.mem_of_mem_drop (List.mem_of_mem_take hx))
theorem pln_tup {ds : List Dat} (h : ∀ d ∈ ds, Adm d ∧ pur d = true ∧ Rep 200 2 (toPy d)) (hl : ds.length ≤ 8) : Pln (.tuple ds) := ⟨.tup (fun d hd => (h d hd).1) (by omega), pur_tuple fun d hd => (h d hd).2.1, by
  rw [toPy_tuple]
  refine rep_tup (n := 200) (m := 2) (fun x hx => ?_) (by rw [List.length_map]; omega)
  obtain ⟨d, hd, rfl⟩ := List.mem_map.mp hx
  exact (h d hd).2.2⟩
theorem pln_lst {ds : List Dat} (h : ∀ d ∈ ds, pur d = true ∧ Rep 200 2 (toPy d)) (hl : ds.length ≤ 8) : Pln (.list ds) := ⟨.lst _, pur_list fun d hd => (h d hd).1, by
  rw [toPy_list]
  refine rep_lst' (n := 200) (m := 2) (fun x hx => ?_) (by rw [List.length_map]; omega)
  obtain ⟨d, hd, rfl⟩ := List.mem_map.mp hx
  exact (h d hd).2⟩
theorem int3 {x : Int} (h : x.natAbs ≤ 10 ^ 30) : Adm (.int x) ∧ pur (.int x) = true ∧ Rep 200 2 (toPy (.int x)) := ⟨.int x, by unfold pur; rfl, by rw [toPy_int]; exact rep_abs h⟩
theorem ten30 : powO (10 : Int) (30 : Int) = some ((10 ^ 30 : Nat) : Int) := by decide +kernel
theorem rep_zero : ∃ t, reprY (.int 0) = some t := by
  obtain ⟨a, ea, _⟩ := strI_sm (i := 0) (by decide) (by decide)
  exact ⟨a, ea⟩
theorem str_shown {z : Str} (h : SmS 8 z) : ∃ t, reprY (.str z) = some t := by
  have hl : (PyData.str z).canLay0 = true := by
    unfold PyData.canLay0
    exact h.sok
  have r : Rep 2000 3 (.str z) := by have := (pl_str h.l).r; rw [toPy_str] at this; exact this
  obtain ⟨t, ht⟩ := r.ok (by decide) (by decide)
  obtain ⟨h1, rfl⟩ := reprO_of ht
  have hf := rep_fits h1 hl
  have hs := sgn_sok.mp (sgn_shown _ hl)
  have e : (PyData.str z).shown = reprText z := by unfold PyData.shown; rfl
  rw [e] at hf hs
  rw [sizeLine_eq] at hf
  exact ⟨reprText z, by
    show ((grd ((reprText z).length ≤ 16777216 ∧ sok (reprText z) = true)).bind fun _ => some (reprText z)) = _
    rw [grd_yes ⟨hf, hs⟩]
    rfl⟩
theorem odd_spec (h : Kit k) {xs : List Int} (hl : xs.length = k.1.length) (hs : SmL xs) (z : Sto) : Wp (m__law_odd (k, xs) z) fun r => Fine r.1 := by
  unfold m__law_odd
  dsimp only
  have h1 := h.l1
  have h8 := h.l2
  refine wp_bind (pull_nat _ (by omega) (by omega)) fun t1 ⟨i, ei, hi⟩ => ?_
  have hi : i < xs.length := by omega
  have hik : i < k.1.length := by omega
  rw [ei]
  have hz := h.sz k.1[i] (List.getElem_mem _)
  have hx := hs xs[i] (List.getElem_mem _)
  rw [atI_nat' hik, Option.bind_some, atI_nat' hi, Option.bind_some, Option.bind_some, ten30, Option.bind_some, Option.bind_some, Option.bind_some, Option.bind_some, Option.bind_some, cat_ok (by simp), Option.bind_some]
  refine wp_bind (pull_nat _ (by decide) (by decide)) fun t11 ⟨j, ej, hj⟩ => ?_
  rw [ej]
  refine wp_bind (P := fun d => Pln d ∨ d = .dK [] []) (wp_atI (by simp; omega) ?_) fun t12 h12 => ?_
  · have all : ∀ x ∈ (([(eN ()), (Dat.bool true), (Dat.bool false), (Dat.str (Str.ofString "0")), (Dat.str (Str.ofString "")), ((eT id) []), ((eL Dat.int) ([(0 : Int)] : (List Int))), ((eDS Dat.int) ([] : List (Str × Int))), (Dat.int ((0 : Int) - (1 : Int))), (Dat.int (k.1[i]).2), (Dat.int (xs[i] + (k.1[i]).2)), (Dat.int ((10 ^ 30 : Nat) : Int))] : (List Dat)) ++ ([(Dat.int (xs[i] + (1 : Int))), (Dat.int (xs[i] - (1 : Int))), ((eT Dat.int) ([xs[i]] : (List Int))), ((eL Dat.int) ([xs[i]] : (List Int)))] : (List Dat))), Pln x ∨ x = .dK [] [] := fun x hm => by
      have b30 : (10 : Nat) ^ 30 = 1000000000000000000000000000000 := by decide +kernel
      simp only [List.cons_append, List.nil_append, List.mem_cons, List.not_mem_nil, or_false] at hm
      rcases hm with rfl | rfl | rfl | rfl | rfl | rfl | rfl | rfl | rfl | rfl | rfl | rfl | rfl | rfl | rfl | rfl
      · exact .inl pl_none
      · exact .inl (pl_bool _)
      · exact .inl (pl_bool _)
      · exact .inl (pl_str (by decide +kernel))
      · exact .inl (pl_str (by decide +kernel))
      · rw [eT_id]
        exact .inl (pln_tup (fun d hd => nomatch hd) (by simp))
      · exact .inl (pln_lst (ds := [.int 0]) (fun d hd => by rw [List.mem_singleton.mp hd]; exact (int3 (by decide)).2) (by simp))
      · exact .inr rfl
      · exact .inl (pl_int (by decide))
      · exact .inl (pl_int (by omega))
      · exact .inl (pl_int (by omega))
      · exact .inl (pl_int (by omega))
      · exact .inl (pl_int (by omega))
      · exact .inl (pl_int (by omega))
      · exact .inl (pln_tup (ds := [.int xs[i]]) (fun d hd => by rw [List.mem_singleton.mp hd]; exact int3 (by omega)) (by simp))
      · exact .inl (pln_lst (ds := [.int xs[i]]) (fun d hd => by rw [List.mem_singleton.mp hd]; exact (int3 (by omega)).2) (by simp))
    exact all _ (List.getElem_mem _)
  rw [show ((i : Int) + (1 : Int)) = ((i + 1 : Nat) : Int) by omega, cut_to, cut_from]
  rw [cat_ok (by simp; omega), Option.bind_some, cat_ok (by simp; omega), Option.bind_some, cat_ok (by simp; omega), Option.bind_some]
  have fb : Fine (.tuple ((xs.take i).map Dat.int ++ [t12] ++ (xs.drop (i + 1)).map Dat.int)) := by
    rcases h12 with h12 | rfl
    · refine fine_tup (fun d hd => ?_) (by simp; omega)
      rcases List.mem_append.mp hd with hd | hd
      · rcases List.mem_append.mp hd with hd | hd
        · exact pln_ints (sm_take hs i) d hd
        · rw [List.mem_singleton.mp hd]; exact h12
      · exact pln_ints (sm_drop hs _) d hd
    · exact fine_dict (fun x hx => Nat.le_trans (sm_take hs _ x hx) (by decide)) (fun x hx => Nat.le_trans (sm_drop hs _ x hx) (by decide)) (by simp; omega)
  refine wp_bind (pull_nat _ (by decide) (by decide)) fun t16 ⟨u, eu, hu⟩ => ?_
  rw [eu]
  refine wp_bind (P := fun d => Fine d) (wp_atI (by simp; omega) ?_) fun t17 h17 => ?_
  · have all : ∀ x ∈ ([((eL Dat.int) xs), ((eT Dat.int) (cut xs none (some (-(1 : Int))))), ((eT Dat.int) (xs ++ [0])), ((eT (eT Dat.int)) ([xs] : (List (List Int)))), ((eT Dat.int) xs.reverse), (eN ()), (Dat.int (0 : Int)), (Dat.bool true), (Dat.str (Str.ofString "")), ((eL id) ([])), ((eDS Dat.int) ([] : List (Str × Int))), ((eT (eL id)) ([([])] : (List (List Dat)))), (Dat.str (Str.ofString "weights"))] : (List Dat)), Fine x := fun x hm => by
      simp only [List.mem_cons, List.not_mem_nil, or_false] at hm
      rcases hm with rfl | rfl | rfl | rfl | rfl | rfl | rfl | rfl | rfl | rfl | rfl | rfl | rfl
      · exact fine_lst (ds := xs.map Dat.int) (pln_ints hs) (by rw [List.length_map]; omega)
      · refine fine_ints (sm_cut hs _ _) ?_
        unfold cut
        rw [List.length_take, List.length_drop]
        omega
      · refine fine_ints (fun x hx => ?_) (by simp; omega)
        rcases List.mem_append.mp hx with hx | hx
        · exact hs x hx
        · rw [List.mem_singleton.mp hx]; decide
      · refine fine_tup (ds := [.tuple (xs.map Dat.int)]) (fun d hd => ?_) (by simp)
        rw [List.mem_singleton.mp hd]
        refine pln_tup (fun d hd => ?_) (by rw [List.length_map]; omega)
        obtain ⟨x, hx, rfl⟩ := List.mem_map.mp hd
        exact int3 (Nat.le_trans (hs x hx) (by decide))
      · exact fine_ints (fun x hx => hs x (List.mem_reverse.mp hx)) (by rw [List.length_reverse]; omega)
      · exact ⟨.non, _, rfl⟩
      · exact ⟨.int 0, rep_zero⟩
      · exact ⟨.bl _, _, rfl⟩
      · exact ⟨.str (by decide +kernel), str_shown (smS_of "" (n := 8) (by decide +kernel))⟩
      · refine fine_lst (ds := []) (fun d hd => nomatch hd) (by simp)
      · exact ⟨.dK _ _, _, rfl⟩
      · refine fine_tup (ds := [.list []]) (fun d hd => ?_) (by simp)
        rw [List.mem_singleton.mp hd]
        exact pln_lst (fun d hd => nomatch hd) (by simp)
      · exact ⟨.str (by decide +kernel), str_shown (smS_of "weights" (n := 8) (by decide +kernel))⟩
    exact all _ (List.getElem_mem _)
  refine wp_bind (pull_nat _ (by decide) (by decide)) fun t18 ⟨w, ew, hw⟩ => ?_
  rw [ew]
  refine wp_bind (P := fun d => Fine d) (wp_atI (by simp; omega) ?_) fun t19 h19 => wp_some h19
  have all : ∀ x ∈ ([((eT id) ((xs.take i).map Dat.int ++ [t12] ++ (xs.drop (i + 1)).map Dat.int)), ((eT id) ((xs.take i).map Dat.int ++ [t12] ++ (xs.drop (i + 1)).map Dat.int)), t17] : (List Dat)), Fine x := fun x hm => by
    simp only [List.mem_cons, List.not_mem_nil, or_false] at hm
    rcases hm with rfl | rfl | rfl
    · rw [eT_id]; exact fb
    · rw [eT_id]; exact fb
    · exact h17
  exact all _ (List.getElem_mem _)
theorem plain_spec (h : Kit k) (z : Sto) : Wp (m__law_plain (k, tb k) z) fun r => r.1.length = k.1.length ∧ SmL r.1 := by
  unfold m__law_plain
  dsimp only
  have h8 := h.l2
  refine wp_bind (P := fun st : List Int × Sto => st.1.length = k.1.length ∧ SmL st.1) (wp_forO (fun i st => st.1.length = i ∧ SmL st.1) ⟨rfl, fun x hx => nomatch hx⟩ (fun i c st hc ⟨ls, hs⟩ => ?_) fun st hst => hst) fun fin hf => wp_some hf
  have hm := List.mem_of_getElem? hc
  have hil := (List.getElem?_eq_some_iff.mp hc).1
  have hz := h.sz c hm
  refine wp_bind (P := fun g : Int => 0 < g ∧ g ∣ c.2) (wp_forO (fun _ g => 0 < g ∧ g ∣ c.2) ⟨by omega, Int.dvd_refl _⟩ (fun j e g he ⟨g0, gd⟩ => ?_) fun g hg => hg) fun g ⟨g0, gd⟩ => ?_
  · have ta := tk_range h e.1 c.1
    have es : ∀ a, m__law_shared a = m_shared a := fun _ => rfl
    rw [es]
    refine wp_bind (shared_spec g0 ta.1) fun g' ⟨p1, p2, _⟩ => wp_some ⟨p1, Int.dvd_trans p2 gd⟩
  · have gle : g ≤ c.2 := Int.le_of_dvd (by omega) gd
    refine wp_bind (wp_fdivO (P := fun t => t = c.2 / g) (show CDivN c.2 g from ⟨by omega, by omega⟩) (fd g0)) fun t24 e24 => ?_
    subst e24
    have q0 : 0 ≤ c.2 / g := Int.ediv_nonneg (by omega) (by omega)
    have q1 : c.2 / g ≤ c.2 := Int.ediv_le_self _ (by omega)
    refine wp_bind (pull_nat _ g0 (by omega)) fun t25 ⟨u, eu, hu⟩ => ?_
    rw [eu]
    have b0 : 0 ≤ c.2 / g * (u : Int) := Int.mul_nonneg q0 (by omega)
    have b1 : c.2 / g * (u : Int) ≤ 24 * 24 := Int.mul_le_mul (by omega) (by omega) (by omega) (by omega)
    rw [mul_sm (by omega), Option.bind_some]
    refine wp_bind (wp_appO (P := fun t => t = st.1 ++ [c.2 / g * (u : Int)]) (by omega) rfl) fun t27 e27 => wp_some ?_
    subst e27
    refine ⟨by rw [List.length_append, List.length_singleton]; show st.1.length + 1 = i + 1; omega, fun x hx => ?_⟩
    rcases List.mem_append.mp hx with hx | hx
    · exact hs x hx
    · rw [List.mem_singleton.mp hx]
      generalize c.2 / g * (u : Int) = w at *
      omega
theorem all_spec (h : Kit k) (h3 : k.1.length ≤ 3) (h6 : ∀ c ∈ k.1, c.2 ≤ 6) : Wp (m__law_all k) fun t => 1 ≤ t.length ∧ t.length ≤ 216 ∧ ∀ r ∈ t, r.length = k.1.length ∧ SmL r := by
  unfold m__law_all
  refine wp_bind (P := fun t : List (List Int) => 1 ≤ t.length ∧ t.length ≤ 216 ∧ ∀ r ∈ t, r.length = k.1.length ∧ SmL r) (wp_forO (fun i (st : List (List Int)) => 1 ≤ st.length ∧ st.length ≤ 6 ^ i ∧ ∀ r ∈ st, r.length = i ∧ SmL r) ⟨by simp, by simp, fun r hr => by rw [List.mem_singleton.mp hr]; exact ⟨rfl, fun x hx => nomatch hx⟩⟩ (fun i c st hc ⟨l1, l2, hs⟩ => ?_) fun st ⟨l1, l2, hs⟩ => ⟨l1, Nat.le_trans l2 (show 6 ^ k.1.length ≤ 6 ^ 3 from Nat.pow_le_pow_right (by decide) h3), hs⟩) fun t ht => wp_some ht
  have hm := List.mem_of_getElem? hc
  have hil := (List.getElem?_eq_some_iff.mp hc).1
  have hz := h.sz c hm
  have hz6 := h6 c hm
  obtain ⟨n, en⟩ : ∃ n : Nat, c.2 = (n : Int) := ⟨c.2.toNat, by omega⟩
  have st36 : st.length ≤ 36 := Nat.le_trans l2 (show 6 ^ i ≤ 6 ^ 2 from Nat.pow_le_pow_right (by decide) (by omega))
  refine wp_bind (P := fun t : List (List Int) => t.length = st.length * n ∧ ∀ r ∈ t, r.length = i + 1 ∧ SmL r) (wp_forO (fun j (t : List (List Int)) => t.length = j * n ∧ ∀ r ∈ t, r.length = i + 1 ∧ SmL r) ⟨by simp, fun r hr => nomatch hr⟩ (fun j r t hr ⟨lt, ht⟩ => ?_) fun t ht => ht) fun t ⟨lt, ht⟩ => wp_some ⟨?_, ?_, ht⟩
  · have hrm := hs r (List.mem_of_getElem? hr)
    have hj := (List.getElem?_eq_some_iff.mp hr).1
    rw [en]
    refine wp_bind (wp_rngN (P := fun t => t = irange 0 (n : Int)) (n := n) (by omega) rfl) fun t19 e19 => ?_
    subst e19
    refine wp_bind (wp_lcO (P := fun ys : List (List Int) => ys.length = n ∧ ∀ y ∈ ys, y.length = i + 1 ∧ SmL y) (fun _ y => y.length = i + 1 ∧ SmL y) (by rw [irange_nat_len]; omega) (fun x hx => ?_) fun ys hl hy => ⟨by rw [hl, irange_nat_len], fun y hm => by
      obtain ⟨q, hq⟩ := List.mem_iff_getElem?.mp hm
      have hql := (List.getElem?_eq_some_iff.mp hq).1
      exact hy q _ y (List.getElem?_eq_getElem (by omega)) hq⟩) fun t27 ⟨l27, h27⟩ => ?_
    · obtain ⟨q, hq, rfl⟩ := irange_mem hx
      have l := hrm.1
      rw [cat_ok (by rw [List.length_singleton]; omega), Option.bind_some]
      refine wp_some ⟨by rw [List.length_append, List.length_singleton]; omega, fun x hx => ?_⟩
      rcases List.mem_append.mp hx with hx | hx
      · exact hrm.2 x hx
      · rw [List.mem_singleton.mp hx]; omega
    · have bj : j * n ≤ 36 * 6 := Nat.mul_le_mul (by omega) (by omega)
      rw [cat_ok (by omega), Option.bind_some]
      refine wp_some ⟨by rw [List.length_append, lt, l27, Nat.add_mul, Nat.one_mul], fun y hy => ?_⟩
      rcases List.mem_append.mp hy with hy | hy
      · exact ht y hy
      · exact h27 y hy
  · rw [lt]
    exact Nat.mul_pos (by omega) (by omega)
  · rw [lt, Nat.pow_succ]
    exact Nat.mul_le_mul l2 (by omega)
theorem none_spec {xs : List Int} : m__law_none_right (k, xs) = some true := by
  unfold m__law_none_right
  dsimp only
  have tr : ∀ {F : Unit → Dat → Option (Unit ⊕ Bool)} {ds : List Dat}, (∀ x ∈ ds, F () x = some (.inl ())) → forR F ds () = some (.inl ()) := fun {F ds} hF => by
    rw [loop_dec (b := fun _ => true) (fun x hx => by rw [hF x hx]; rfl), List.all_eq_true.mpr (fun _ _ => rfl), if_pos rfl]
  rw [tr (fun x hx => ?_)]
  · rfl
  · have hp : isP "Peal" x = some false := by
      simp only [List.mem_cons, List.not_mem_nil, or_false] at hx
      rcases hx with rfl | rfl | rfl | rfl | rfl | rfl | rfl | rfl | rfl | rfl | rfl <;> rfl
    have e : m_is_weights_2 (x, eT Dat.int xs) = some (.inr ("NoPeal", none)) := by
      unfold m_is_weights_2
      exact peal_first hp
    rw [e, Option.bind_some]
    show exO0 "NoPeal" ("NoPeal", none) _ _ = _
    unfold exO0
    rw [if_pos rfl]
    rfl
theorem made_spec (h : Kit k) : m__law_made k = some (pl k) := by
  unfold m__law_made
  rw [init_spec h]
  rfl
theorem great_spec (z : Sto) : Wp (m__law_great_right () z) fun r => r.1 = true := by
  unfold m__law_great_right
  refine wp_bind (kit_spec z (by decide) (by decide) (by decide) (by decide)) fun t1 ⟨h, _, _⟩ => ?_
  generalize t1.1 = k at *
  have h1 := h.l1
  have h8 := h.l2
  rw [table_spec h, Option.bind_some]
  refine wp_bind (wp_lcS (P := fun r => r.1.length = k.1.length ∧ SmL r.1) (fun _ y => y.natAbs ≤ 1000) (by omega) (fun c hc z => ?_) fun r hl hy => ⟨hl, fun y hm => by
    obtain ⟨q, hq⟩ := List.mem_iff_getElem?.mp hm
    have hql := (List.getElem?_eq_some_iff.mp hq).1
    exact hy q _ y (List.getElem?_eq_getElem (by omega)) hq⟩) fun t10 ⟨l10, s10⟩ => ?_
  · have hz := h.sz c hc
    refine wp_bind (pull_nat _ (by omega) (by omega)) fun t9 ⟨u, eu, hu⟩ => wp_some ?_
    show t9.1.natAbs ≤ 1000
    rw [eu]
    omega
  refine wp_bind (wp_rngN (P := fun t => t = irange 0 ((6 : Nat) : Int)) (n := 6) (by omega) rfl) fun t11 e11 => ?_
  subst e11
  refine wp_bind (P := fun st : List Dat × Sto => st.1.length ≤ 19 ∧ ∀ d ∈ st.1, Fine d) (wp_forO (fun i st => st.1.length = 1 + 3 * i ∧ ∀ d ∈ st.1, Fine d) ⟨rfl, fun d hd => by rw [List.mem_singleton.mp hd]; exact fine_ints s10 (by omega)⟩ (fun i x st hx ⟨ls, hs⟩ => ?_) fun st ⟨ls, hs⟩ => ⟨by rw [irange_nat_len] at ls; omega, hs⟩) fun fin ⟨lf, hf⟩ => ?_
  · obtain ⟨hi, _⟩ := irange_at hx
    refine wp_bind (plain_spec h _) fun t19 ⟨l19, s19⟩ => ?_
    refine wp_bind (pull_nat _ (by omega) (by omega)) fun t20 ⟨a, ea, ha⟩ => ?_
    rw [ea]
    have ha1 : a < t19.1.length := by omega
    have ha2 : a < k.1.length := by omega
    have hz := h.sz k.1[a] (List.getElem_mem _)
    rw [atI_nat' ha1, Option.bind_some, atI_nat' ha2, Option.bind_some]
    refine wp_bind (pull_nat _ (by omega) (by omega)) fun t23 ⟨b, eb, hb⟩ => ?_
    rw [Option.bind_some, mod_pos (by omega), Option.bind_some]
    refine wp_bind (odd_spec h l19 s19 _) fun t26 h26 => ?_
    rw [show ((a : Int) + (1 : Int)) = ((a + 1 : Nat) : Int) by omega, cut_to, cut_from]
    have r0 := Int.emod_nonneg ((t19.1[a] + 1) + t23.1) (show k.1[a].2 ≠ 0 by omega)
    have r1 := Int.emod_lt_of_pos ((t19.1[a] + 1) + t23.1) (show 0 < k.1[a].2 by omega)
    generalize ((t19.1[a] + 1) + t23.1) % k.1[a].2 = w at *
    rw [cat_ok (by simp; omega), Option.bind_some, cat_ok (by simp; omega), Option.bind_some, cat_ok (by simp; omega), Option.bind_some]
    refine wp_some ⟨by rw [List.length_append]; simp; omega, fun d hd => ?_⟩
    rcases List.mem_append.mp hd with hd | hd
    · exact hs d hd
    · simp only [List.mem_cons, List.not_mem_nil, or_false] at hd
      rcases hd with rfl | rfl | rfl
      · exact fine_ints s19 (by omega)
      · exact h26
      · refine fine_ints (fun x hx => ?_) (by simp; omega)
        rcases List.mem_append.mp hx with hx | hx
        · rcases List.mem_append.mp hx with hx | hx
          · exact sm_take s19 _ x hx
          · rw [List.mem_singleton.mp hx]; omega
        · exact sm_drop s19 _ x hx
  · rw [made_spec h, Option.bind_some]
    refine wp_bind (P := fun t : List Bool => t.all id = true) (wp_lcO (fun _ y => y = true) (by omega) (fun d hd => ?_) fun ys hl hy => ?_) fun t38 h38 => wp_some h38
    · rw [told_spec h (hf d hd), Option.bind_some]
      exact wp_some rfl
    · rw [List.all_eq_true]
      intro y hm
      obtain ⟨q, hq⟩ := List.mem_iff_getElem?.mp hm
      have hql := (List.getElem?_eq_some_iff.mp hq).1
      rw [hy q _ y (List.getElem?_eq_getElem (by omega)) hq]
      rfl
theorem right_spec (z : Sto) : Wp (m__law_right () z) fun r => r.1 = true := by
  unfold m__law_right
  refine wp_bind (kit_spec z (by decide) (by decide) (by decide) (by decide)) fun t1 ⟨h, h3, h6⟩ => ?_
  generalize t1.1 = k at *
  have h1 := h.l1
  have h8 := h.l2
  rw [table_spec h, Option.bind_some, made_spec h, Option.bind_some]
  refine wp_bind (all_spec h (by omega) h6) fun t4 ⟨l1, l2, h4⟩ => ?_
  refine wp_bind (P := fun t : List Bool => t.all id = true) (wp_lcO (fun _ y => y = true) (by omega) (fun d hd => ?_) fun ys hl hy => ?_) fun t12 h12 => ?_
  · have := h4 d hd
    rw [told_spec h (fine_ints this.2 (by omega)), Option.bind_some]
    exact wp_some rfl
  · rw [List.all_eq_true]
    intro y hm
    obtain ⟨q, hq⟩ := List.mem_iff_getElem?.mp hm
    have hql := (List.getElem?_eq_some_iff.mp hq).1
    rw [hy q _ y (List.getElem?_eq_getElem (by omega)) hq]
    rfl
  rw [h12, Bool.not_true, cond_false]
  refine wp_bind (wp_rngO (P := fun _ => True) (by decide) trivial) fun t13 _ => ?_
  refine wp_bind (P := fun r : Sto ⊕ (Bool × Sto) => ∃ s, r = .inl s) (wp_forR (fun _ => True) trivial (fun x hx st _ => ?_) fun st _ => ⟨st, rfl⟩) fun fin ⟨s', e⟩ => ?_
  · refine wp_bind (pull_nat _ (by omega) (by omega)) fun t21 ⟨a, ea, ha⟩ => ?_
    rw [ea]
    refine wp_bind (wp_atI (P := fun r => r.length = k.1.length ∧ SmL r) (by omega) (h4 _ (List.getElem_mem _))) fun t22 h22 => ?_
    refine wp_bind (odd_spec h h22.1 h22.2 _) fun t23 h23 => ?_
    rw [told_spec h h23, Option.bind_some, Bool.not_true, cond_false]
    exact wp_some ⟨_, rfl, trivial⟩
  · subst e
    rw [show ∀ (f : Sto → Option (Bool × Sto)) (g : Bool × Sto → Option (Bool × Sto)), orR (.inl s') f g = f s' from fun _ _ => rfl]
    refine wp_bind (wp_atI (i := 0) (P := fun _ => True) (by omega) trivial) fun t25 _ => ?_
    rw [none_spec, Option.bind_some, cond_true]
    exact wp_bind (P := fun r : Bool × Sto => r.1 = true) (wp_bind (great_spec _) fun t27 h27 => wp_some h27) fun t28 h28 => wp_some h28
end
end K51
end
section
set_option maxHeartbeats 2000000
namespace K51
open PySem L2 Kx Mx
theorem law_true (ns : List Int) (h : ns.length ≤ 63) : m_law ns = some true := by
  have W : Wp (m_law ns) fun b => b = true := by
    unfold m_law
    generalize hn : (if (if (5 : Int) < (ns.length : Int) then (5 : Int) else (ns.length : Int)) > (2 : Int) then (if (5 : Int) < (ns.length : Int) then (5 : Int) else (ns.length : Int)) else (2 : Int)) = n
    have b : 0 ≤ n ∧ n ≤ 63 := by
      rw [← hn]
      split <;> split <;> omega
    obtain ⟨k, rfl⟩ : ∃ k : Nat, n = (k : Int) := ⟨n.toNat, by omega⟩
    refine wp_bind (wp_rngN (P := fun t => t = irange 0 (k : Int)) (by omega) rfl) fun t1 e1 => ?_
    subst e1
    refine wp_bind (P := fun t : List Bool => t.all id = true) (wp_lcO (fun _ y => y = true) (by rw [irange_nat_len]; omega) (fun x hx => ?_) ?_) fun t10 h => wp_some h
    · obtain ⟨j, hj, rfl⟩ := irange_mem hx
      exact wp_bind (opened_spec ns j) fun t8 _ => wp_bind (right_spec t8) fun t9 h => wp_some h
    · intro ys hl h
      rw [List.all_eq_true]
      intro y hy
      obtain ⟨i, hi⟩ := List.mem_iff_getElem?.mp hy
      have hil := (List.getElem?_eq_some_iff.mp hi).1
      have := h i _ y (List.getElem?_eq_getElem (by omega)) hi
      rw [this]; rfl
  obtain ⟨r, hr, e⟩ := W
  rw [hr, e]
end K51
end
section
set_option maxHeartbeats 4000000
namespace K51
open PySem L2 Kx
theorem kwv_is_weights_thing_peal {zs : List V} {ws : List Value} (h : Vals zs ws) : Vals (kw_is_weights_thing_peal zs) (kw_is_weights_thing_peal ws) := by
  cases h with
  | nil => exact .nil
  | cons a0 h =>
    cases h with
    | nil => exact .nil
    | cons a1 h =>
      cases h with
      | nil => exact (.cons a1 (.cons a0 .nil))
      | cons _ _ => exact .nil
theorem law_end [Tb] {K : PySem.W.Frag} {H : Hp} {a : Addr} {ns : List Int} (hl : ns.length ≤ 63) (hT : ∀ p ∈ Tb.t, H p.1 = some (.tbl #[])) (hS : SqL K H a (ns.map V.int)) : sp_law K [.ref a] H (fun v _ => v = .bl true) fun _ _ _ => False :=
  let ⟨G, ok, hG⟩ := start_ok hT hS
  ⟨G, fun _ => none, ns, true, ok, ⟨.ref a, [], rfl, ⟨a, rfl, hG⟩, rfl⟩, law_true ns hl, fun v G' H' _ _ hv => by (cases hv; rfl)⟩
theorem all_mk {l : PySem.W.OpenLaw} {w : World} {K : PySem.W.Frag} {h : Heap} {mg : Str → Option Value} {fa : Addr} (X : K.In h) (G : h.Ns mainGlobals mg) (hfa : mg "law" = some (.ref fa))
    {c_Peal : Addr}
    {c_BellError : Addr}
    {c_NoPeal : Addr}
    {c_NoWeights : Addr}
    {f0 : Addr} {od0 an0 : Option Addr} {sl0 : Array (Option Value)} {oc0 kV0 dc0 pm0 cd0 ct0 : Value}
    {f1 : Addr} {od1 an1 : Option Addr} {sl1 : Array (Option Value)} {oc1 kV1 dc1 pm1 cd1 ct1 : Value}
    {f2 : Addr} {od2 an2 : Option Addr} {sl2 : Array (Option Value)} {oc2 kV2 dc2 pm2 cd2 ct2 : Value}
    {f3 : Addr} {od3 an3 : Option Addr} {sl3 : Array (Option Value)} {oc3 kV3 dc3 pm3 cd3 ct3 : Value}
    {f4 : Addr} {od4 an4 : Option Addr} {sl4 : Array (Option Value)} {oc4 kV4 dc4 pm4 cd4 ct4 : Value}
    {f5 : Addr} {od5 an5 : Option Addr} {sl5 : Array (Option Value)} {oc5 kV5 dc5 pm5 cd5 ct5 : Value}
    {f6 : Addr} {od6 an6 : Option Addr} {sl6 : Array (Option Value)} {oc6 kV6 dc6 pm6 cd6 ct6 : Value}
    {tt7 te7 : Addr} {dt7 : Option Addr} {st7 : Array (Option Value)} {cc7 : Value} {nt7 : Nat}
    {f7 : Addr} {od7 an7 : Option Addr} {sl7 : Array (Option Value)} {oc7 kV7 dc7 pm7 cd7 ct7 : Value}
    {f8 : Addr} {od8 an8 : Option Addr} {sl8 : Array (Option Value)} {oc8 kV8 dc8 pm8 cd8 ct8 : Value}
    {f9 : Addr} {od9 an9 : Option Addr} {sl9 : Array (Option Value)} {oc9 kV9 dc9 pm9 cd9 ct9 : Value}
    {f10 : Addr} {od10 an10 : Option Addr} {sl10 : Array (Option Value)} {oc10 kV10 dc10 pm10 cd10 ct10 : Value}
    {f11 : Addr} {od11 an11 : Option Addr} {sl11 : Array (Option Value)} {oc11 kV11 dc11 pm11 cd11 ct11 : Value}
    {f12 : Addr} {od12 an12 : Option Addr} {sl12 : Array (Option Value)} {oc12 kV12 dc12 pm12 cd12 ct12 : Value}
    {f13 : Addr} {od13 an13 : Option Addr} {sl13 : Array (Option Value)} {oc13 kV13 dc13 pm13 cd13 ct13 : Value}
    {f14 : Addr} {od14 an14 : Option Addr} {sl14 : Array (Option Value)} {oc14 kV14 dc14 pm14 cd14 ct14 : Value}
    {f15 : Addr} {od15 an15 : Option Addr} {sl15 : Array (Option Value)} {oc15 kV15 dc15 pm15 cd15 ct15 : Value}
    {f16 : Addr} {od16 an16 : Option Addr} {sl16 : Array (Option Value)} {oc16 kV16 dc16 pm16 cd16 ct16 : Value}
    {f17 : Addr} {od17 an17 : Option Addr} {sl17 : Array (Option Value)} {oc17 kV17 dc17 pm17 cd17 ct17 : Value}
    {f18 : Addr} {od18 an18 : Option Addr} {sl18 : Array (Option Value)} {oc18 kV18 dc18 pm18 cd18 ct18 : Value}
    {f19 : Addr} {od19 an19 : Option Addr} {sl19 : Array (Option Value)} {oc19 kV19 dc19 pm19 cd19 ct19 : Value}
    {f20 : Addr} {od20 an20 : Option Addr} {sl20 : Array (Option Value)} {oc20 kV20 dc20 pm20 cd20 ct20 : Value}
    {f21 : Addr} {od21 an21 : Option Addr} {sl21 : Array (Option Value)} {oc21 kV21 dc21 pm21 cd21 ct21 : Value}
    {f22 : Addr} {od22 an22 : Option Addr} {sl22 : Array (Option Value)} {oc22 kV22 dc22 pm22 cd22 ct22 : Value}
    {f23 : Addr} {od23 an23 : Option Addr} {sl23 : Array (Option Value)} {oc23 kV23 dc23 pm23 cd23 ct23 : Value}
    {f24 : Addr} {od24 an24 : Option Addr} {sl24 : Array (Option Value)} {oc24 kV24 dc24 pm24 cd24 ct24 : Value}
    {f25 : Addr} {od25 an25 : Option Addr} {sl25 : Array (Option Value)} {oc25 kV25 dc25 pm25 cd25 ct25 : Value}
    {f26 : Addr} {od26 an26 : Option Addr} {sl26 : Array (Option Value)} {oc26 kV26 dc26 pm26 cd26 ct26 : Value}
    {f27 : Addr} {od27 an27 : Option Addr} {sl27 : Array (Option Value)} {oc27 kV27 dc27 pm27 cd27 ct27 : Value}
    {f28 : Addr} {od28 an28 : Option Addr} {sl28 : Array (Option Value)} {oc28 kV28 dc28 pm28 cd28 ct28 : Value}
    {f29 : Addr} {od29 an29 : Option Addr} {sl29 : Array (Option Value)} {oc29 kV29 dc29 pm29 cd29 ct29 : Value}
    {f30 : Addr} {od30 an30 : Option Addr} {sl30 : Array (Option Value)} {oc30 kV30 dc30 pm30 cd30 ct30 : Value}
    {f31 : Addr} {od31 an31 : Option Addr} {sl31 : Array (Option Value)} {oc31 kV31 dc31 pm31 cd31 ct31 : Value}
    {f32 : Addr} {od32 an32 : Option Addr} {sl32 : Array (Option Value)} {oc32 kV32 dc32 pm32 cd32 ct32 : Value}
    {f33 : Addr} {od33 an33 : Option Addr} {sl33 : Array (Option Value)} {oc33 kV33 dc33 pm33 cd33 ct33 : Value}
    {f34 : Addr} {od34 an34 : Option Addr} {sl34 : Array (Option Value)} {oc34 kV34 dc34 pm34 cd34 ct34 : Value}
    {f35 : Addr} {od35 an35 : Option Addr} {sl35 : Array (Option Value)} {oc35 kV35 dc35 pm35 cd35 ct35 : Value}
    {f36 : Addr} {od36 an36 : Option Addr} {sl36 : Array (Option Value)} {oc36 kV36 dc36 pm36 cd36 ct36 : Value}
    {f37 : Addr} {od37 an37 : Option Addr} {sl37 : Array (Option Value)} {oc37 kV37 dc37 pm37 cd37 ct37 : Value}
    {f38 : Addr} {od38 an38 : Option Addr} {sl38 : Array (Option Value)} {oc38 kV38 dc38 pm38 cd38 ct38 : Value}
    {f39 : Addr} {od39 an39 : Option Addr} {sl39 : Array (Option Value)} {oc39 kV39 dc39 pm39 cd39 ct39 : Value}
    {f40 : Addr} {od40 an40 : Option Addr} {sl40 : Array (Option Value)} {oc40 kV40 dc40 pm40 cd40 ct40 : Value}
    {f41 : Addr} {od41 an41 : Option Addr} {sl41 : Array (Option Value)} {oc41 kV41 dc41 pm41 cd41 ct41 : Value}
    {f42 : Addr} {od42 an42 : Option Addr} {sl42 : Array (Option Value)} {oc42 kV42 dc42 pm42 cd42 ct42 : Value}
    {f43 : Addr} {od43 an43 : Option Addr} {sl43 : Array (Option Value)} {oc43 kV43 dc43 pm43 cd43 ct43 : Value}
    {tk0 : Tok}
    {tk1 : Tok}
    {tk2 : Tok}
    {tk3 : Tok}
    {tk4 : Tok}
    {tk5 : Tok}
    (gc_Peal : PySem.W.nsIn K mainGlobals "Peal" = some (some (.ref c_Peal)))
    (p1_Peal : PySem.W.plainGet K c_Peal Str.empty = true) (p2_Peal : PySem.W.hasDictIn K c_Peal = true) (p3_Peal : PySem.W.plainOver K c_Peal = true) (p4_Peal : PySem.W.findIn K (.ref c_Peal) "__setattr__" = some (some (.builtin "object.__setattr__"))) (p5_Peal : PySem.W.makesIn K c_Peal = true) (p6_Peal : PySem.W.keepIn K (.ref c_Peal) = true)
    (p7_Peal : PySem.W.findIn K (.ref c_Peal) "__class__" = some (some (.builtin "object.__class__"))) (p8_Peal : PySem.W.specialIn K (.builtin "object.__class__") "__get__" = some (some (.builtin "getset_descriptor.__get__"))) (p9_Peal : PySem.W.takesIn K (.builtin "object.__class__") = some true) (pa_Peal : PySem.W.mroIn K c_Peal (.type "object") = some true)
    (no1_Peal : PySem.W.mroIn K c_Peal (.type "tuple") = some false)
    (no2_Peal : PySem.W.mroIn K c_Peal (.type "int") = some false)
    (no3_Peal : PySem.W.mroIn K c_Peal (.type "bool") = some false)
    (no4_Peal : PySem.W.mroIn K c_Peal (.type "str") = some false)
    (no5_Peal : PySem.W.mroIn K c_Peal (.type "list") = some false)
    (n_Peal_bells : PySem.W.findIn K (.ref c_Peal) "bells" = some none)
    (n_Peal_notches : PySem.W.findIn K (.ref c_Peal) "notches" = some none)
    (n_Peal_sizes : PySem.W.findIn K (.ref c_Peal) "sizes" = some none)
    (n_Peal_turning : PySem.W.findIn K (.ref c_Peal) "turning" = some none)
    (iC_Peal : PySem.W.isClsIn K c_Peal = true)
    (tY_Peal : PySem.W.typeIn K (.ref c_Peal) = some (.type "type"))
    (gc_BellError : PySem.W.nsIn K mainGlobals "BellError" = some (some (.ref c_BellError)))
    (gc_NoPeal : PySem.W.nsIn K mainGlobals "NoPeal" = some (some (.ref c_NoPeal)))
    (gc_NoWeights : PySem.W.nsIn K mainGlobals "NoWeights" = some (some (.ref c_NoWeights)))
    (sB_BellError : PySem.W.subIn K (.ref c_BellError) (.type "BaseException") = some true)
    (hD_BellError : PySem.W.hasDictIn K c_BellError = true)
    (tY_BellError : PySem.W.typeIn K (.ref c_BellError) = some (.type "type"))
    (sU_NoPeal_BellError : PySem.W.subIn K (.ref c_NoPeal) (.ref c_BellError) = some true)
    (gA_NoPeal : PySem.W.findIn K (.ref c_NoPeal) "__getattribute__" = some (some (.builtin "BaseException.__getattribute__")))
    (gG_NoPeal : PySem.W.findIn K (.ref c_NoPeal) "__getattr__" = some none)
    (sB_NoPeal : PySem.W.subIn K (.ref c_NoPeal) (.type "BaseException") = some true)
    (hD_NoPeal : PySem.W.hasDictIn K c_NoPeal = true)
    (cC_NoPeal : PySem.W.findIn K (.ref c_NoPeal) "__class__" = some (some (.builtin "object.__class__")))
    (cN : PySem.W.specialIn K (.builtin "object.__class__") "__get__" = some (some (.builtin "getset_descriptor.__get__")))
    (cT : PySem.W.takesIn K (.builtin "object.__class__") = some true)
    (cM_NoPeal : PySem.W.mroIn K c_NoPeal (.type "object") = some true)
    (iC_NoWeights : PySem.W.isClsIn K c_NoWeights = true)
    (tY_NoWeights : PySem.W.typeIn K (.ref c_NoWeights) = some (.type "type"))
    (sU_NoPeal_NoPeal : PySem.W.subIn K (.ref c_NoPeal) (.ref c_NoPeal) = some true)
    (sU_NoPeal_NoWeights : PySem.W.subIn K (.ref c_NoPeal) (.ref c_NoWeights) = some false)
    (eI_NoPeal : PySem.W.excIn K c_NoPeal [.type "ValueError", .type "Exception", .type "BaseException", .type "object"] "ValueError.__new__" = true)
    (kP_NoPeal : PySem.W.keepIn K (.ref c_NoPeal) = true)
    (tY_NoPeal : PySem.W.typeIn K (.ref c_NoPeal) = some (.type "type"))
    (a0 : PySem.W.nsIn K mainGlobals "is_whole" = some (some (.ref f0))) (l0 : K.lookup f0 = some ⟨oc0, od0, .func (PySem.W.fnOf "is_whole" "is_whole" (defArgs s_is_whole) (defBody s_is_whole) (defScope s_is_whole) .none kV0 dc0 pm0 an0 cd0 ct0), sl0⟩) (c0 : PySem.W.codeIn K cd0 "is_whole" = true) (k0 : PySem.W.keepIn K (.ref f0) = true)
    (a1 : PySem.W.nsIn K mainGlobals "is_within" = some (some (.ref f1))) (l1 : K.lookup f1 = some ⟨oc1, od1, .func (PySem.W.fnOf "is_within" "is_within" (defArgs s_is_within) (defBody s_is_within) (defScope s_is_within) .none kV1 dc1 pm1 an1 cd1 ct1), sl1⟩) (c1 : PySem.W.codeIn K cd1 "is_within" = true) (k1 : PySem.W.keepIn K (.ref f1) = true)
    (a2 : PySem.W.nsIn K mainGlobals "is_name" = some (some (.ref f2))) (l2 : K.lookup f2 = some ⟨oc2, od2, .func (PySem.W.fnOf "is_name" "is_name" (defArgs s_is_name) (defBody s_is_name) (defScope s_is_name) .none kV2 dc2 pm2 an2 cd2 ct2), sl2⟩) (c2 : PySem.W.codeIn K cd2 "is_name" = true) (k2 : PySem.W.keepIn K (.ref f2) = true)
    (a3 : PySem.W.nsIn K mainGlobals "is_bell" = some (some (.ref f3))) (l3 : K.lookup f3 = some ⟨oc3, od3, .func (PySem.W.fnOf "is_bell" "is_bell" (defArgs s_is_bell) (defBody s_is_bell) (defScope s_is_bell) .none kV3 dc3 pm3 an3 cd3 ct3), sl3⟩) (c3 : PySem.W.codeIn K cd3 "is_bell" = true) (k3 : PySem.W.keepIn K (.ref f3) = true)
    (a4 : PySem.W.nsIn K mainGlobals "check_bells" = some (some (.ref f4))) (l4 : K.lookup f4 = some ⟨oc4, od4, .func (PySem.W.fnOf "check_bells" "check_bells" (defArgs s_check_bells) (defBody s_check_bells) (defScope s_check_bells) .none kV4 dc4 pm4 an4 cd4 ct4), sl4⟩) (c4 : PySem.W.codeIn K cd4 "check_bells" = true) (k4 : PySem.W.keepIn K (.ref f4) = true)
    (a5 : PySem.W.nsIn K mainGlobals "is_notch" = some (some (.ref f5))) (l5 : K.lookup f5 = some ⟨oc5, od5, .func (PySem.W.fnOf "is_notch" "is_notch" (defArgs s_is_notch) (defBody s_is_notch) (defScope s_is_notch) .none kV5 dc5 pm5 an5 cd5 ct5), sl5⟩) (c5 : PySem.W.codeIn K cd5 "is_notch" = true) (k5 : PySem.W.keepIn K (.ref f5) = true)
    (a6 : PySem.W.nsIn K mainGlobals "check_notches" = some (some (.ref f6))) (l6 : K.lookup f6 = some ⟨oc6, od6, .func (PySem.W.fnOf "check_notches" "check_notches" (defArgs s_check_notches) (defBody s_check_notches) (defScope s_check_notches) .none kV6 dc6 pm6 an6 cd6 ct6), sl6⟩) (c6 : PySem.W.codeIn K cd6 "check_notches" = true) (k6 : PySem.W.keepIn K (.ref f6) = true)
    (a7 : PySem.W.findIn K (.ref c_Peal) "__init__" = some (some (.ref f7))) (i7 : PySem.W.isFn K (.ref f7) = true) (l7 : K.lookup f7 = some ⟨oc7, od7, .func (PySem.W.fnOf "__init__" "Peal.__init__" (defArgs s_Peal___init__) (defBody s_Peal___init__) (defScope s_Peal___init__) (.ref tt7) kV7 dc7 pm7 an7 cd7 ct7), sl7⟩) (c7 : PySem.W.codeIn K cd7 "Peal.__init__" = true) (k7 : PySem.W.keepIn K (.ref f7) = true)
    (t7 : K.lookup tt7 = some ⟨cc7, dt7, .seq #[.ref te7] nt7, st7⟩)
    (a8 : PySem.W.nsIn K mainGlobals "check_peal" = some (some (.ref f8))) (l8 : K.lookup f8 = some ⟨oc8, od8, .func (PySem.W.fnOf "check_peal" "check_peal" (defArgs s_check_peal) (defBody s_check_peal) (defScope s_check_peal) .none kV8 dc8 pm8 an8 cd8 ct8), sl8⟩) (c8 : PySem.W.codeIn K cd8 "check_peal" = true) (k8 : PySem.W.keepIn K (.ref f8) = true)
    (a9 : PySem.W.nsIn K mainGlobals "check_name" = some (some (.ref f9))) (l9 : K.lookup f9 = some ⟨oc9, od9, .func (PySem.W.fnOf "check_name" "check_name" (defArgs s_check_name) (defBody s_check_name) (defScope s_check_name) .none kV9 dc9 pm9 an9 cd9 ct9), sl9⟩) (c9 : PySem.W.codeIn K cd9 "check_name" = true) (k9 : PySem.W.keepIn K (.ref f9) = true)
    (a10 : PySem.W.findIn K (.ref c_Peal) "names" = some (some (.ref f10))) (i10 : PySem.W.isFn K (.ref f10) = true) (l10 : K.lookup f10 = some ⟨oc10, od10, .func (PySem.W.fnOf "names" "Peal.names" (defArgs s_Peal_names) (defBody s_Peal_names) (defScope s_Peal_names) .none kV10 dc10 pm10 an10 cd10 ct10), sl10⟩) (c10 : PySem.W.codeIn K cd10 "Peal.names" = true) (k10 : PySem.W.keepIn K (.ref f10) = true)
    (a11 : PySem.W.findIn K (.ref c_Peal) "notch" = some (some (.ref f11))) (i11 : PySem.W.isFn K (.ref f11) = true) (l11 : K.lookup f11 = some ⟨oc11, od11, .func (PySem.W.fnOf "notch" "Peal.notch" (defArgs s_Peal_notch) (defBody s_Peal_notch) (defScope s_Peal_notch) .none kV11 dc11 pm11 an11 cd11 ct11), sl11⟩) (c11 : PySem.W.codeIn K cd11 "Peal.notch" = true) (k11 : PySem.W.keepIn K (.ref f11) = true)
    (a12 : PySem.W.nsIn K mainGlobals "ahead_in" = some (some (.ref f12))) (l12 : K.lookup f12 = some ⟨oc12, od12, .func (PySem.W.fnOf "ahead_in" "ahead_in" (defArgs s_ahead_in) (defBody s_ahead_in) (defScope s_ahead_in) .none kV12 dc12 pm12 an12 cd12 ct12), sl12⟩) (c12 : PySem.W.codeIn K cd12 "ahead_in" = true) (k12 : PySem.W.keepIn K (.ref f12) = true)
    (a13 : PySem.W.nsIn K mainGlobals "dials_of" = some (some (.ref f13))) (l13 : K.lookup f13 = some ⟨oc13, od13, .func (PySem.W.fnOf "dials_of" "dials_of" (defArgs s_dials_of) (defBody s_dials_of) (defScope s_dials_of) .none kV13 dc13 pm13 an13 cd13 ct13), sl13⟩) (c13 : PySem.W.codeIn K cd13 "dials_of" = true) (k13 : PySem.W.keepIn K (.ref f13) = true)
    (a14 : PySem.W.nsIn K mainGlobals "swing_of" = some (some (.ref f14))) (l14 : K.lookup f14 = some ⟨oc14, od14, .func (PySem.W.fnOf "swing_of" "swing_of" (defArgs s_swing_of) (defBody s_swing_of) (defScope s_swing_of) .none kV14 dc14 pm14 an14 cd14 ct14), sl14⟩) (c14 : PySem.W.codeIn K cd14 "swing_of" = true) (k14 : PySem.W.keepIn K (.ref f14) = true)
    (a15 : PySem.W.nsIn K mainGlobals "twos" = some (some (.ref f15))) (l15 : K.lookup f15 = some ⟨oc15, od15, .func (PySem.W.fnOf "twos" "twos" (defArgs s_twos) (defBody s_twos) (defScope s_twos) .none kV15 dc15 pm15 an15 cd15 ct15), sl15⟩) (c15 : PySem.W.codeIn K cd15 "twos" = true) (k15 : PySem.W.keepIn K (.ref f15) = true)
    (a16 : PySem.W.nsIn K mainGlobals "swings" = some (some (.ref f16))) (l16 : K.lookup f16 = some ⟨oc16, od16, .func (PySem.W.fnOf "swings" "swings" (defArgs s_swings) (defBody s_swings) (defScope s_swings) .none kV16 dc16 pm16 an16 cd16 ct16), sl16⟩) (c16 : PySem.W.codeIn K cd16 "swings" = true) (k16 : PySem.W.keepIn K (.ref f16) = true)
    (a17 : PySem.W.nsIn K mainGlobals "shared" = some (some (.ref f17))) (l17 : K.lookup f17 = some ⟨oc17, od17, .func (PySem.W.fnOf "shared" "shared" (defArgs s_shared) (defBody s_shared) (defScope s_shared) .none kV17 dc17 pm17 an17 cd17 ct17), sl17⟩) (c17 : PySem.W.codeIn K cd17 "shared" = true) (k17 : PySem.W.keepIn K (.ref f17) = true)
    (a18 : PySem.W.nsIn K mainGlobals "common" = some (some (.ref f18))) (l18 : K.lookup f18 = some ⟨oc18, od18, .func (PySem.W.fnOf "common" "common" (defArgs s_common) (defBody s_common) (defScope s_common) .none kV18 dc18 pm18 an18 cd18 ct18), sl18⟩) (c18 : PySem.W.codeIn K cd18 "common" = true) (k18 : PySem.W.keepIn K (.ref f18) = true)
    (a19 : PySem.W.nsIn K mainGlobals "all_marks" = some (some (.ref f19))) (l19 : K.lookup f19 = some ⟨oc19, od19, .func (PySem.W.fnOf "all_marks" "all_marks" (defArgs s_all_marks) (defBody s_all_marks) (defScope s_all_marks) .none kV19 dc19 pm19 an19 cd19 ct19), sl19⟩) (c19 : PySem.W.codeIn K cd19 "all_marks" = true) (k19 : PySem.W.keepIn K (.ref f19) = true)
    (a20 : PySem.W.nsIn K mainGlobals "comes_whole" = some (some (.ref f20))) (l20 : K.lookup f20 = some ⟨oc20, od20, .func (PySem.W.fnOf "comes_whole" "comes_whole" (defArgs s_comes_whole) (defBody s_comes_whole) (defScope s_comes_whole) .none kV20 dc20 pm20 an20 cd20 ct20), sl20⟩) (c20 : PySem.W.codeIn K cd20 "comes_whole" = true) (k20 : PySem.W.keepIn K (.ref f20) = true)
    (a21 : PySem.W.nsIn K mainGlobals "are_weights" = some (some (.ref f21))) (l21 : K.lookup f21 = some ⟨oc21, od21, .func (PySem.W.fnOf "are_weights" "are_weights" (defArgs s_are_weights) (defBody s_are_weights) (defScope s_are_weights) .none kV21 dc21 pm21 an21 cd21 ct21), sl21⟩) (c21 : PySem.W.codeIn K cd21 "are_weights" = true) (k21 : PySem.W.keepIn K (.ref f21) = true)
    (a22 : PySem.W.nsIn K mainGlobals "is_weights" = some (some (.ref f22))) (l22 : K.lookup f22 = some ⟨oc22, od22, .func (PySem.W.fnOf "is_weights" "is_weights" (defArgs s_is_weights) (defBody s_is_weights) (defScope s_is_weights) .none kV22 dc22 pm22 an22 cd22 ct22), sl22⟩) (c22 : PySem.W.codeIn K cd22 "is_weights" = true) (k22 : PySem.W.keepIn K (.ref f22) = true)
    (a23 : PySem.W.nsIn K mainGlobals "_law_opened" = some (some (.ref f23))) (l23 : K.lookup f23 = some ⟨oc23, od23, .func (PySem.W.fnOf "_law_opened" "_law_opened" (defArgs s__law_opened) (defBody s__law_opened) (defScope s__law_opened) .none kV23 dc23 pm23 an23 cd23 ct23), sl23⟩) (c23 : PySem.W.codeIn K cd23 "_law_opened" = true) (k23 : PySem.W.keepIn K (.ref f23) = true)
    (a24 : PySem.W.nsIn K mainGlobals "_law_pull" = some (some (.ref f24))) (l24 : K.lookup f24 = some ⟨oc24, od24, .func (PySem.W.fnOf "_law_pull" "_law_pull" (defArgs s__law_pull) (defBody s__law_pull) (defScope s__law_pull) .none kV24 dc24 pm24 an24 cd24 ct24), sl24⟩) (c24 : PySem.W.codeIn K cd24 "_law_pull" = true) (k24 : PySem.W.keepIn K (.ref f24) = true)
    (a25 : PySem.W.nsIn K mainGlobals "_law_spelt" = some (some (.ref f25))) (l25 : K.lookup f25 = some ⟨oc25, od25, .func (PySem.W.fnOf "_law_spelt" "_law_spelt" (defArgs s__law_spelt) (defBody s__law_spelt) (defScope s__law_spelt) .none kV25 dc25 pm25 an25 cd25 ct25), sl25⟩) (c25 : PySem.W.codeIn K cd25 "_law_spelt" = true) (k25 : PySem.W.keepIn K (.ref f25) = true)
    (a26 : PySem.W.nsIn K mainGlobals "_law_calls" = some (some (.ref f26))) (l26 : K.lookup f26 = some ⟨oc26, od26, .func (PySem.W.fnOf "_law_calls" "_law_calls" (defArgs s__law_calls) (defBody s__law_calls) (defScope s__law_calls) .none kV26 dc26 pm26 an26 cd26 ct26), sl26⟩) (c26 : PySem.W.codeIn K cd26 "_law_calls" = true) (k26 : PySem.W.keepIn K (.ref f26) = true)
    (a27 : PySem.W.nsIn K mainGlobals "_law_figure" = some (some (.ref f27))) (l27 : K.lookup f27 = some ⟨oc27, od27, .func (PySem.W.fnOf "_law_figure" "_law_figure" (defArgs s__law_figure) (defBody s__law_figure) (defScope s__law_figure) .none kV27 dc27 pm27 an27 cd27 ct27), sl27⟩) (c27 : PySem.W.codeIn K cd27 "_law_figure" = true) (k27 : PySem.W.keepIn K (.ref f27) = true)
    (a28 : PySem.W.nsIn K mainGlobals "_law_kit" = some (some (.ref f28))) (l28 : K.lookup f28 = some ⟨oc28, od28, .func (PySem.W.fnOf "_law_kit" "_law_kit" (defArgs s__law_kit) (defBody s__law_kit) (defScope s__law_kit) .none kV28 dc28 pm28 an28 cd28 ct28), sl28⟩) (c28 : PySem.W.codeIn K cd28 "_law_kit" = true) (k28 : PySem.W.keepIn K (.ref f28) = true)
    (a29 : PySem.W.nsIn K mainGlobals "_law_table" = some (some (.ref f29))) (l29 : K.lookup f29 = some ⟨oc29, od29, .func (PySem.W.fnOf "_law_table" "_law_table" (defArgs s__law_table) (defBody s__law_table) (defScope s__law_table) .none kV29 dc29 pm29 an29 cd29 ct29), sl29⟩) (c29 : PySem.W.codeIn K cd29 "_law_table" = true) (k29 : PySem.W.keepIn K (.ref f29) = true)
    (a30 : PySem.W.nsIn K mainGlobals "_law_twos" = some (some (.ref f30))) (l30 : K.lookup f30 = some ⟨oc30, od30, .func (PySem.W.fnOf "_law_twos" "_law_twos" (defArgs s__law_twos) (defBody s__law_twos) (defScope s__law_twos) .none kV30 dc30 pm30 an30 cd30 ct30), sl30⟩) (c30 : PySem.W.codeIn K cd30 "_law_twos" = true) (k30 : PySem.W.keepIn K (.ref f30) = true)
    (a31 : PySem.W.nsIn K mainGlobals "_law_made" = some (some (.ref f31))) (l31 : K.lookup f31 = some ⟨oc31, od31, .func (PySem.W.fnOf "_law_made" "_law_made" (defArgs s__law_made) (defBody s__law_made) (defScope s__law_made) .none kV31 dc31 pm31 an31 cd31 ct31), sl31⟩) (c31 : PySem.W.codeIn K cd31 "_law_made" = true) (k31 : PySem.W.keepIn K (.ref f31) = true)
    (a32 : PySem.W.nsIn K mainGlobals "_law_shared" = some (some (.ref f32))) (l32 : K.lookup f32 = some ⟨oc32, od32, .func (PySem.W.fnOf "_law_shared" "_law_shared" (defArgs s__law_shared) (defBody s__law_shared) (defScope s__law_shared) .none kV32 dc32 pm32 an32 cd32 ct32), sl32⟩) (c32 : PySem.W.codeIn K cd32 "_law_shared" = true) (k32 : PySem.W.keepIn K (.ref f32) = true)
    (a33 : PySem.W.nsIn K mainGlobals "_law_keeps" = some (some (.ref f33))) (l33 : K.lookup f33 = some ⟨oc33, od33, .func (PySem.W.fnOf "_law_keeps" "_law_keeps" (defArgs s__law_keeps) (defBody s__law_keeps) (defScope s__law_keeps) .none kV33 dc33 pm33 an33 cd33 ct33), sl33⟩) (c33 : PySem.W.codeIn K cd33 "_law_keeps" = true) (k33 : PySem.W.keepIn K (.ref f33) = true)
    (a34 : PySem.W.nsIn K mainGlobals "_law_plain" = some (some (.ref f34))) (l34 : K.lookup f34 = some ⟨oc34, od34, .func (PySem.W.fnOf "_law_plain" "_law_plain" (defArgs s__law_plain) (defBody s__law_plain) (defScope s__law_plain) .none kV34 dc34 pm34 an34 cd34 ct34), sl34⟩) (c34 : PySem.W.codeIn K cd34 "_law_plain" = true) (k34 : PySem.W.keepIn K (.ref f34) = true)
    (a35 : PySem.W.nsIn K mainGlobals "_law_whole" = some (some (.ref f35))) (l35 : K.lookup f35 = some ⟨oc35, od35, .func (PySem.W.fnOf "_law_whole" "_law_whole" (defArgs s__law_whole) (defBody s__law_whole) (defScope s__law_whole) .none kV35 dc35 pm35 an35 cd35 ct35), sl35⟩) (c35 : PySem.W.codeIn K cd35 "_law_whole" = true) (k35 : PySem.W.keepIn K (.ref f35) = true)
    (a36 : PySem.W.nsIn K mainGlobals "_law_all" = some (some (.ref f36))) (l36 : K.lookup f36 = some ⟨oc36, od36, .func (PySem.W.fnOf "_law_all" "_law_all" (defArgs s__law_all) (defBody s__law_all) (defScope s__law_all) .none kV36 dc36 pm36 an36 cd36 ct36), sl36⟩) (c36 : PySem.W.codeIn K cd36 "_law_all" = true) (k36 : PySem.W.keepIn K (.ref f36) = true)
    (a37 : PySem.W.nsIn K mainGlobals "_law_due" = some (some (.ref f37))) (l37 : K.lookup f37 = some ⟨oc37, od37, .func (PySem.W.fnOf "_law_due" "_law_due" (defArgs s__law_due) (defBody s__law_due) (defScope s__law_due) .none kV37 dc37 pm37 an37 cd37 ct37), sl37⟩) (c37 : PySem.W.codeIn K cd37 "_law_due" = true) (k37 : PySem.W.keepIn K (.ref f37) = true)
    (a38 : PySem.W.nsIn K mainGlobals "_law_odd" = some (some (.ref f38))) (l38 : K.lookup f38 = some ⟨oc38, od38, .func (PySem.W.fnOf "_law_odd" "_law_odd" (defArgs s__law_odd) (defBody s__law_odd) (defScope s__law_odd) .none kV38 dc38 pm38 an38 cd38 ct38), sl38⟩) (c38 : PySem.W.codeIn K cd38 "_law_odd" = true) (k38 : PySem.W.keepIn K (.ref f38) = true)
    (a39 : PySem.W.nsIn K mainGlobals "_law_told_right" = some (some (.ref f39))) (l39 : K.lookup f39 = some ⟨oc39, od39, .func (PySem.W.fnOf "_law_told_right" "_law_told_right" (defArgs s__law_told_right) (defBody s__law_told_right) (defScope s__law_told_right) .none kV39 dc39 pm39 an39 cd39 ct39), sl39⟩) (c39 : PySem.W.codeIn K cd39 "_law_told_right" = true) (k39 : PySem.W.keepIn K (.ref f39) = true)
    (a40 : PySem.W.nsIn K mainGlobals "_law_none_right" = some (some (.ref f40))) (l40 : K.lookup f40 = some ⟨oc40, od40, .func (PySem.W.fnOf "_law_none_right" "_law_none_right" (defArgs s__law_none_right) (defBody s__law_none_right) (defScope s__law_none_right) .none kV40 dc40 pm40 an40 cd40 ct40), sl40⟩) (c40 : PySem.W.codeIn K cd40 "_law_none_right" = true) (k40 : PySem.W.keepIn K (.ref f40) = true)
    (a41 : PySem.W.nsIn K mainGlobals "_law_great_right" = some (some (.ref f41))) (l41 : K.lookup f41 = some ⟨oc41, od41, .func (PySem.W.fnOf "_law_great_right" "_law_great_right" (defArgs s__law_great_right) (defBody s__law_great_right) (defScope s__law_great_right) .none kV41 dc41 pm41 an41 cd41 ct41), sl41⟩) (c41 : PySem.W.codeIn K cd41 "_law_great_right" = true) (k41 : PySem.W.keepIn K (.ref f41) = true)
    (a42 : PySem.W.nsIn K mainGlobals "_law_right" = some (some (.ref f42))) (l42 : K.lookup f42 = some ⟨oc42, od42, .func (PySem.W.fnOf "_law_right" "_law_right" (defArgs s__law_right) (defBody s__law_right) (defScope s__law_right) .none kV42 dc42 pm42 an42 cd42 ct42), sl42⟩) (c42 : PySem.W.codeIn K cd42 "_law_right" = true) (k42 : PySem.W.keepIn K (.ref f42) = true)
    (a43 : PySem.W.nsIn K mainGlobals "law" = some (some (.ref f43))) (l43 : K.lookup f43 = some ⟨oc43, od43, .func (PySem.W.fnOf "law" "law" (defArgs s_law) (defBody s_law) (defScope s_law) .none kV43 dc43 pm43 an43 cd43 ct43), sl43⟩) (c43 : PySem.W.codeIn K cd43 "law" = true) (k43 : PySem.W.keepIn K (.ref f43) = true)
    (z0 : PySem.W.nsIn K mainGlobals "int" = some none)
    (z1 : PySem.W.nsIn K mainGlobals "isinstance" = some none)
    (z2 : PySem.W.nsIn K mainGlobals "bool" = some none)
    (z3 : PySem.W.nsIn K mainGlobals "str" = some none)
    (z4 : PySem.W.nsIn K mainGlobals "len" = some none)
    (z5 : PySem.W.nsIn K mainGlobals "all" = some none)
    (z6 : PySem.W.nsIn K mainGlobals "tuple" = some none)
    (z7 : PySem.W.nsIn K mainGlobals "enumerate" = some none)
    (z8 : PySem.W.nsIn K mainGlobals "dict" = some none)
    (z9 : PySem.W.nsIn K mainGlobals "zip" = some none)
    (z10 : PySem.W.nsIn K mainGlobals "sum" = some none)
    (z11 : PySem.W.nsIn K mainGlobals "abs" = some none)
    (z12 : PySem.W.nsIn K mainGlobals "divmod" = some none)
    (z13 : PySem.W.nsIn K mainGlobals "range" = some none)
    (z14 : PySem.W.nsIn K mainGlobals "sorted" = some none)
    (z15 : PySem.W.nsIn K mainGlobals "list" = some none)
    (z16 : PySem.W.nsIn K mainGlobals "repr" = some none)
    (z17 : PySem.W.nsIn K mainGlobals "min" = some none)
    (z18 : PySem.W.nsIn K mainGlobals "max" = some none)
    (q0 : PySem.W.nsIn K mainGlobals "MOST_LETTERS" = some (some (.int 6 tk0)))
    (q1 : PySem.W.nsIn K mainGlobals "LETTERS" = some (some (.str "abcdefghijklmnopqrstuvwxyz" tk1)))
    (q2 : PySem.W.nsIn K mainGlobals "LEAST_MARKS" = some (some (.int 2 tk2)))
    (q3 : PySem.W.nsIn K mainGlobals "MOST_MARKS" = some (some (.int 24 tk3)))
    (q4 : PySem.W.nsIn K mainGlobals "MOST_BELLS" = some (some (.int 8 tk4)))
    (q5 : PySem.W.nsIn K mainGlobals "MOST_NUMBER" = some (some (.int 99 tk5)))
    : LawTab l w K 11 63 "_law_script" mg fa h := by
  have ec_Peal := clsAt_of gc_Peal
  subst ec_Peal
  have ec_BellError := clsAt_of gc_BellError
  subst ec_BellError
  have ec_NoPeal := clsAt_of gc_NoPeal
  subst ec_NoPeal
  have ec_NoWeights := clsAt_of gc_NoWeights
  subst ec_NoWeights
  have e := hfa.symm.trans (PySem.W.mg_of X G a43)
  cases e
  have F0 := fun_mk (st := s_is_whole) l0 c0 k0
  have F1 := fun_mk (st := s_is_within) l1 c1 k1
  have F2 := fun_mk (st := s_is_name) l2 c2 k2
  have F3 := fun_mk (st := s_is_bell) l3 c3 k3
  have F4 := fun_mk (st := s_check_bells) l4 c4 k4
  have F5 := fun_mk (st := s_is_notch) l5 c5 k5
  have F6 := fun_mk (st := s_check_notches) l6 c6 k6
  have F7 := funT_mk (st := s_Peal___init__) l7 t7 c7 k7
  have F8 := fun_mk (st := s_check_peal) l8 c8 k8
  have F9 := fun_mk (st := s_check_name) l9 c9 k9
  have F10 := fun_mk (st := s_Peal_names) l10 c10 k10
  have F11 := fun_mk (st := s_Peal_notch) l11 c11 k11
  have F12 := fun_mk (st := s_ahead_in) l12 c12 k12
  have F13 := fun_mk (st := s_dials_of) l13 c13 k13
  have F14 := fun_mk (st := s_swing_of) l14 c14 k14
  have F15 := fun_mk (st := s_twos) l15 c15 k15
  have F16 := fun_mk (st := s_swings) l16 c16 k16
  have F17 := fun_mk (st := s_shared) l17 c17 k17
  have F18 := fun_mk (st := s_common) l18 c18 k18
  have F19 := fun_mk (st := s_all_marks) l19 c19 k19
  have F20 := fun_mk (st := s_comes_whole) l20 c20 k20
  have F21 := fun_mk (st := s_are_weights) l21 c21 k21
  have F22 := fun_mk (st := s_is_weights) l22 c22 k22
  have F23 := fun_mk (st := s__law_opened) l23 c23 k23
  have F24 := fun_mk (st := s__law_pull) l24 c24 k24
  have F25 := fun_mk (st := s__law_spelt) l25 c25 k25
  have F26 := fun_mk (st := s__law_calls) l26 c26 k26
  have F27 := fun_mk (st := s__law_figure) l27 c27 k27
  have F28 := fun_mk (st := s__law_kit) l28 c28 k28
  have F29 := fun_mk (st := s__law_table) l29 c29 k29
  have F30 := fun_mk (st := s__law_twos) l30 c30 k30
  have F31 := fun_mk (st := s__law_made) l31 c31 k31
  have F32 := fun_mk (st := s__law_shared) l32 c32 k32
  have F33 := fun_mk (st := s__law_keeps) l33 c33 k33
  have F34 := fun_mk (st := s__law_plain) l34 c34 k34
  have F35 := fun_mk (st := s__law_whole) l35 c35 k35
  have F36 := fun_mk (st := s__law_all) l36 c36 k36
  have F37 := fun_mk (st := s__law_due) l37 c37 k37
  have F38 := fun_mk (st := s__law_odd) l38 c38 k38
  have F39 := fun_mk (st := s__law_told_right) l39 c39 k39
  have F40 := fun_mk (st := s__law_none_right) l40 c40 k40
  have F41 := fun_mk (st := s__law_great_right) l41 c41 k41
  have F42 := fun_mk (st := s__law_right) l42 c42 k42
  have F43 := fun_mk (st := s_law) l43 c43 k43
  let T : Txt K mg := {
    a_is_whole := f0,
    d_is_whole := _,
    F_is_whole := F0,
    b_is_whole := F0.binds (ps := ["thing"]) fun _ _ _ _ _ _ us hl => match us, hl with | [_], _ => rfl,
    g_is_whole := PySem.W.mg_of X G a0,
    a_is_within := f1,
    d_is_within := _,
    F_is_within := F1,
    b_is_within := F1.binds (ps := ["thing", "low", "high"]) fun _ _ _ _ _ _ us hl => match us, hl with | [_, _, _], _ => rfl,
    g_is_within := PySem.W.mg_of X G a1,
    a_is_name := f2,
    d_is_name := _,
    F_is_name := F2,
    b_is_name := F2.binds (ps := ["thing"]) fun _ _ _ _ _ _ us hl => match us, hl with | [_], _ => rfl,
    g_is_name := PySem.W.mg_of X G a2,
    a_is_bell := f3,
    d_is_bell := _,
    F_is_bell := F3,
    b_is_bell := F3.binds (ps := ["thing"]) fun _ _ _ _ _ _ us hl => match us, hl with | [_], _ => rfl,
    g_is_bell := PySem.W.mg_of X G a3,
    a_check_bells := f4,
    d_check_bells := _,
    F_check_bells := F4,
    b_check_bells := F4.binds (ps := ["bells"]) fun _ _ _ _ _ _ us hl => match us, hl with | [_], _ => rfl,
    g_check_bells := PySem.W.mg_of X G a4,
    a_is_notch := f5,
    d_is_notch := _,
    F_is_notch := F5,
    b_is_notch := F5.binds (ps := ["thing", "names"]) fun _ _ _ _ _ _ us hl => match us, hl with | [_, _], _ => rfl,
    g_is_notch := PySem.W.mg_of X G a5,
    a_check_notches := f6,
    d_check_notches := _,
    F_check_notches := F6,
    b_check_notches := F6.binds (ps := ["notches", "names"]) fun _ _ _ _ _ _ us hl => match us, hl with | [_, _], _ => rfl,
    g_check_notches := PySem.W.mg_of X G a6,
    a_Peal___init__ := f7,
    d_Peal___init__ := _,
    e_Peal___init__ := _,
    F_Peal___init__ := F7,
    b_Peal___init__ := F7.binds3 (ps := ["self", "bells", "notches"]) (fun _ _ _ _ _ _ _ us its hl hi => match us, its, hl, hi with | [_, _, _], [_], _, _ => ⟨_, rfl, rfl⟩),
    mk_Peal := ⟨p5_Peal, a7, i7, p6_Peal⟩,
    a_check_peal := f8,
    d_check_peal := _,
    F_check_peal := F8,
    b_check_peal := F8.binds (ps := ["thing"]) fun _ _ _ _ _ _ us hl => match us, hl with | [_], _ => rfl,
    g_check_peal := PySem.W.mg_of X G a8,
    a_check_name := f9,
    d_check_name := _,
    F_check_name := F9,
    b_check_name := F9.binds (ps := ["peal", "name"]) fun _ _ _ _ _ _ us hl => match us, hl with | [_, _], _ => rfl,
    g_check_name := PySem.W.mg_of X G a9,
    a_Peal_names := f10,
    d_Peal_names := _,
    F_Peal_names := F10,
    b_Peal_names := F10.binds (ps := ["self"]) fun _ _ _ _ _ _ us hl => match us, hl with | [_], _ => rfl,
    me_Peal_names := ⟨a10, i10, k10⟩,
    a_Peal_notch := f11,
    d_Peal_notch := _,
    F_Peal_notch := F11,
    b_Peal_notch := F11.binds (ps := ["self", "name", "other"]) fun _ _ _ _ _ _ us hl => match us, hl with | [_, _, _], _ => rfl,
    me_Peal_notch := ⟨a11, i11, k11⟩,
    a_ahead_in := f12,
    d_ahead_in := _,
    F_ahead_in := F12,
    b_ahead_in := F12.binds (ps := ["row"]) fun _ _ _ _ _ _ us hl => match us, hl with | [_], _ => rfl,
    g_ahead_in := PySem.W.mg_of X G a12,
    a_dials_of := f13,
    d_dials_of := _,
    F_dials_of := F13,
    b_dials_of := F13.binds (ps := ["peal", "turned"]) fun _ _ _ _ _ _ us hl => match us, hl with | [_, _], _ => rfl,
    g_dials_of := PySem.W.mg_of X G a13,
    a_swing_of := f14,
    d_swing_of := _,
    F_swing_of := F14,
    b_swing_of := F14.binds (ps := ["peal", "name", "other"]) fun _ _ _ _ _ _ us hl => match us, hl with | [_, _, _], _ => rfl,
    g_swing_of := PySem.W.mg_of X G a14,
    a_twos := f15,
    d_twos := _,
    F_twos := F15,
    b_twos := F15.binds (ps := ["peal"]) fun _ _ _ _ _ _ us hl => match us, hl with | [_], _ => rfl,
    g_twos := PySem.W.mg_of X G a15,
    a_swings := f16,
    d_swings := _,
    F_swings := F16,
    b_swings := F16.binds (ps := ["peal"]) fun _ _ _ _ _ _ us hl => match us, hl with | [_], _ => rfl,
    g_swings := PySem.W.mg_of X G a16,
    a_shared := f17,
    d_shared := _,
    F_shared := F17,
    b_shared := F17.binds (ps := ["one", "other"]) fun _ _ _ _ _ _ us hl => match us, hl with | [_, _], _ => rfl,
    g_shared := PySem.W.mg_of X G a17,
    a_common := f18,
    d_common := _,
    F_common := F18,
    b_common := F18.binds (ps := ["numbers"]) fun _ _ _ _ _ _ us hl => match us, hl with | [_], _ => rfl,
    g_common := PySem.W.mg_of X G a18,
    a_all_marks := f19,
    d_all_marks := _,
    F_all_marks := F19,
    b_all_marks := F19.binds (ps := ["peal"]) fun _ _ _ _ _ _ us hl => match us, hl with | [_], _ => rfl,
    g_all_marks := PySem.W.mg_of X G a19,
    a_comes_whole := f20,
    d_comes_whole := _,
    F_comes_whole := F20,
    b_comes_whole := F20.binds (ps := ["moduli", "weights", "vector"]) fun _ _ _ _ _ _ us hl => match us, hl with | [_, _, _], _ => rfl,
    g_comes_whole := PySem.W.mg_of X G a20,
    a_are_weights := f21,
    d_are_weights := _,
    F_are_weights := F21,
    b_are_weights := F21.binds (ps := ["peal", "thing"]) fun _ _ _ _ _ _ us hl => match us, hl with | [_, _], _ => rfl,
    g_are_weights := PySem.W.mg_of X G a21,
    a_is_weights := f22,
    d_is_weights := _,
    F_is_weights := F22,
    b_is_weights := F22.binds (ps := ["peal", "thing"]) fun _ _ _ _ _ _ us hl => match us, hl with | [_, _], _ => rfl,
    g_is_weights := PySem.W.mg_of X G a22,
    a__law_opened := f23,
    d__law_opened := _,
    F__law_opened := F23,
    b__law_opened := F23.binds (ps := ["_law_script", "_law_k"]) fun _ _ _ _ _ _ us hl => match us, hl with | [_, _], _ => rfl,
    g__law_opened := PySem.W.mg_of X G a23,
    a__law_pull := f24,
    d__law_pull := _,
    F__law_pull := F24,
    b__law_pull := F24.binds (ps := ["_law_store", "_law_many"]) fun _ _ _ _ _ _ us hl => match us, hl with | [_, _], _ => rfl,
    g__law_pull := PySem.W.mg_of X G a24,
    a__law_spelt := f25,
    d__law_spelt := _,
    F__law_spelt := F25,
    b__law_spelt := F25.binds (ps := ["_law_figure_here", "_law_wide"]) fun _ _ _ _ _ _ us hl => match us, hl with | [_, _], _ => rfl,
    g__law_spelt := PySem.W.mg_of X G a25,
    a__law_calls := f26,
    d__law_calls := _,
    F__law_calls := F26,
    b__law_calls := F26.binds (ps := ["_law_store", "_law_many"]) fun _ _ _ _ _ _ us hl => match us, hl with | [_, _], _ => rfl,
    g__law_calls := PySem.W.mg_of X G a26,
    a__law_figure := f27,
    d__law_figure := _,
    F__law_figure := F27,
    b__law_figure := F27.binds (ps := ["_law_store", "_law_mode", "_law_size"]) fun _ _ _ _ _ _ us hl => match us, hl with | [_, _, _], _ => rfl,
    g__law_figure := PySem.W.mg_of X G a27,
    a__law_kit := f28,
    d__law_kit := _,
    F__law_kit := F28,
    b__law_kit := F28.binds (ps := ["_law_store", "_law_upto", "_law_most"]) fun _ _ _ _ _ _ us hl => match us, hl with | [_, _, _], _ => rfl,
    g__law_kit := PySem.W.mg_of X G a28,
    a__law_table := f29,
    d__law_table := _,
    F__law_table := F29,
    b__law_table := F29.binds (ps := ["_law_kit_here"]) fun _ _ _ _ _ _ us hl => match us, hl with | [_], _ => rfl,
    g__law_table := PySem.W.mg_of X G a29,
    a__law_twos := f30,
    d__law_twos := _,
    F__law_twos := F30,
    b__law_twos := F30.binds (ps := ["_law_kit_here"]) fun _ _ _ _ _ _ us hl => match us, hl with | [_], _ => rfl,
    g__law_twos := PySem.W.mg_of X G a30,
    a__law_made := f31,
    d__law_made := _,
    F__law_made := F31,
    b__law_made := F31.binds (ps := ["_law_kit_here"]) fun _ _ _ _ _ _ us hl => match us, hl with | [_], _ => rfl,
    g__law_made := PySem.W.mg_of X G a31,
    a__law_shared := f32,
    d__law_shared := _,
    F__law_shared := F32,
    b__law_shared := F32.binds (ps := ["_law_first", "_law_second"]) fun _ _ _ _ _ _ us hl => match us, hl with | [_, _], _ => rfl,
    g__law_shared := PySem.W.mg_of X G a32,
    a__law_keeps := f33,
    d__law_keeps := _,
    F__law_keeps := F33,
    b__law_keeps := F33.binds (ps := ["_law_kit_here", "_law_table_here", "_law_some"]) fun _ _ _ _ _ _ us hl => match us, hl with | [_, _, _], _ => rfl,
    g__law_keeps := PySem.W.mg_of X G a33,
    a__law_plain := f34,
    d__law_plain := _,
    F__law_plain := F34,
    b__law_plain := F34.binds (ps := ["_law_store", "_law_kit_here", "_law_table_here"]) fun _ _ _ _ _ _ us hl => match us, hl with | [_, _, _], _ => rfl,
    g__law_plain := PySem.W.mg_of X G a34,
    a__law_whole := f35,
    d__law_whole := _,
    F__law_whole := F35,
    b__law_whole := F35.binds (ps := ["_law_part"]) fun _ _ _ _ _ _ us hl => match us, hl with | [_], _ => rfl,
    g__law_whole := PySem.W.mg_of X G a35,
    a__law_all := f36,
    d__law_all := _,
    F__law_all := F36,
    b__law_all := F36.binds (ps := ["_law_kit_here"]) fun _ _ _ _ _ _ us hl => match us, hl with | [_], _ => rfl,
    g__law_all := PySem.W.mg_of X G a36,
    a__law_due := f37,
    d__law_due := _,
    F__law_due := F37,
    b__law_due := F37.binds (ps := ["_law_kit_here", "_law_table_here", "_law_some"]) fun _ _ _ _ _ _ us hl => match us, hl with | [_, _, _], _ => rfl,
    g__law_due := PySem.W.mg_of X G a37,
    a__law_odd := f38,
    d__law_odd := _,
    F__law_odd := F38,
    b__law_odd := F38.binds (ps := ["_law_store", "_law_kit_here", "_law_some"]) fun _ _ _ _ _ _ us hl => match us, hl with | [_, _, _], _ => rfl,
    g__law_odd := PySem.W.mg_of X G a38,
    a__law_told_right := f39,
    d__law_told_right := _,
    F__law_told_right := F39,
    b__law_told_right := F39.binds (ps := ["_law_kit_here", "_law_table_here", "_law_made_here", "_law_some"]) fun _ _ _ _ _ _ us hl => match us, hl with | [_, _, _, _], _ => rfl,
    g__law_told_right := PySem.W.mg_of X G a39,
    a__law_none_right := f40,
    d__law_none_right := _,
    F__law_none_right := F40,
    b__law_none_right := F40.binds (ps := ["_law_kit_here", "_law_some"]) fun _ _ _ _ _ _ us hl => match us, hl with | [_, _], _ => rfl,
    g__law_none_right := PySem.W.mg_of X G a40,
    a__law_great_right := f41,
    d__law_great_right := _,
    F__law_great_right := F41,
    b__law_great_right := F41.binds (ps := ["_law_store"]) fun _ _ _ _ _ _ us hl => match us, hl with | [_], _ => rfl,
    g__law_great_right := PySem.W.mg_of X G a41,
    a__law_right := f42,
    d__law_right := _,
    F__law_right := F42,
    b__law_right := F42.binds (ps := ["_law_store"]) fun _ _ _ _ _ _ us hl => match us, hl with | [_], _ => rfl,
    g__law_right := PySem.W.mg_of X G a42,
    a_law := fa,
    d_law := _,
    F_law := F43,
    b_law := F43.binds (ps := ["_law_script"]) fun _ _ _ _ _ _ us hl => match us, hl with | [_], _ => rfl,
    g_law := PySem.W.mg_of X G a43,
    kb_is_weights_thing_peal := kbw_of F22 (fun _ _ _ _ _ _ ws hl => match ws, hl with | [_, _], _ => rfl) (fun h => kwv_is_weights_thing_peal h),
    ci_Peal := ⟨iC_Peal, tY_Peal⟩,
    mc_BellError := PySem.W.mg_of X G gc_BellError,
    mc_NoPeal := PySem.W.mg_of X G gc_NoPeal,
    mc_NoWeights := PySem.W.mg_of X G gc_NoWeights,
    em_NoPeal_BellError := PySem.W.exm_ref sB_BellError hD_BellError tY_BellError sU_NoPeal_BellError,
    ec_NoPeal := ⟨gA_NoPeal, gG_NoPeal, sB_NoPeal, hD_NoPeal, cC_NoPeal, cN, cT, cM_NoPeal⟩,
    kx_NoPeal_NoPeal := kit_self,
    kx_NoPeal_NoWeights := kit_own iC_NoWeights tY_NoWeights sU_NoPeal_NoPeal sU_NoPeal_NoWeights,
    mx_NoPeal := PySem.W.mg_of X G gc_NoPeal,
    xi_NoPeal := eI_NoPeal,
    xk_NoPeal := kP_NoPeal,
    xb_NoPeal := sB_NoPeal,
    xt_NoPeal := tY_NoPeal,
    cl_Peal := ⟨p1_Peal, p2_Peal, p3_Peal, p4_Peal⟩,
    co_Peal := ⟨⟨p1_Peal, p2_Peal, p3_Peal, p4_Peal⟩, p7_Peal, p8_Peal, p9_Peal, pa_Peal⟩,
    ki_Peal := kit_self,
    cn_Peal := ⟨no1_Peal, no2_Peal, no3_Peal, no4_Peal, no5_Peal⟩,
    mg_Peal := PySem.W.mg_of X G gc_Peal,
    na_Peal_bells := n_Peal_bells,
    na_Peal_notches := n_Peal_notches,
    na_Peal_sizes := n_Peal_sizes,
    na_Peal_turning := n_Peal_turning,
    n_int := PySem.W.mg_none_of X G z0,
    n_isinstance := PySem.W.mg_none_of X G z1,
    n_bool := PySem.W.mg_none_of X G z2,
    n_str := PySem.W.mg_none_of X G z3,
    n_len := PySem.W.mg_none_of X G z4,
    n_all := PySem.W.mg_none_of X G z5,
    n_tuple := PySem.W.mg_none_of X G z6,
    n_enumerate := PySem.W.mg_none_of X G z7,
    n_dict := PySem.W.mg_none_of X G z8,
    n_zip := PySem.W.mg_none_of X G z9,
    n_sum := PySem.W.mg_none_of X G z10,
    n_abs := PySem.W.mg_none_of X G z11,
    n_divmod := PySem.W.mg_none_of X G z12,
    n_range := PySem.W.mg_none_of X G z13,
    n_sorted := PySem.W.mg_none_of X G z14,
    n_list := PySem.W.mg_none_of X G z15,
    n_repr := PySem.W.mg_none_of X G z16,
    n_min := PySem.W.mg_none_of X G z17,
    n_max := PySem.W.mg_none_of X G z18,
    t_MOST_LETTERS := _,
    c_MOST_LETTERS := PySem.W.mg_of X G q0,
    t_LETTERS := _,
    c_LETTERS := PySem.W.mg_of X G q1,
    t_LEAST_MARKS := _,
    c_LEAST_MARKS := PySem.W.mg_of X G q2,
    t_MOST_MARKS := _,
    c_MOST_MARKS := PySem.W.mg_of X G q3,
    t_MOST_BELLS := _,
    c_MOST_BELLS := PySem.W.mg_of X G q4,
    t_MOST_NUMBER := _,
    c_MOST_NUMBER := PySem.W.mg_of X G q5 }
  letI tb : Tb := ⟨[]⟩
  refine ⟨T.d_law, [], sp_law K, (fun _ h => nomatch h), (fun _ h => nomatch h), (fun _ h => nomatch h), fun s v => .of_eq rfl, fun H a ns hl hT hS => law_end hl (fun _ h => nomatch h) hS, fun base kb nb TB => ?_⟩
  have O_is_whole := ok_is_whole (P := l.prog) (w := w) (base := base) T 
  have O_is_whole_2 := ok_is_whole_2 (P := l.prog) (w := w) (base := base) T 
  have O_is_within := ok_is_within (P := l.prog) (w := w) (base := base) T O_is_whole
  have O_is_within_2 := ok_is_within_2 (P := l.prog) (w := w) (base := base) T O_is_whole_2
  have O_is_name := ok_is_name (P := l.prog) (w := w) (base := base) T 
  have O_is_name_2 := ok_is_name_2 (P := l.prog) (w := w) (base := base) T 
  have O_is_bell := ok_is_bell (P := l.prog) (w := w) (base := base) T O_is_name O_is_within
  have O_check_bells := ok_check_bells (P := l.prog) (w := w) (base := base) T O_is_bell
  have O_is_notch := ok_is_notch (P := l.prog) (w := w) (base := base) T O_is_name O_is_within
  have O_check_notches := ok_check_notches (P := l.prog) (w := w) (base := base) T O_is_notch
  have O_Peal___init__ := ok_Peal___init__ (P := l.prog) (w := w) (base := base) T O_check_bells O_check_notches
  have O_check_peal := ok_check_peal (P := l.prog) (w := w) (base := base) T 
  have O_check_peal_2 := ok_check_peal_2 (P := l.prog) (w := w) (base := base) T 
  have O_check_name := ok_check_name (P := l.prog) (w := w) (base := base) T O_is_name
  have O_Peal_names := ok_Peal_names (P := l.prog) (w := w) (base := base) T 
  have O_Peal_notch := ok_Peal_notch (P := l.prog) (w := w) (base := base) T O_check_name
  have O_ahead_in := ok_ahead_in (P := l.prog) (w := w) (base := base) T 
  have O_dials_of := ok_dials_of (P := l.prog) (w := w) (base := base) T 
  have O_swing_of := ok_swing_of (P := l.prog) (w := w) (base := base) T O_dials_of O_Peal_notch
  have O_twos := ok_twos (P := l.prog) (w := w) (base := base) T O_ahead_in O_Peal_names
  have O_swings := ok_swings (P := l.prog) (w := w) (base := base) T O_twos O_swing_of
  have O_shared := ok_shared (P := l.prog) (w := w) (base := base) T 
  have O_common := ok_common (P := l.prog) (w := w) (base := base) T O_shared
  have O_all_marks := ok_all_marks (P := l.prog) (w := w) (base := base) T 
  have O_comes_whole := ok_comes_whole (P := l.prog) (w := w) (base := base) T O_common
  have O_are_weights := ok_are_weights (P := l.prog) (w := w) (base := base) T O_all_marks O_is_within_2 O_swings O_comes_whole
  have O_is_weights := ok_is_weights (P := l.prog) (w := w) (base := base) T O_check_peal O_are_weights
  have O_is_weights_2 := ok_is_weights_2 (P := l.prog) (w := w) (base := base) T O_check_peal_2 O_are_weights
  have O__law_opened := ok__law_opened (P := l.prog) (w := w) (base := base) T 
  have O__law_pull := ok__law_pull (P := l.prog) (w := w) (base := base) T 
  have O__law_spelt := ok__law_spelt (P := l.prog) (w := w) (base := base) T 
  have O__law_calls := ok__law_calls (P := l.prog) (w := w) (base := base) T O__law_pull O__law_spelt
  have O__law_figure := ok__law_figure (P := l.prog) (w := w) (base := base) T O__law_pull
  have O__law_kit := ok__law_kit (P := l.prog) (w := w) (base := base) T O__law_calls O__law_pull O__law_figure
  have O__law_table := ok__law_table (P := l.prog) (w := w) (base := base) T 
  have O__law_twos := ok__law_twos (P := l.prog) (w := w) (base := base) T 
  have O__law_made := ok__law_made (P := l.prog) (w := w) (base := base) T O_Peal___init__
  have O__law_shared := ok__law_shared (P := l.prog) (w := w) (base := base) T 
  have O__law_keeps := ok__law_keeps (P := l.prog) (w := w) (base := base) T O__law_twos
  have O__law_plain := ok__law_plain (P := l.prog) (w := w) (base := base) T O__law_shared O__law_pull
  have O__law_whole := ok__law_whole (P := l.prog) (w := w) (base := base) T 
  have O__law_all := ok__law_all (P := l.prog) (w := w) (base := base) T 
  have O__law_due := ok__law_due (P := l.prog) (w := w) (base := base) T O__law_whole O__law_keeps
  have O__law_odd := ok__law_odd (P := l.prog) (w := w) (base := base) T O__law_pull
  have O__law_told_right := ok__law_told_right (P := l.prog) (w := w) (base := base) T O__law_due O_is_weights
  have O__law_none_right := ok__law_none_right (P := l.prog) (w := w) (base := base) T O_is_weights_2
  have O__law_great_right := ok__law_great_right (P := l.prog) (w := w) (base := base) T O__law_kit O__law_table O__law_pull O__law_plain O__law_odd O__law_made O__law_told_right
  have O__law_right := ok__law_right (P := l.prog) (w := w) (base := base) T O__law_kit O__law_table O__law_made O__law_all O__law_told_right O__law_odd O__law_pull O__law_none_right O__law_great_right
  have O_law := ok_law (P := l.prog) (w := w) (base := base) T O__law_right O__law_opened
  exact O_law
open H51
theorem gathered {l : PySem.W.OpenLaw} {w : World} {K : PySem.W.Frag} {h : Heap} {mg : Str → Option Value} {fa : Addr} (X : K.In h) (G : h.Ns mainGlobals mg) (hfa : mg "law" = some (.ref fa)) (c : He.SaysX [] hfn hts htf (fxOk hxs) w h K) : LawTab l w K 11 63 "_law_script" mg fa h := by
  have D : hfn.map (fun d => He.fnW K d.at_) = hfn.map He.DefD.val := congrArg (fun z : He.AlD => z.2) c.t.d
  obtain ⟨oc0, od0, sl0, kV0, dc0, pm0, an0, cd0, ct0, g_l0, g_c0⟩ := fDef_ok (p := ("is_whole", none)) (q := "is_whole") (nm := "is_whole") (qn := "is_whole") (ar := defArgs s_is_whole) (bd := defBody s_is_whole) (sc := defScope s_is_whole) (def_at D 0 (d := hd0) rfl) (fx_at c.more 0 0 (l := hx0) (f := fx0) rfl rfl)
  obtain ⟨oc1, od1, sl1, kV1, dc1, pm1, an1, cd1, ct1, g_l1, g_c1⟩ := fDef_ok (p := ("is_within", none)) (q := "is_within") (nm := "is_within") (qn := "is_within") (ar := defArgs s_is_within) (bd := defBody s_is_within) (sc := defScope s_is_within) (def_at D 1 (d := hd1) rfl) (fx_at c.more 0 1 (l := hx0) (f := fx1) rfl rfl)
  obtain ⟨oc2, od2, sl2, kV2, dc2, pm2, an2, cd2, ct2, g_l2, g_c2⟩ := fDef_ok (p := ("is_name", none)) (q := "is_name") (nm := "is_name") (qn := "is_name") (ar := defArgs s_is_name) (bd := defBody s_is_name) (sc := defScope s_is_name) (def_at D 2 (d := hd2) rfl) (fx_at c.more 0 2 (l := hx0) (f := fx2) rfl rfl)
  obtain ⟨oc3, od3, sl3, kV3, dc3, pm3, an3, cd3, ct3, g_l3, g_c3⟩ := fDef_ok (p := ("is_bell", none)) (q := "is_bell") (nm := "is_bell") (qn := "is_bell") (ar := defArgs s_is_bell) (bd := defBody s_is_bell) (sc := defScope s_is_bell) (def_at D 3 (d := hd3) rfl) (fx_at c.more 0 3 (l := hx0) (f := fx3) rfl rfl)
  obtain ⟨oc4, od4, sl4, kV4, dc4, pm4, an4, cd4, ct4, g_l4, g_c4⟩ := fDef_ok (p := ("check_bells", none)) (q := "check_bells") (nm := "check_bells") (qn := "check_bells") (ar := defArgs s_check_bells) (bd := defBody s_check_bells) (sc := defScope s_check_bells) (def_at D 4 (d := hd4) rfl) (fx_at c.more 0 4 (l := hx0) (f := fx4) rfl rfl)
  obtain ⟨oc5, od5, sl5, kV5, dc5, pm5, an5, cd5, ct5, g_l5, g_c5⟩ := fDef_ok (p := ("is_notch", none)) (q := "is_notch") (nm := "is_notch") (qn := "is_notch") (ar := defArgs s_is_notch) (bd := defBody s_is_notch) (sc := defScope s_is_notch) (def_at D 5 (d := hd5) rfl) (fx_at c.more 0 5 (l := hx0) (f := fx5) rfl rfl)
  obtain ⟨oc6, od6, sl6, kV6, dc6, pm6, an6, cd6, ct6, g_l6, g_c6⟩ := fDef_ok (p := ("check_notches", none)) (q := "check_notches") (nm := "check_notches") (qn := "check_notches") (ar := defArgs s_check_notches) (bd := defBody s_check_notches) (sc := defScope s_check_notches) (def_at D 6 (d := hd6) rfl) (fx_at c.more 0 6 (l := hx0) (f := fx6) rfl rfl)
  obtain ⟨oc7, od7, sl7, kV7, dc7, pm7, an7, cd7, ct7, tt7, te7, cc7, dt7, nt7, st7, g_l7, g_c7, g_t7, ge7⟩ := fDef1_ok (p := ("Peal", some "__init__")) (q := "Peal.__init__") (nm := "__init__") (qn := "Peal.__init__") (ar := defArgs s_Peal___init__) (bd := defBody s_Peal___init__) (sc := defScope s_Peal___init__) (def_at D 7 (d := hd7) rfl) (fx_at c.more 0 7 (l := hx0) (f := fx7) rfl rfl)
  subst ge7
  obtain ⟨oc8, od8, sl8, kV8, dc8, pm8, an8, cd8, ct8, g_l8, g_c8⟩ := fDef_ok (p := ("check_peal", none)) (q := "check_peal") (nm := "check_peal") (qn := "check_peal") (ar := defArgs s_check_peal) (bd := defBody s_check_peal) (sc := defScope s_check_peal) (def_at D 8 (d := hd8) rfl) (fx_at c.more 0 8 (l := hx0) (f := fx8) rfl rfl)
  obtain ⟨oc9, od9, sl9, kV9, dc9, pm9, an9, cd9, ct9, g_l9, g_c9⟩ := fDef_ok (p := ("check_name", none)) (q := "check_name") (nm := "check_name") (qn := "check_name") (ar := defArgs s_check_name) (bd := defBody s_check_name) (sc := defScope s_check_name) (def_at D 9 (d := hd9) rfl) (fx_at c.more 0 9 (l := hx0) (f := fx9) rfl rfl)
  obtain ⟨oc10, od10, sl10, kV10, dc10, pm10, an10, cd10, ct10, g_l10, g_c10⟩ := fDef_ok (p := ("Peal", some "names")) (q := "Peal.names") (nm := "names") (qn := "Peal.names") (ar := defArgs s_Peal_names) (bd := defBody s_Peal_names) (sc := defScope s_Peal_names) (def_at D 10 (d := hd10) rfl) (fx_at c.more 0 10 (l := hx0) (f := fx10) rfl rfl)
  obtain ⟨oc11, od11, sl11, kV11, dc11, pm11, an11, cd11, ct11, g_l11, g_c11⟩ := fDef_ok (p := ("Peal", some "notch")) (q := "Peal.notch") (nm := "notch") (qn := "Peal.notch") (ar := defArgs s_Peal_notch) (bd := defBody s_Peal_notch) (sc := defScope s_Peal_notch) (def_at D 11 (d := hd11) rfl) (fx_at c.more 0 11 (l := hx0) (f := fx11) rfl rfl)
  obtain ⟨oc12, od12, sl12, kV12, dc12, pm12, an12, cd12, ct12, g_l12, g_c12⟩ := fDef_ok (p := ("ahead_in", none)) (q := "ahead_in") (nm := "ahead_in") (qn := "ahead_in") (ar := defArgs s_ahead_in) (bd := defBody s_ahead_in) (sc := defScope s_ahead_in) (def_at D 12 (d := hd12) rfl) (fx_at c.more 0 12 (l := hx0) (f := fx12) rfl rfl)
  obtain ⟨oc13, od13, sl13, kV13, dc13, pm13, an13, cd13, ct13, g_l13, g_c13⟩ := fDef_ok (p := ("dials_of", none)) (q := "dials_of") (nm := "dials_of") (qn := "dials_of") (ar := defArgs s_dials_of) (bd := defBody s_dials_of) (sc := defScope s_dials_of) (def_at D 13 (d := hd13) rfl) (fx_at c.more 0 13 (l := hx0) (f := fx13) rfl rfl)
  obtain ⟨oc14, od14, sl14, kV14, dc14, pm14, an14, cd14, ct14, g_l14, g_c14⟩ := fDef_ok (p := ("swing_of", none)) (q := "swing_of") (nm := "swing_of") (qn := "swing_of") (ar := defArgs s_swing_of) (bd := defBody s_swing_of) (sc := defScope s_swing_of) (def_at D 14 (d := hd14) rfl) (fx_at c.more 0 14 (l := hx0) (f := fx14) rfl rfl)
  obtain ⟨oc15, od15, sl15, kV15, dc15, pm15, an15, cd15, ct15, g_l15, g_c15⟩ := fDef_ok (p := ("twos", none)) (q := "twos") (nm := "twos") (qn := "twos") (ar := defArgs s_twos) (bd := defBody s_twos) (sc := defScope s_twos) (def_at D 15 (d := hd15) rfl) (fx_at c.more 0 15 (l := hx0) (f := fx15) rfl rfl)
  obtain ⟨oc16, od16, sl16, kV16, dc16, pm16, an16, cd16, ct16, g_l16, g_c16⟩ := fDef_ok (p := ("swings", none)) (q := "swings") (nm := "swings") (qn := "swings") (ar := defArgs s_swings) (bd := defBody s_swings) (sc := defScope s_swings) (def_at D 16 (d := hd16) rfl) (fx_at c.more 0 16 (l := hx0) (f := fx16) rfl rfl)
  obtain ⟨oc17, od17, sl17, kV17, dc17, pm17, an17, cd17, ct17, g_l17, g_c17⟩ := fDef_ok (p := ("shared", none)) (q := "shared") (nm := "shared") (qn := "shared") (ar := defArgs s_shared) (bd := defBody s_shared) (sc := defScope s_shared) (def_at D 17 (d := hd17) rfl) (fx_at c.more 0 17 (l := hx0) (f := fx17) rfl rfl)
  obtain ⟨oc18, od18, sl18, kV18, dc18, pm18, an18, cd18, ct18, g_l18, g_c18⟩ := fDef_ok (p := ("common", none)) (q := "common") (nm := "common") (qn := "common") (ar := defArgs s_common) (bd := defBody s_common) (sc := defScope s_common) (def_at D 18 (d := hd18) rfl) (fx_at c.more 0 18 (l := hx0) (f := fx18) rfl rfl)
  obtain ⟨oc19, od19, sl19, kV19, dc19, pm19, an19, cd19, ct19, g_l19, g_c19⟩ := fDef_ok (p := ("all_marks", none)) (q := "all_marks") (nm := "all_marks") (qn := "all_marks") (ar := defArgs s_all_marks) (bd := defBody s_all_marks) (sc := defScope s_all_marks) (def_at D 19 (d := hd19) rfl) (fx_at c.more 0 19 (l := hx0) (f := fx19) rfl rfl)
  obtain ⟨oc20, od20, sl20, kV20, dc20, pm20, an20, cd20, ct20, g_l20, g_c20⟩ := fDef_ok (p := ("comes_whole", none)) (q := "comes_whole") (nm := "comes_whole") (qn := "comes_whole") (ar := defArgs s_comes_whole) (bd := defBody s_comes_whole) (sc := defScope s_comes_whole) (def_at D 20 (d := hd20) rfl) (fx_at c.more 1 0 (l := hx1) (f := fx20) rfl rfl)
  obtain ⟨oc21, od21, sl21, kV21, dc21, pm21, an21, cd21, ct21, g_l21, g_c21⟩ := fDef_ok (p := ("are_weights", none)) (q := "are_weights") (nm := "are_weights") (qn := "are_weights") (ar := defArgs s_are_weights) (bd := defBody s_are_weights) (sc := defScope s_are_weights) (def_at D 21 (d := hd21) rfl) (fx_at c.more 1 1 (l := hx1) (f := fx21) rfl rfl)
  obtain ⟨oc22, od22, sl22, kV22, dc22, pm22, an22, cd22, ct22, g_l22, g_c22⟩ := fDef_ok (p := ("is_weights", none)) (q := "is_weights") (nm := "is_weights") (qn := "is_weights") (ar := defArgs s_is_weights) (bd := defBody s_is_weights) (sc := defScope s_is_weights) (def_at D 22 (d := hd22) rfl) (fx_at c.more 1 2 (l := hx1) (f := fx22) rfl rfl)
  obtain ⟨oc23, od23, sl23, kV23, dc23, pm23, an23, cd23, ct23, g_l23, g_c23⟩ := fDef_ok (p := ("_law_opened", none)) (q := "_law_opened") (nm := "_law_opened") (qn := "_law_opened") (ar := defArgs s__law_opened) (bd := defBody s__law_opened) (sc := defScope s__law_opened) (def_at D 23 (d := hd23) rfl) (fx_at c.more 1 3 (l := hx1) (f := fx23) rfl rfl)
  obtain ⟨oc24, od24, sl24, kV24, dc24, pm24, an24, cd24, ct24, g_l24, g_c24⟩ := fDef_ok (p := ("_law_pull", none)) (q := "_law_pull") (nm := "_law_pull") (qn := "_law_pull") (ar := defArgs s__law_pull) (bd := defBody s__law_pull) (sc := defScope s__law_pull) (def_at D 24 (d := hd24) rfl) (fx_at c.more 1 4 (l := hx1) (f := fx24) rfl rfl)
  obtain ⟨oc25, od25, sl25, kV25, dc25, pm25, an25, cd25, ct25, g_l25, g_c25⟩ := fDef_ok (p := ("_law_spelt", none)) (q := "_law_spelt") (nm := "_law_spelt") (qn := "_law_spelt") (ar := defArgs s__law_spelt) (bd := defBody s__law_spelt) (sc := defScope s__law_spelt) (def_at D 25 (d := hd25) rfl) (fx_at c.more 1 5 (l := hx1) (f := fx25) rfl rfl)
  obtain ⟨oc26, od26, sl26, kV26, dc26, pm26, an26, cd26, ct26, g_l26, g_c26⟩ := fDef_ok (p := ("_law_calls", none)) (q := "_law_calls") (nm := "_law_calls") (qn := "_law_calls") (ar := defArgs s__law_calls) (bd := defBody s__law_calls) (sc := defScope s__law_calls) (def_at D 26 (d := hd26) rfl) (fx_at c.more 1 6 (l := hx1) (f := fx26) rfl rfl)
  obtain ⟨oc27, od27, sl27, kV27, dc27, pm27, an27, cd27, ct27, g_l27, g_c27⟩ := fDef_ok (p := ("_law_figure", none)) (q := "_law_figure") (nm := "_law_figure") (qn := "_law_figure") (ar := defArgs s__law_figure) (bd := defBody s__law_figure) (sc := defScope s__law_figure) (def_at D 27 (d := hd27) rfl) (fx_at c.more 1 7 (l := hx1) (f := fx27) rfl rfl)
  obtain ⟨oc28, od28, sl28, kV28, dc28, pm28, an28, cd28, ct28, g_l28, g_c28⟩ := fDef_ok (p := ("_law_kit", none)) (q := "_law_kit") (nm := "_law_kit") (qn := "_law_kit") (ar := defArgs s__law_kit) (bd := defBody s__law_kit) (sc := defScope s__law_kit) (def_at D 28 (d := hd28) rfl) (fx_at c.more 1 8 (l := hx1) (f := fx28) rfl rfl)
  obtain ⟨oc29, od29, sl29, kV29, dc29, pm29, an29, cd29, ct29, g_l29, g_c29⟩ := fDef_ok (p := ("_law_table", none)) (q := "_law_table") (nm := "_law_table") (qn := "_law_table") (ar := defArgs s__law_table) (bd := defBody s__law_table) (sc := defScope s__law_table) (def_at D 29 (d := hd29) rfl) (fx_at c.more 1 9 (l := hx1) (f := fx29) rfl rfl)
  obtain ⟨oc30, od30, sl30, kV30, dc30, pm30, an30, cd30, ct30, g_l30, g_c30⟩ := fDef_ok (p := ("_law_twos", none)) (q := "_law_twos") (nm := "_law_twos") (qn := "_law_twos") (ar := defArgs s__law_twos) (bd := defBody s__law_twos) (sc := defScope s__law_twos) (def_at D 30 (d := hd30) rfl) (fx_at c.more 1 10 (l := hx1) (f := fx30) rfl rfl)
  obtain ⟨oc31, od31, sl31, kV31, dc31, pm31, an31, cd31, ct31, g_l31, g_c31⟩ := fDef_ok (p := ("_law_made", none)) (q := "_law_made") (nm := "_law_made") (qn := "_law_made") (ar := defArgs s__law_made) (bd := defBody s__law_made) (sc := defScope s__law_made) (def_at D 31 (d := hd31) rfl) (fx_at c.more 1 11 (l := hx1) (f := fx31) rfl rfl)
  obtain ⟨oc32, od32, sl32, kV32, dc32, pm32, an32, cd32, ct32, g_l32, g_c32⟩ := fDef_ok (p := ("_law_shared", none)) (q := "_law_shared") (nm := "_law_shared") (qn := "_law_shared") (ar := defArgs s__law_shared) (bd := defBody s__law_shared) (sc := defScope s__law_shared) (def_at D 32 (d := hd32) rfl) (fx_at c.more 1 12 (l := hx1) (f := fx32) rfl rfl)
  obtain ⟨oc33, od33, sl33, kV33, dc33, pm33, an33, cd33, ct33, g_l33, g_c33⟩ := fDef_ok (p := ("_law_keeps", none)) (q := "_law_keeps") (nm := "_law_keeps") (qn := "_law_keeps") (ar := defArgs s__law_keeps) (bd := defBody s__law_keeps) (sc := defScope s__law_keeps) (def_at D 33 (d := hd33) rfl) (fx_at c.more 1 13 (l := hx1) (f := fx33) rfl rfl)
  obtain ⟨oc34, od34, sl34, kV34, dc34, pm34, an34, cd34, ct34, g_l34, g_c34⟩ := fDef_ok (p := ("_law_plain", none)) (q := "_law_plain") (nm := "_law_plain") (qn := "_law_plain") (ar := defArgs s__law_plain) (bd := defBody s__law_plain) (sc := defScope s__law_plain) (def_at D 34 (d := hd34) rfl) (fx_at c.more 1 14 (l := hx1) (f := fx34) rfl rfl)
  obtain ⟨oc35, od35, sl35, kV35, dc35, pm35, an35, cd35, ct35, g_l35, g_c35⟩ := fDef_ok (p := ("_law_whole", none)) (q := "_law_whole") (nm := "_law_whole") (qn := "_law_whole") (ar := defArgs s__law_whole) (bd := defBody s__law_whole) (sc := defScope s__law_whole) (def_at D 35 (d := hd35) rfl) (fx_at c.more 1 15 (l := hx1) (f := fx35) rfl rfl)
  obtain ⟨oc36, od36, sl36, kV36, dc36, pm36, an36, cd36, ct36, g_l36, g_c36⟩ := fDef_ok (p := ("_law_all", none)) (q := "_law_all") (nm := "_law_all") (qn := "_law_all") (ar := defArgs s__law_all) (bd := defBody s__law_all) (sc := defScope s__law_all) (def_at D 36 (d := hd36) rfl) (fx_at c.more 1 16 (l := hx1) (f := fx36) rfl rfl)
  obtain ⟨oc37, od37, sl37, kV37, dc37, pm37, an37, cd37, ct37, g_l37, g_c37⟩ := fDef_ok (p := ("_law_due", none)) (q := "_law_due") (nm := "_law_due") (qn := "_law_due") (ar := defArgs s__law_due) (bd := defBody s__law_due) (sc := defScope s__law_due) (def_at D 37 (d := hd37) rfl) (fx_at c.more 1 17 (l := hx1) (f := fx37) rfl rfl)
  obtain ⟨oc38, od38, sl38, kV38, dc38, pm38, an38, cd38, ct38, g_l38, g_c38⟩ := fDef_ok (p := ("_law_odd", none)) (q := "_law_odd") (nm := "_law_odd") (qn := "_law_odd") (ar := defArgs s__law_odd) (bd := defBody s__law_odd) (sc := defScope s__law_odd) (def_at D 38 (d := hd38) rfl) (fx_at c.more 1 18 (l := hx1) (f := fx38) rfl rfl)
  obtain ⟨oc39, od39, sl39, kV39, dc39, pm39, an39, cd39, ct39, g_l39, g_c39⟩ := fDef_ok (p := ("_law_told_right", none)) (q := "_law_told_right") (nm := "_law_told_right") (qn := "_law_told_right") (ar := defArgs s__law_told_right) (bd := defBody s__law_told_right) (sc := defScope s__law_told_right) (def_at D 39 (d := hd39) rfl) (fx_at c.more 1 19 (l := hx1) (f := fx39) rfl rfl)
  obtain ⟨oc40, od40, sl40, kV40, dc40, pm40, an40, cd40, ct40, g_l40, g_c40⟩ := fDef_ok (p := ("_law_none_right", none)) (q := "_law_none_right") (nm := "_law_none_right") (qn := "_law_none_right") (ar := defArgs s__law_none_right) (bd := defBody s__law_none_right) (sc := defScope s__law_none_right) (def_at D 40 (d := hd40) rfl) (fx_at c.more 2 0 (l := hx2) (f := fx40) rfl rfl)
  obtain ⟨oc41, od41, sl41, kV41, dc41, pm41, an41, cd41, ct41, g_l41, g_c41⟩ := fDef_ok (p := ("_law_great_right", none)) (q := "_law_great_right") (nm := "_law_great_right") (qn := "_law_great_right") (ar := defArgs s__law_great_right) (bd := defBody s__law_great_right) (sc := defScope s__law_great_right) (def_at D 41 (d := hd41) rfl) (fx_at c.more 2 1 (l := hx2) (f := fx41) rfl rfl)
  obtain ⟨oc42, od42, sl42, kV42, dc42, pm42, an42, cd42, ct42, g_l42, g_c42⟩ := fDef_ok (p := ("_law_right", none)) (q := "_law_right") (nm := "_law_right") (qn := "_law_right") (ar := defArgs s__law_right) (bd := defBody s__law_right) (sc := defScope s__law_right) (def_at D 42 (d := hd42) rfl) (fx_at c.more 2 2 (l := hx2) (f := fx42) rfl rfl)
  obtain ⟨oc43, od43, sl43, kV43, dc43, pm43, an43, cd43, ct43, g_l43, g_c43⟩ := fDef_ok (p := ("law", none)) (q := "law") (nm := "law") (qn := "law") (ar := defArgs s_law) (bd := defBody s_law) (sc := defScope s_law) (def_at D 43 (d := hd43) rfl) (fx_at c.more 2 3 (l := hx2) (f := fx43) rfl rfl)
  have g_gc_Peal : PySem.W.nsIn K mainGlobals "Peal" = some (some (.ref (He.ga K "Peal"))) := He.eqO_ok (fx_at c.more 2 4 (l := hx2) (f := fx44) rfl rfl)
  have g_p1_Peal : PySem.W.plainGet K (He.ga K "Peal") Str.empty = true := (fx_at c.more 2 5 (l := hx2) (f := fx45) rfl rfl)
  have g_p2_Peal : PySem.W.hasDictIn K (He.ga K "Peal") = true := (fx_at c.more 2 6 (l := hx2) (f := fx46) rfl rfl)
  have g_p3_Peal : PySem.W.plainOver K (He.ga K "Peal") = true := (fx_at c.more 2 7 (l := hx2) (f := fx47) rfl rfl)
  have g_p4_Peal : PySem.W.findIn K (.ref (He.ga K "Peal")) "__setattr__" = some (some (.builtin "object.__setattr__")) := He.eqO_ok (fx_at c.more 2 8 (l := hx2) (f := fx48) rfl rfl)
  have g_p5_Peal : PySem.W.makesIn K (He.ga K "Peal") = true := (fx_at c.more 2 9 (l := hx2) (f := fx49) rfl rfl)
  have g_p6_Peal : PySem.W.keepIn K (.ref (He.ga K "Peal")) = true := (fx_at c.more 2 10 (l := hx2) (f := fx50) rfl rfl)
  have g_p7_Peal : PySem.W.findIn K (.ref (He.ga K "Peal")) "__class__" = some (some (.builtin "object.__class__")) := He.eqO_ok (fx_at c.more 2 11 (l := hx2) (f := fx51) rfl rfl)
  have g_p8_Peal : PySem.W.specialIn K (.builtin "object.__class__") "__get__" = some (some (.builtin "getset_descriptor.__get__")) := He.eqO_ok (fx_at c.more 2 12 (l := hx2) (f := fx52) rfl rfl)
  have g_p9_Peal : PySem.W.takesIn K (.builtin "object.__class__") = some true := of_decide_eq_true (fx_at c.more 2 13 (l := hx2) (f := fx53) rfl rfl)
  have g_pa_Peal : PySem.W.mroIn K (He.ga K "Peal") (.type "object") = some true := of_decide_eq_true (fx_at c.more 2 14 (l := hx2) (f := fx54) rfl rfl)
  have g_no1_Peal : PySem.W.mroIn K (He.ga K "Peal") (.type "tuple") = some false := of_decide_eq_true (fx_at c.more 2 15 (l := hx2) (f := fx55) rfl rfl)
  have g_no2_Peal : PySem.W.mroIn K (He.ga K "Peal") (.type "int") = some false := of_decide_eq_true (fx_at c.more 2 16 (l := hx2) (f := fx56) rfl rfl)
  have g_no3_Peal : PySem.W.mroIn K (He.ga K "Peal") (.type "bool") = some false := of_decide_eq_true (fx_at c.more 2 17 (l := hx2) (f := fx57) rfl rfl)
  have g_no4_Peal : PySem.W.mroIn K (He.ga K "Peal") (.type "str") = some false := of_decide_eq_true (fx_at c.more 2 18 (l := hx2) (f := fx58) rfl rfl)
  have g_no5_Peal : PySem.W.mroIn K (He.ga K "Peal") (.type "list") = some false := of_decide_eq_true (fx_at c.more 2 19 (l := hx2) (f := fx59) rfl rfl)
  have g_n_Peal_bells : PySem.W.findIn K (.ref (He.ga K "Peal")) "bells" = some none := He.eqO_ok (fx_at c.more 3 0 (l := hx3) (f := fx60) rfl rfl)
  have g_n_Peal_notches : PySem.W.findIn K (.ref (He.ga K "Peal")) "notches" = some none := He.eqO_ok (fx_at c.more 3 1 (l := hx3) (f := fx61) rfl rfl)
  have g_n_Peal_sizes : PySem.W.findIn K (.ref (He.ga K "Peal")) "sizes" = some none := He.eqO_ok (fx_at c.more 3 2 (l := hx3) (f := fx62) rfl rfl)
  have g_n_Peal_turning : PySem.W.findIn K (.ref (He.ga K "Peal")) "turning" = some none := He.eqO_ok (fx_at c.more 3 3 (l := hx3) (f := fx63) rfl rfl)
  have g_iC_Peal : PySem.W.isClsIn K (He.ga K "Peal") = true := (fx_at c.more 3 4 (l := hx3) (f := fx64) rfl rfl)
  have g_tY_Peal : PySem.W.typeIn K (.ref (He.ga K "Peal")) = some (.type "type") := of_decide_eq_true (fx_at c.more 3 5 (l := hx3) (f := fx65) rfl rfl)
  have g_gc_BellError : PySem.W.nsIn K mainGlobals "BellError" = some (some (.ref (He.ga K "BellError"))) := He.eqO_ok (fx_at c.more 3 6 (l := hx3) (f := fx66) rfl rfl)
  have g_gc_NoPeal : PySem.W.nsIn K mainGlobals "NoPeal" = some (some (.ref (He.ga K "NoPeal"))) := He.eqO_ok (fx_at c.more 3 7 (l := hx3) (f := fx67) rfl rfl)
  have g_gc_NoWeights : PySem.W.nsIn K mainGlobals "NoWeights" = some (some (.ref (He.ga K "NoWeights"))) := He.eqO_ok (fx_at c.more 3 8 (l := hx3) (f := fx68) rfl rfl)
  have g_sB_BellError : PySem.W.subIn K (.ref (He.ga K "BellError")) (.type "BaseException") = some true := of_decide_eq_true (fx_at c.more 3 9 (l := hx3) (f := fx69) rfl rfl)
  have g_hD_BellError : PySem.W.hasDictIn K (He.ga K "BellError") = true := (fx_at c.more 3 10 (l := hx3) (f := fx70) rfl rfl)
  have g_tY_BellError : PySem.W.typeIn K (.ref (He.ga K "BellError")) = some (.type "type") := of_decide_eq_true (fx_at c.more 3 11 (l := hx3) (f := fx71) rfl rfl)
  have g_sU_NoPeal_BellError : PySem.W.subIn K (.ref (He.ga K "NoPeal")) (.ref (He.ga K "BellError")) = some true := of_decide_eq_true (fx_at c.more 3 12 (l := hx3) (f := fx72) rfl rfl)
  have g_gA_NoPeal : PySem.W.findIn K (.ref (He.ga K "NoPeal")) "__getattribute__" = some (some (.builtin "BaseException.__getattribute__")) := He.eqO_ok (fx_at c.more 3 13 (l := hx3) (f := fx73) rfl rfl)
  have g_gG_NoPeal : PySem.W.findIn K (.ref (He.ga K "NoPeal")) "__getattr__" = some none := He.eqO_ok (fx_at c.more 3 14 (l := hx3) (f := fx74) rfl rfl)
  have g_sB_NoPeal : PySem.W.subIn K (.ref (He.ga K "NoPeal")) (.type "BaseException") = some true := of_decide_eq_true (fx_at c.more 3 15 (l := hx3) (f := fx75) rfl rfl)
  have g_hD_NoPeal : PySem.W.hasDictIn K (He.ga K "NoPeal") = true := (fx_at c.more 3 16 (l := hx3) (f := fx76) rfl rfl)
  have g_cC_NoPeal : PySem.W.findIn K (.ref (He.ga K "NoPeal")) "__class__" = some (some (.builtin "object.__class__")) := He.eqO_ok (fx_at c.more 3 17 (l := hx3) (f := fx77) rfl rfl)
  have g_cN : PySem.W.specialIn K (.builtin "object.__class__") "__get__" = some (some (.builtin "getset_descriptor.__get__")) := He.eqO_ok (fx_at c.more 3 18 (l := hx3) (f := fx78) rfl rfl)
  have g_cT : PySem.W.takesIn K (.builtin "object.__class__") = some true := of_decide_eq_true (fx_at c.more 3 19 (l := hx3) (f := fx79) rfl rfl)
  have g_cM_NoPeal : PySem.W.mroIn K (He.ga K "NoPeal") (.type "object") = some true := of_decide_eq_true (fx_at c.more 4 0 (l := hx4) (f := fx80) rfl rfl)
  have g_iC_NoWeights : PySem.W.isClsIn K (He.ga K "NoWeights") = true := (fx_at c.more 4 1 (l := hx4) (f := fx81) rfl rfl)
  have g_tY_NoWeights : PySem.W.typeIn K (.ref (He.ga K "NoWeights")) = some (.type "type") := of_decide_eq_true (fx_at c.more 4 2 (l := hx4) (f := fx82) rfl rfl)
  have g_sU_NoPeal_NoPeal : PySem.W.subIn K (.ref (He.ga K "NoPeal")) (.ref (He.ga K "NoPeal")) = some true := of_decide_eq_true (fx_at c.more 4 3 (l := hx4) (f := fx83) rfl rfl)
  have g_sU_NoPeal_NoWeights : PySem.W.subIn K (.ref (He.ga K "NoPeal")) (.ref (He.ga K "NoWeights")) = some false := of_decide_eq_true (fx_at c.more 4 4 (l := hx4) (f := fx84) rfl rfl)
  have g_eI_NoPeal : PySem.W.excIn K (He.ga K "NoPeal") [.type "ValueError", .type "Exception", .type "BaseException", .type "object"] "ValueError.__new__" = true := (fx_at c.more 4 5 (l := hx4) (f := fx85) rfl rfl)
  have g_kP_NoPeal : PySem.W.keepIn K (.ref (He.ga K "NoPeal")) = true := (fx_at c.more 4 6 (l := hx4) (f := fx86) rfl rfl)
  have g_tY_NoPeal : PySem.W.typeIn K (.ref (He.ga K "NoPeal")) = some (.type "type") := of_decide_eq_true (fx_at c.more 4 7 (l := hx4) (f := fx87) rfl rfl)
  have g_a0 : PySem.W.nsIn K mainGlobals "is_whole" = some (some (.ref (He.fAd K ("is_whole", none)))) := He.eqO_ok (fx_at c.more 4 8 (l := hx4) (f := fx88) rfl rfl)
  have g_k0 : PySem.W.keepIn K (.ref (He.fAd K ("is_whole", none))) = true := (fx_at c.more 4 9 (l := hx4) (f := fx89) rfl rfl)
  have g_a1 : PySem.W.nsIn K mainGlobals "is_within" = some (some (.ref (He.fAd K ("is_within", none)))) := He.eqO_ok (fx_at c.more 4 10 (l := hx4) (f := fx90) rfl rfl)
  have g_k1 : PySem.W.keepIn K (.ref (He.fAd K ("is_within", none))) = true := (fx_at c.more 4 11 (l := hx4) (f := fx91) rfl rfl)
  have g_a2 : PySem.W.nsIn K mainGlobals "is_name" = some (some (.ref (He.fAd K ("is_name", none)))) := He.eqO_ok (fx_at c.more 4 12 (l := hx4) (f := fx92) rfl rfl)
  have g_k2 : PySem.W.keepIn K (.ref (He.fAd K ("is_name", none))) = true := (fx_at c.more 4 13 (l := hx4) (f := fx93) rfl rfl)
  have g_a3 : PySem.W.nsIn K mainGlobals "is_bell" = some (some (.ref (He.fAd K ("is_bell", none)))) := He.eqO_ok (fx_at c.more 4 14 (l := hx4) (f := fx94) rfl rfl)
  have g_k3 : PySem.W.keepIn K (.ref (He.fAd K ("is_bell", none))) = true := (fx_at c.more 4 15 (l := hx4) (f := fx95) rfl rfl)
  have g_a4 : PySem.W.nsIn K mainGlobals "check_bells" = some (some (.ref (He.fAd K ("check_bells", none)))) := He.eqO_ok (fx_at c.more 4 16 (l := hx4) (f := fx96) rfl rfl)
  have g_k4 : PySem.W.keepIn K (.ref (He.fAd K ("check_bells", none))) = true := (fx_at c.more 4 17 (l := hx4) (f := fx97) rfl rfl)
  have g_a5 : PySem.W.nsIn K mainGlobals "is_notch" = some (some (.ref (He.fAd K ("is_notch", none)))) := He.eqO_ok (fx_at c.more 4 18 (l := hx4) (f := fx98) rfl rfl)
  have g_k5 : PySem.W.keepIn K (.ref (He.fAd K ("is_notch", none))) = true := (fx_at c.more 4 19 (l := hx4) (f := fx99) rfl rfl)
  have g_a6 : PySem.W.nsIn K mainGlobals "check_notches" = some (some (.ref (He.fAd K ("check_notches", none)))) := He.eqO_ok (fx_at c.more 5 0 (l := hx5) (f := fx100) rfl rfl)
  have g_k6 : PySem.W.keepIn K (.ref (He.fAd K ("check_notches", none))) = true := (fx_at c.more 5 1 (l := hx5) (f := fx101) rfl rfl)
  have g_a7 : PySem.W.findIn K (.ref (He.ga K "Peal")) "__init__" = some (some (.ref (He.fAd K ("Peal", some "__init__")))) := He.eqO_ok (fx_at c.more 5 2 (l := hx5) (f := fx102) rfl rfl)
  have g_i7 : PySem.W.isFn K (.ref (He.fAd K ("Peal", some "__init__"))) = true := (fx_at c.more 5 3 (l := hx5) (f := fx103) rfl rfl)
  have g_k7 : PySem.W.keepIn K (.ref (He.fAd K ("Peal", some "__init__"))) = true := (fx_at c.more 5 4 (l := hx5) (f := fx104) rfl rfl)
  have g_a8 : PySem.W.nsIn K mainGlobals "check_peal" = some (some (.ref (He.fAd K ("check_peal", none)))) := He.eqO_ok (fx_at c.more 5 5 (l := hx5) (f := fx105) rfl rfl)
  have g_k8 : PySem.W.keepIn K (.ref (He.fAd K ("check_peal", none))) = true := (fx_at c.more 5 6 (l := hx5) (f := fx106) rfl rfl)
  have g_a9 : PySem.W.nsIn K mainGlobals "check_name" = some (some (.ref (He.fAd K ("check_name", none)))) := He.eqO_ok (fx_at c.more 5 7 (l := hx5) (f := fx107) rfl rfl)
  have g_k9 : PySem.W.keepIn K (.ref (He.fAd K ("check_name", none))) = true := (fx_at c.more 5 8 (l := hx5) (f := fx108) rfl rfl)
  have g_a10 : PySem.W.findIn K (.ref (He.ga K "Peal")) "names" = some (some (.ref (He.fAd K ("Peal", some "names")))) := He.eqO_ok (fx_at c.more 5 9 (l := hx5) (f := fx109) rfl rfl)
  have g_i10 : PySem.W.isFn K (.ref (He.fAd K ("Peal", some "names"))) = true := (fx_at c.more 5 10 (l := hx5) (f := fx110) rfl rfl)
  have g_k10 : PySem.W.keepIn K (.ref (He.fAd K ("Peal", some "names"))) = true := (fx_at c.more 5 11 (l := hx5) (f := fx111) rfl rfl)
  have g_a11 : PySem.W.findIn K (.ref (He.ga K "Peal")) "notch" = some (some (.ref (He.fAd K ("Peal", some "notch")))) := He.eqO_ok (fx_at c.more 5 12 (l := hx5) (f := fx112) rfl rfl)
  have g_i11 : PySem.W.isFn K (.ref (He.fAd K ("Peal", some "notch"))) = true := (fx_at c.more 5 13 (l := hx5) (f := fx113) rfl rfl)
  have g_k11 : PySem.W.keepIn K (.ref (He.fAd K ("Peal", some "notch"))) = true := (fx_at c.more 5 14 (l := hx5) (f := fx114) rfl rfl)
  have g_a12 : PySem.W.nsIn K mainGlobals "ahead_in" = some (some (.ref (He.fAd K ("ahead_in", none)))) := He.eqO_ok (fx_at c.more 5 15 (l := hx5) (f := fx115) rfl rfl)
  have g_k12 : PySem.W.keepIn K (.ref (He.fAd K ("ahead_in", none))) = true := (fx_at c.more 5 16 (l := hx5) (f := fx116) rfl rfl)
  have g_a13 : PySem.W.nsIn K mainGlobals "dials_of" = some (some (.ref (He.fAd K ("dials_of", none)))) := He.eqO_ok (fx_at c.more 5 17 (l := hx5) (f := fx117) rfl rfl)
  have g_k13 : PySem.W.keepIn K (.ref (He.fAd K ("dials_of", none))) = true := (fx_at c.more 5 18 (l := hx5) (f := fx118) rfl rfl)
  have g_a14 : PySem.W.nsIn K mainGlobals "swing_of" = some (some (.ref (He.fAd K ("swing_of", none)))) := He.eqO_ok (fx_at c.more 5 19 (l := hx5) (f := fx119) rfl rfl)
  have g_k14 : PySem.W.keepIn K (.ref (He.fAd K ("swing_of", none))) = true := (fx_at c.more 6 0 (l := hx6) (f := fx120) rfl rfl)
  have g_a15 : PySem.W.nsIn K mainGlobals "twos" = some (some (.ref (He.fAd K ("twos", none)))) := He.eqO_ok (fx_at c.more 6 1 (l := hx6) (f := fx121) rfl rfl)
  have g_k15 : PySem.W.keepIn K (.ref (He.fAd K ("twos", none))) = true := (fx_at c.more 6 2 (l := hx6) (f := fx122) rfl rfl)
  have g_a16 : PySem.W.nsIn K mainGlobals "swings" = some (some (.ref (He.fAd K ("swings", none)))) := He.eqO_ok (fx_at c.more 6 3 (l := hx6) (f := fx123) rfl rfl)
  have g_k16 : PySem.W.keepIn K (.ref (He.fAd K ("swings", none))) = true := (fx_at c.more 6 4 (l := hx6) (f := fx124) rfl rfl)
  have g_a17 : PySem.W.nsIn K mainGlobals "shared" = some (some (.ref (He.fAd K ("shared", none)))) := He.eqO_ok (fx_at c.more 6 5 (l := hx6) (f := fx125) rfl rfl)
  have g_k17 : PySem.W.keepIn K (.ref (He.fAd K ("shared", none))) = true := (fx_at c.more 6 6 (l := hx6) (f := fx126) rfl rfl)
  have g_a18 : PySem.W.nsIn K mainGlobals "common" = some (some (.ref (He.fAd K ("common", none)))) := He.eqO_ok (fx_at c.more 6 7 (l := hx6) (f := fx127) rfl rfl)
  have g_k18 : PySem.W.keepIn K (.ref (He.fAd K ("common", none))) = true := (fx_at c.more 6 8 (l := hx6) (f := fx128) rfl rfl)
  have g_a19 : PySem.W.nsIn K mainGlobals "all_marks" = some (some (.ref (He.fAd K ("all_marks", none)))) := He.eqO_ok (fx_at c.more 6 9 (l := hx6) (f := fx129) rfl rfl)
  have g_k19 : PySem.W.keepIn K (.ref (He.fAd K ("all_marks", none))) = true := (fx_at c.more 6 10 (l := hx6) (f := fx130) rfl rfl)
  have g_a20 : PySem.W.nsIn K mainGlobals "comes_whole" = some (some (.ref (He.fAd K ("comes_whole", none)))) := He.eqO_ok (fx_at c.more 6 11 (l := hx6) (f := fx131) rfl rfl)
  have g_k20 : PySem.W.keepIn K (.ref (He.fAd K ("comes_whole", none))) = true := (fx_at c.more 6 12 (l := hx6) (f := fx132) rfl rfl)
  have g_a21 : PySem.W.nsIn K mainGlobals "are_weights" = some (some (.ref (He.fAd K ("are_weights", none)))) := He.eqO_ok (fx_at c.more 6 13 (l := hx6) (f := fx133) rfl rfl)
  have g_k21 : PySem.W.keepIn K (.ref (He.fAd K ("are_weights", none))) = true := (fx_at c.more 6 14 (l := hx6) (f := fx134) rfl rfl)
  have g_a22 : PySem.W.nsIn K mainGlobals "is_weights" = some (some (.ref (He.fAd K ("is_weights", none)))) := He.eqO_ok (fx_at c.more 6 15 (l := hx6) (f := fx135) rfl rfl)
  have g_k22 : PySem.W.keepIn K (.ref (He.fAd K ("is_weights", none))) = true := (fx_at c.more 6 16 (l := hx6) (f := fx136) rfl rfl)
  have g_a23 : PySem.W.nsIn K mainGlobals "_law_opened" = some (some (.ref (He.fAd K ("_law_opened", none)))) := He.eqO_ok (fx_at c.more 6 17 (l := hx6) (f := fx137) rfl rfl)
  have g_k23 : PySem.W.keepIn K (.ref (He.fAd K ("_law_opened", none))) = true := (fx_at c.more 6 18 (l := hx6) (f := fx138) rfl rfl)
  have g_a24 : PySem.W.nsIn K mainGlobals "_law_pull" = some (some (.ref (He.fAd K ("_law_pull", none)))) := He.eqO_ok (fx_at c.more 6 19 (l := hx6) (f := fx139) rfl rfl)
  have g_k24 : PySem.W.keepIn K (.ref (He.fAd K ("_law_pull", none))) = true := (fx_at c.more 7 0 (l := hx7) (f := fx140) rfl rfl)
  have g_a25 : PySem.W.nsIn K mainGlobals "_law_spelt" = some (some (.ref (He.fAd K ("_law_spelt", none)))) := He.eqO_ok (fx_at c.more 7 1 (l := hx7) (f := fx141) rfl rfl)
  have g_k25 : PySem.W.keepIn K (.ref (He.fAd K ("_law_spelt", none))) = true := (fx_at c.more 7 2 (l := hx7) (f := fx142) rfl rfl)
  have g_a26 : PySem.W.nsIn K mainGlobals "_law_calls" = some (some (.ref (He.fAd K ("_law_calls", none)))) := He.eqO_ok (fx_at c.more 7 3 (l := hx7) (f := fx143) rfl rfl)
  have g_k26 : PySem.W.keepIn K (.ref (He.fAd K ("_law_calls", none))) = true := (fx_at c.more 7 4 (l := hx7) (f := fx144) rfl rfl)
  have g_a27 : PySem.W.nsIn K mainGlobals "_law_figure" = some (some (.ref (He.fAd K ("_law_figure", none)))) := He.eqO_ok (fx_at c.more 7 5 (l := hx7) (f := fx145) rfl rfl)
  have g_k27 : PySem.W.keepIn K (.ref (He.fAd K ("_law_figure", none))) = true := (fx_at c.more 7 6 (l := hx7) (f := fx146) rfl rfl)
  have g_a28 : PySem.W.nsIn K mainGlobals "_law_kit" = some (some (.ref (He.fAd K ("_law_kit", none)))) := He.eqO_ok (fx_at c.more 7 7 (l := hx7) (f := fx147) rfl rfl)
  have g_k28 : PySem.W.keepIn K (.ref (He.fAd K ("_law_kit", none))) = true := (fx_at c.more 7 8 (l := hx7) (f := fx148) rfl rfl)
  have g_a29 : PySem.W.nsIn K mainGlobals "_law_table" = some (some (.ref (He.fAd K ("_law_table", none)))) := He.eqO_ok (fx_at c.more 7 9 (l := hx7) (f := fx149) rfl rfl)
  have g_k29 : PySem.W.keepIn K (.ref (He.fAd K ("_law_table", none))) = true := (fx_at c.more 7 10 (l := hx7) (f := fx150) rfl rfl)
  have g_a30 : PySem.W.nsIn K mainGlobals "_law_twos" = some (some (.ref (He.fAd K ("_law_twos", none)))) := He.eqO_ok (fx_at c.more 7 11 (l := hx7) (f := fx151) rfl rfl)
  have g_k30 : PySem.W.keepIn K (.ref (He.fAd K ("_law_twos", none))) = true := (fx_at c.more 7 12 (l := hx7) (f := fx152) rfl rfl)
  have g_a31 : PySem.W.nsIn K mainGlobals "_law_made" = some (some (.ref (He.fAd K ("_law_made", none)))) := He.eqO_ok (fx_at c.more 7 13 (l := hx7) (f := fx153) rfl rfl)
  have g_k31 : PySem.W.keepIn K (.ref (He.fAd K ("_law_made", none))) = true := (fx_at c.more 7 14 (l := hx7) (f := fx154) rfl rfl)
  have g_a32 : PySem.W.nsIn K mainGlobals "_law_shared" = some (some (.ref (He.fAd K ("_law_shared", none)))) := He.eqO_ok (fx_at c.more 7 15 (l := hx7) (f := fx155) rfl rfl)
  have g_k32 : PySem.W.keepIn K (.ref (He.fAd K ("_law_shared", none))) = true := (fx_at c.more 7 16 (l := hx7) (f := fx156) rfl rfl)
  have g_a33 : PySem.W.nsIn K mainGlobals "_law_keeps" = some (some (.ref (He.fAd K ("_law_keeps", none)))) := He.eqO_ok (fx_at c.more 7 17 (l := hx7) (f := fx157) rfl rfl)
  have g_k33 : PySem.W.keepIn K (.ref (He.fAd K ("_law_keeps", none))) = true := (fx_at c.more 7 18 (l := hx7) (f := fx158) rfl rfl)
  have g_a34 : PySem.W.nsIn K mainGlobals "_law_plain" = some (some (.ref (He.fAd K ("_law_plain", none)))) := He.eqO_ok (fx_at c.more 7 19 (l := hx7) (f := fx159) rfl rfl)
  have g_k34 : PySem.W.keepIn K (.ref (He.fAd K ("_law_plain", none))) = true := (fx_at c.more 8 0 (l := hx8) (f := fx160) rfl rfl)
  have g_a35 : PySem.W.nsIn K mainGlobals "_law_whole" = some (some (.ref (He.fAd K ("_law_whole", none)))) := He.eqO_ok (fx_at c.more 8 1 (l := hx8) (f := fx161) rfl rfl)
  have g_k35 : PySem.W.keepIn K (.ref (He.fAd K ("_law_whole", none))) = true := (fx_at c.more 8 2 (l := hx8) (f := fx162) rfl rfl)
  have g_a36 : PySem.W.nsIn K mainGlobals "_law_all" = some (some (.ref (He.fAd K ("_law_all", none)))) := He.eqO_ok (fx_at c.more 8 3 (l := hx8) (f := fx163) rfl rfl)
  have g_k36 : PySem.W.keepIn K (.ref (He.fAd K ("_law_all", none))) = true := (fx_at c.more 8 4 (l := hx8) (f := fx164) rfl rfl)
  have g_a37 : PySem.W.nsIn K mainGlobals "_law_due" = some (some (.ref (He.fAd K ("_law_due", none)))) := He.eqO_ok (fx_at c.more 8 5 (l := hx8) (f := fx165) rfl rfl)
  have g_k37 : PySem.W.keepIn K (.ref (He.fAd K ("_law_due", none))) = true := (fx_at c.more 8 6 (l := hx8) (f := fx166) rfl rfl)
  have g_a38 : PySem.W.nsIn K mainGlobals "_law_odd" = some (some (.ref (He.fAd K ("_law_odd", none)))) := He.eqO_ok (fx_at c.more 8 7 (l := hx8) (f := fx167) rfl rfl)
  have g_k38 : PySem.W.keepIn K (.ref (He.fAd K ("_law_odd", none))) = true := (fx_at c.more 8 8 (l := hx8) (f := fx168) rfl rfl)
  have g_a39 : PySem.W.nsIn K mainGlobals "_law_told_right" = some (some (.ref (He.fAd K ("_law_told_right", none)))) := He.eqO_ok (fx_at c.more 8 9 (l := hx8) (f := fx169) rfl rfl)
  have g_k39 : PySem.W.keepIn K (.ref (He.fAd K ("_law_told_right", none))) = true := (fx_at c.more 8 10 (l := hx8) (f := fx170) rfl rfl)
  have g_a40 : PySem.W.nsIn K mainGlobals "_law_none_right" = some (some (.ref (He.fAd K ("_law_none_right", none)))) := He.eqO_ok (fx_at c.more 8 11 (l := hx8) (f := fx171) rfl rfl)
  have g_k40 : PySem.W.keepIn K (.ref (He.fAd K ("_law_none_right", none))) = true := (fx_at c.more 8 12 (l := hx8) (f := fx172) rfl rfl)
  have g_a41 : PySem.W.nsIn K mainGlobals "_law_great_right" = some (some (.ref (He.fAd K ("_law_great_right", none)))) := He.eqO_ok (fx_at c.more 8 13 (l := hx8) (f := fx173) rfl rfl)
  have g_k41 : PySem.W.keepIn K (.ref (He.fAd K ("_law_great_right", none))) = true := (fx_at c.more 8 14 (l := hx8) (f := fx174) rfl rfl)
  have g_a42 : PySem.W.nsIn K mainGlobals "_law_right" = some (some (.ref (He.fAd K ("_law_right", none)))) := He.eqO_ok (fx_at c.more 8 15 (l := hx8) (f := fx175) rfl rfl)
  have g_k42 : PySem.W.keepIn K (.ref (He.fAd K ("_law_right", none))) = true := (fx_at c.more 8 16 (l := hx8) (f := fx176) rfl rfl)
  have g_a43 : PySem.W.nsIn K mainGlobals "law" = some (some (.ref (He.fAd K ("law", none)))) := He.eqO_ok (fx_at c.more 8 17 (l := hx8) (f := fx177) rfl rfl)
  have g_k43 : PySem.W.keepIn K (.ref (He.fAd K ("law", none))) = true := (fx_at c.more 8 18 (l := hx8) (f := fx178) rfl rfl)
  have g_z0 : PySem.W.nsIn K mainGlobals "int" = some none := He.eqO_ok (fx_at c.more 8 19 (l := hx8) (f := fx179) rfl rfl)
  have g_z1 : PySem.W.nsIn K mainGlobals "isinstance" = some none := He.eqO_ok (fx_at c.more 9 0 (l := hx9) (f := fx180) rfl rfl)
  have g_z2 : PySem.W.nsIn K mainGlobals "bool" = some none := He.eqO_ok (fx_at c.more 9 1 (l := hx9) (f := fx181) rfl rfl)
  have g_z3 : PySem.W.nsIn K mainGlobals "str" = some none := He.eqO_ok (fx_at c.more 9 2 (l := hx9) (f := fx182) rfl rfl)
  have g_z4 : PySem.W.nsIn K mainGlobals "len" = some none := He.eqO_ok (fx_at c.more 9 3 (l := hx9) (f := fx183) rfl rfl)
  have g_z5 : PySem.W.nsIn K mainGlobals "all" = some none := He.eqO_ok (fx_at c.more 9 4 (l := hx9) (f := fx184) rfl rfl)
  have g_z6 : PySem.W.nsIn K mainGlobals "tuple" = some none := He.eqO_ok (fx_at c.more 9 5 (l := hx9) (f := fx185) rfl rfl)
  have g_z7 : PySem.W.nsIn K mainGlobals "enumerate" = some none := He.eqO_ok (fx_at c.more 9 6 (l := hx9) (f := fx186) rfl rfl)
  have g_z8 : PySem.W.nsIn K mainGlobals "dict" = some none := He.eqO_ok (fx_at c.more 9 7 (l := hx9) (f := fx187) rfl rfl)
  have g_z9 : PySem.W.nsIn K mainGlobals "zip" = some none := He.eqO_ok (fx_at c.more 9 8 (l := hx9) (f := fx188) rfl rfl)
  have g_z10 : PySem.W.nsIn K mainGlobals "sum" = some none := He.eqO_ok (fx_at c.more 9 9 (l := hx9) (f := fx189) rfl rfl)
  have g_z11 : PySem.W.nsIn K mainGlobals "abs" = some none := He.eqO_ok (fx_at c.more 9 10 (l := hx9) (f := fx190) rfl rfl)
  have g_z12 : PySem.W.nsIn K mainGlobals "divmod" = some none := He.eqO_ok (fx_at c.more 9 11 (l := hx9) (f := fx191) rfl rfl)
  have g_z13 : PySem.W.nsIn K mainGlobals "range" = some none := He.eqO_ok (fx_at c.more 9 12 (l := hx9) (f := fx192) rfl rfl)
  have g_z14 : PySem.W.nsIn K mainGlobals "sorted" = some none := He.eqO_ok (fx_at c.more 9 13 (l := hx9) (f := fx193) rfl rfl)
  have g_z15 : PySem.W.nsIn K mainGlobals "list" = some none := He.eqO_ok (fx_at c.more 9 14 (l := hx9) (f := fx194) rfl rfl)
  have g_z16 : PySem.W.nsIn K mainGlobals "repr" = some none := He.eqO_ok (fx_at c.more 9 15 (l := hx9) (f := fx195) rfl rfl)
  have g_z17 : PySem.W.nsIn K mainGlobals "min" = some none := He.eqO_ok (fx_at c.more 9 16 (l := hx9) (f := fx196) rfl rfl)
  have g_z18 : PySem.W.nsIn K mainGlobals "max" = some none := He.eqO_ok (fx_at c.more 9 17 (l := hx9) (f := fx197) rfl rfl)
  obtain ⟨_, g_q0⟩ := fInt_ok (fx_at c.more 9 18 (l := hx9) (f := fx198) rfl rfl)
  obtain ⟨_, g_q1⟩ := fStr_ok (fx_at c.more 9 19 (l := hx9) (f := fx199) rfl rfl)
  obtain ⟨_, g_q2⟩ := fInt_ok (fx_at c.more 10 0 (l := hx10) (f := fx200) rfl rfl)
  obtain ⟨_, g_q3⟩ := fInt_ok (fx_at c.more 10 1 (l := hx10) (f := fx201) rfl rfl)
  obtain ⟨_, g_q4⟩ := fInt_ok (fx_at c.more 10 2 (l := hx10) (f := fx202) rfl rfl)
  obtain ⟨_, g_q5⟩ := fInt_ok (fx_at c.more 10 3 (l := hx10) (f := fx203) rfl rfl)
  exact all_mk X G hfa g_gc_Peal g_p1_Peal g_p2_Peal g_p3_Peal g_p4_Peal g_p5_Peal g_p6_Peal g_p7_Peal g_p8_Peal g_p9_Peal g_pa_Peal g_no1_Peal g_no2_Peal g_no3_Peal g_no4_Peal g_no5_Peal g_n_Peal_bells g_n_Peal_notches g_n_Peal_sizes g_n_Peal_turning g_iC_Peal g_tY_Peal g_gc_BellError g_gc_NoPeal g_gc_NoWeights g_sB_BellError g_hD_BellError g_tY_BellError g_sU_NoPeal_BellError g_gA_NoPeal g_gG_NoPeal g_sB_NoPeal g_hD_NoPeal g_cC_NoPeal g_cN g_cT g_cM_NoPeal g_iC_NoWeights g_tY_NoWeights g_sU_NoPeal_NoPeal g_sU_NoPeal_NoWeights g_eI_NoPeal g_kP_NoPeal g_tY_NoPeal g_a0 g_l0 g_c0 g_k0 g_a1 g_l1 g_c1 g_k1 g_a2 g_l2 g_c2 g_k2 g_a3 g_l3 g_c3 g_k3 g_a4 g_l4 g_c4 g_k4 g_a5 g_l5 g_c5 g_k5 g_a6 g_l6 g_c6 g_k6 g_a7 g_i7 g_l7 g_c7 g_k7 g_t7 g_a8 g_l8 g_c8 g_k8 g_a9 g_l9 g_c9 g_k9 g_a10 g_i10 g_l10 g_c10 g_k10 g_a11 g_i11 g_l11 g_c11 g_k11 g_a12 g_l12 g_c12 g_k12 g_a13 g_l13 g_c13 g_k13 g_a14 g_l14 g_c14 g_k14 g_a15 g_l15 g_c15 g_k15 g_a16 g_l16 g_c16 g_k16 g_a17 g_l17 g_c17 g_k17 g_a18 g_l18 g_c18 g_k18 g_a19 g_l19 g_c19 g_k19 g_a20 g_l20 g_c20 g_k20 g_a21 g_l21 g_c21 g_k21 g_a22 g_l22 g_c22 g_k22 g_a23 g_l23 g_c23 g_k23 g_a24 g_l24 g_c24 g_k24 g_a25 g_l25 g_c25 g_k25 g_a26 g_l26 g_c26 g_k26 g_a27 g_l27 g_c27 g_k27 g_a28 g_l28 g_c28 g_k28 g_a29 g_l29 g_c29 g_k29 g_a30 g_l30 g_c30 g_k30 g_a31 g_l31 g_c31 g_k31 g_a32 g_l32 g_c32 g_k32 g_a33 g_l33 g_c33 g_k33 g_a34 g_l34 g_c34 g_k34 g_a35 g_l35 g_c35 g_k35 g_a36 g_l36 g_c36 g_k36 g_a37 g_l37 g_c37 g_k37 g_a38 g_l38 g_c38 g_k38 g_a39 g_l39 g_c39 g_k39 g_a40 g_l40 g_c40 g_k40 g_a41 g_l41 g_c41 g_k41 g_a42 g_l42 g_c42 g_k42 g_a43 g_l43 g_c43 g_k43 g_z0 g_z1 g_z2 g_z3 g_z4 g_z5 g_z6 g_z7 g_z8 g_z9 g_z10 g_z11 g_z12 g_z13 g_z14 g_z15 g_z16 g_z17 g_z18 g_q0 g_q1 g_q2 g_q3 g_q4 g_q5
end K51
open PySem PySem.W PyProof.Rows
set_option maxHeartbeats 0 in
theorem PySem.Challenge.cw_sincerung_k51_weights_of_any_kind_holds : PySem.Challenge.rw_sincerung_k51_weights_of_any_kind.Holds := by
  w_on; o_law
  refine HandSHeadRun.head_any (r := H51.hR) (q := H51.hqv) (H := H51.hhk) (ob := H51.hob) (M := 30000) (loose := H51.hnames) (kwd := []) H51.hob_eq (by kernel_rfl) (fun s => by kernel_rfl) H51.hrun (by rfl) (by rfl) (by rfl) (by rfl) (by first | assumption | decide +kernel) (by decide +kernel) ⟨rfl, rfl, rfl, rfl, rfl, by decide +kernel⟩ ?hw ?hc
  case hw => w_witness2
  case hc => exact Kx.walk_ofTX (l := PySem.Challenge.rw_sincerung_k51_weights_of_any_kind) (n := 63) (k := 11) (x := "_law_script") rfl (by decide) rfl ⟨rfl, by decide, by decide⟩ fun w mg fa h Y G hmg => let ⟨K, KX, c⟩ := Y; ⟨K, KX, K51.gathered KX G hmg c⟩
end
