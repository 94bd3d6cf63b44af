import PyProof.Rows.All
import HandS.Text
import Wide.All
import OpenK.AllK
import Wide.FinOn
import HandS.ForMost
import HandS.Walk
import HandS.Zip
import HandS.IsInst
import HandS.Deep
import HandS.Style
import HandS.WideBits
import HandS.TupAny
import KE.GoesEnum
import KE.GoesMore
import HandS.Wide
import KE.KTupSum
import HandS.Strs
import HandS.DictComp
import KE.KDictPairs
import HandS.Defaults
import KE.DataCmp
import KE.KDictWalk
import PyProof.ReprRoads
import PyProof.ReprLen
import HandS.TupMul
import HandS.TryOnly
import KE.KSortTupG
import KE.KDictSum
import HandS.WordsExc
import HandS.Small
import HandS.ExcInit
import HandS.HotCalls
import HandS.ExcIs
import HandS.ExcField
import KE.KExcIs
import HandS.ExcCtx
import HandS.Hot
import HandS.MakeKwOnly
import HandS.ExcInitHot
import KE.KTryMore
import HandS.Lambda
import HandS.EndTab
import KE.KNestM
import KE.KExcInit
import HandS.Flow
import HandS.Head0
import HandS.Head1
import HandS.Head2
import HandS.HeadHook4
import HandS.FStr
import KE.KFmtOwn
import HandS.Sort
import HandS.OwnEq
import PyProof.InstNe
import HandS.ExcOwn
import PyProof.FactsAll.int
import PyProof.FactsAll.bool
import PyProof.FactsAll.str
import PyProof.FactsAll.NoneType
import PyProof.FactsAll.list
import PyProof.FactsAll.tuple
import PyProof.FactsAll.dict
import PySem.Challenge.RW_sincerung_k05_texts_written_and_read
set_option Elab.async false
set_option linter.all false
set_option maxRecDepth 100000
section
set_option maxHeartbeats 2000000
namespace Kx
open PySem PySem.Spec PyProof.Rows L2
/-! ### what the head's one run tells, by names -/
abbrev FX := PySem.W.Frag → Bool
def fxOk (fs : List (List FX)) (K : PySem.W.Frag) : Bool := fs.all fun l => l.all fun f => f K
theorem fx_at {fs : List (List FX)} {K : PySem.W.Frag} (h : fxOk fs K = true) (i j : Nat) {l : List FX} {f : FX} (e : fs[i]? = some l) (e2 : l[j]? = some f) : f K = true :=
  List.all_eq_true.mp (List.all_eq_true.mp h l (List.mem_of_getElem? e)) f (List.mem_of_getElem? e2)
theorem def_at {fn : List He.DefD} {K : PySem.W.Frag} (D : fn.map (fun d => He.fnW K d.at_) = fn.map He.DefD.val) (i : Nat) {d : He.DefD} (h : fn[i]? = some d) : He.fnW K d.at_ = d.val := by
  have e : (fn.map fun d => He.fnW K d.at_)[i]? = (fn.map He.DefD.val)[i]? := by rw [D]
  rw [List.getElem?_map, List.getElem?_map, h] at e
  exact Option.some.inj e
def fInt (x : Str) (i : Int) : FX := fun K => match PySem.W.nsIn K mainGlobals x with
  | some (some (.int j _)) => decide (j = i)
  | _ => false
theorem fInt_ok {K : PySem.W.Frag} {x : Str} {i : Int} (h : fInt x i K = true) : ∃ t, PySem.W.nsIn K mainGlobals x = some (some (.int i t)) := by
  unfold fInt at h
  split at h
  · next j t e => exact ⟨t, by rw [e, of_decide_eq_true h]⟩
  · cases h
def fStr (x z : Str) : FX := fun K => match PySem.W.nsIn K mainGlobals x with
  | some (some (.str y _)) => decide (y = z)
  | _ => false
theorem fStr_ok {K : PySem.W.Frag} {x z : Str} (h : fStr x z K = true) : ∃ t, PySem.W.nsIn K mainGlobals x = some (some (.str z t)) := by
  unfold fStr at h
  split at h
  · next j t e => exact ⟨t, by rw [e, of_decide_eq_true h]⟩
  · cases h
def fCls (C M : PySem.W.Frag → Value) (x : Str) (v : Value) : FX := fun K => match PySem.W.findCls K (C K) (M K) x with
  | some (.val u) => decide (u = v)
  | _ => false
theorem fCls_ok {K : PySem.W.Frag} {C M : PySem.W.Frag → Value} {x : Str} {v : Value} (h : fCls C M x v K = true) : PySem.W.findCls K (C K) (M K) x = some (.val v) := by
  unfold fCls at h
  split at h
  · next u e => rw [e, of_decide_eq_true h]
  · cases h
def isSix (newId : String) : List (Option Value) → Bool
  | [_, _, _, _, some (.builtin n), _] => decide (n = newId)
  | _ => false
theorem isSix_ok {newId : String} {l : List (Option Value)} (h : isSix newId l = true) : ∃ k0 k1 k2 k3 k5, l = [k0, k1, k2, k3, some (.builtin newId), k5] := by
  unfold isSix at h
  split at h
  · exact ⟨_, _, _, _, _, by rw [of_decide_eq_true h]⟩
  · cases h
def fExc (C : PySem.W.Frag → Addr) (mro : PySem.W.Frag → List Value) (newId : String) : FX := fun K => match K.lookup (C K) with
  | some ⟨.type t, _, .cls cd, sl⟩ => decide (t = "type") && (decide (cd.mro = .ref (C K) :: mro K) && (cd.hasDict && (!cd.hasDel && isSix newId sl.toList)))
  | _ => false
theorem fExc_ok {K : PySem.W.Frag} {C : PySem.W.Frag → Addr} {mro : PySem.W.Frag → List Value} {newId : String} (h : fExc C mro newId K = true) :
    ∃ nm q N bs sn sub ab col dd k0 k1 k2 k3 k5, K.lookup (C K) = some (excClassObj nm q (C K) N bs (mro K) true sn sub ab col dd k0 k1 k2 k3 k5 newId) := by
  unfold fExc at h
  split at h
  · next t dd cd sl e =>
    obtain ⟨h1, h⟩ := Bool.and_eq_true_iff.mp h
    obtain ⟨h2, h⟩ := Bool.and_eq_true_iff.mp h
    obtain ⟨h3, h⟩ := Bool.and_eq_true_iff.mp h
    obtain ⟨h4, h5⟩ := Bool.and_eq_true_iff.mp h
    obtain ⟨k0, k1, k2, k3, k5, hs⟩ := isSix_ok h5
    have h1 := of_decide_eq_true h1
    have h2 := of_decide_eq_true h2
    obtain ⟨nm, bs, mr, ns, qn, hd, sn, sub, ab, col, del⟩ := cd
    dsimp only at h2 h3 h4
    have h4 : del = false := by cases del; rfl; cases h4
    subst h1 h2 h3 h4
    obtain ⟨l⟩ := sl
    dsimp only at hs
    subst hs
    exact ⟨nm, qn, ns, bs, sn, sub, ab, col, dd, k0, k1, k2, k3, k5, e⟩
  · cases h
/-- a def's function object: its code's name, no defaults -/
def fDef (p : He.Defn) (q : Str) : FX := fun K => match K.lookup (He.fAd K p) with
  | some ⟨_, _, .func fd, _⟩ => PySem.W.codeIn K fd.code q && (match fd.defaults with
    | .none => true
    | _ => false)
  | _ => false
theorem fDef_ok {K : PySem.W.Frag} {p : He.Defn} {q nm qn : Str} {ar : Arguments} {bd : List Stmt} {sc : Scope} (e : He.fnW K p = some (nm, qn, ar, .stmts bd, sc, mainGlobals, [], builtinsNs)) (h : fDef p q K = true) :
    ∃ oc od sl kV dc pm an cd ct, K.lookup (He.fAd K p) = some ⟨oc, od, .func (PySem.W.fnOf nm qn ar bd sc .none kV dc pm an cd ct), sl⟩ ∧ PySem.W.codeIn K cd q = true := by
  unfold fDef at h
  unfold He.fnW at e
  split at h
  · next oc od fd sl e1 =>
    rw [e1] at e
    obtain ⟨n1, n2, n3, n4, n5, n6, n7, n8, n9, n10, n11, n12, n13, n14, n15⟩ := fd
    obtain ⟨h1, h2⟩ := Bool.and_eq_true_iff.mp h
    have e2 : (some (n1, n2, n3, n4, n5, n6, n7, n15) : He.FnW) = some (nm, qn, ar, .stmts bd, sc, mainGlobals, [], builtinsNs) := e
    simp only [Option.some.injEq, Prod.mk.injEq] at e2
    obtain ⟨g1, g2, g3, g4, g5, g6, g7, g8⟩ := e2
    subst g1 g2 g3 g4 g5 g6 g7 g8
    dsimp only at h1 h2
    have h3 : n8 = .none := by
      split at h2
      · rfl
      · cases h2
    subst h3
    exact ⟨oc, od, sl, n9, n10, n11, n12, n13, n14, e1, h1⟩
  · cases h
def fDef1 (p : He.Defn) (q : Str) : FX := fun K => match K.lookup (He.fAd K p) with
  | some ⟨_, _, .func fd, _⟩ => PySem.W.codeIn K fd.code q && (match fd.defaults with
    | .ref T => (match K.lookup T with
      | some ⟨_, _, .seq its _, _⟩ => (match its.toList with
        | [.ref _] => true
        | _ => false)
      | _ => false)
    | _ => false)
  | _ => false
theorem fDef1_ok {K : PySem.W.Frag} {p : He.Defn} {q nm qn : Str} {ar : Arguments} {bd : List Stmt} {sc : Scope} (e : He.fnW K p = some (nm, qn, ar, .stmts bd, sc, mainGlobals, [], builtinsNs)) (h : fDef1 p q K = true) :
    ∃ oc od sl kV dc pm an cd ct T E cc dt nt st, K.lookup (He.fAd K p) = some ⟨oc, od, .func (PySem.W.fnOf nm qn ar bd sc (.ref T) kV dc pm an cd ct), sl⟩ ∧ PySem.W.codeIn K cd q = true ∧ K.lookup T = some ⟨cc, dt, .seq #[.ref E] nt, st⟩ ∧ E = He.dflAt p 0 K := by
  unfold fDef1 at h
  unfold He.fnW at e
  split at h
  · next oc od fd sl e1 =>
    rw [e1] at e
    obtain ⟨n1, n2, n3, n4, n5, n6, n7, n8, n9, n10, n11, n12, n13, n14, n15⟩ := fd
    obtain ⟨h1, h2⟩ := Bool.and_eq_true_iff.mp h
    have e2 : (some (n1, n2, n3, n4, n5, n6, n7, n15) : He.FnW) = some (nm, qn, ar, .stmts bd, sc, mainGlobals, [], builtinsNs) := e
    simp only [Option.some.injEq, Prod.mk.injEq] at e2
    obtain ⟨g1, g2, g3, g4, g5, g6, g7, g8⟩ := e2
    subst g1 g2 g3 g4 g5 g6 g7 g8
    dsimp only at h1 h2
    split at h2
    · next T =>
      split at h2
      · next cc dt its nt st e3 =>
        split at h2
        · next E e4 =>
          obtain ⟨l⟩ := its
          dsimp only at e4
          subst e4
          refine ⟨oc, od, sl, n9, n10, n11, n12, n13, n14, T, E, cc, dt, nt, st, e1, h1, e3, ?_⟩
          unfold He.dflAt
          rw [e1]
          dsimp only
          rw [e3]
          rfl
        · cases h2
      · cases h2
    · cases h2
  · cases h
/-! ### the Hook: what the module's names reach, and the statics -/
def asY (g : Addr → Option Obj) (n : Nat) : List Addr := cStatics :: He.asD g n
abbrev frY (g : Addr → Option Obj) (n : Nat) : PySem.W.Frag := He.frT g (asY g n)
def obsY (n : Nat) (fn : List He.DefD) (tf : List He.Defn) (ex : FX) (g : Addr → Option Obj) : He.AlX := (fun K => (He.obsT [] fn [] K, ex K && He.tabsB g tf K)) (frY g n)
theorem saysY_of {n : Nat} {fn : List He.DefD} {tf : List He.Defn} {ex : FX} {w : World} {h : Heap} (e : obsY n fn tf ex h.get? = He.valX fn [] w) : He.SaysX [] fn [] tf ex w h (frY h.get? n) := by
  have e1 : He.obsT [] fn [] (frY h.get? n) = He.valT fn [] w := congrArg (fun z : He.AlX => z.1) e
  have e2 : (ex (frY h.get? n) && He.tabsB h.get? tf (frY h.get? n)) = true := congrArg (fun z : He.AlX => z.2) e
  obtain ⟨h1, h2⟩ := Bool.and_eq_true_iff.mp e2
  have key : ∀ p ∈ tf, PySem.W.codeHdIn (frY h.get? n) (He.cT (frY h.get? n) p).1 (He.cT (frY h.get? n) p).2 = true ∧ ∃ o, h.get? (He.cT (frY h.get? n) p).2 = some o ∧ He.emptyTab o = true := fun p hp => by
    obtain ⟨h3, h4⟩ := Bool.and_eq_true_iff.mp (List.all_eq_true.mp h2 p hp)
    refine ⟨h3, ?_⟩
    cases q : h.get? (He.cT (frY h.get? n) p).2 with
    | none =>
      rw [q] at h4
      cases h4
    | some o =>
      rw [q] at h4
      exact ⟨o, rfl, h4⟩
  exact ⟨e1, h1, fun p hp => (key p hp).1, fun p hp => by
    obtain ⟨_, o, q, z⟩ := key p hp
    exact He.frT_none q z, fun p hp => by
    obtain ⟨_, o, q, z⟩ := key p hp
    rw [q, He.emptyTab_eq z]⟩
def hookY (n : Nat) (fn : List He.DefD) (tf : List He.Defn) (ex : FX) : PySem.W.Hook where
  α := He.AlX
  obs := fun s => obsY n fn tf ex s.heap.get?
  val := fun w => He.valX fn [] w
  says := fun w h => ∃ K : PySem.W.Frag, K.In h ∧ He.SaysX [] fn [] tf ex w h K
  of := fun _ _ e => ⟨_, He.frT_in, saysY_of e⟩
  keeps := fun _ _ _ ⟨K, hK, c⟩ k => ⟨K, PySem.W.Frag.In.keeps hK k, ⟨c.t, c.more, c.hd, c.out, fun p hp => k _ _ (c.empty p hp)⟩⟩
theorem obsY_eq {n : Nat} {fn : List He.DefD} {tf : List He.Defn} {ex : FX} {g : Addr → Option Obj} {s : Shared} (h : ∀ a, g a = s.heap.get? a) : obsY n fn tf ex g = (hookY n fn tf ex).obs s := by
  have e : g = s.heap.get? := funext h
  rw [e] <;> rfl
/-- the run in two halves: each half's run is told by itself -/
def runA (r : PySem.W.OpenRow) (q : Program) (fn : List He.DefD) (ob : PySem.W.SharedT → He.AlX) (M : Nat) (loose : List Str) (w : World) : Prop :=
  ∀ os : OsState, Option.map (fun s => (HandSHeadRun.looksF r.prog (PySem.W.boot_heap w.params) s.abs, HandSHeadRun.seenQ q loose (importedModules r.prog.main.body) (fun s => PySem.W.xlAt q [] s && PySem.W.recOk r.records s) s.abs, (ob s).1)) (HandSHeadRun.endF (HandSHeadRun.stepQ (HandSHeadRun.denQ HandSHeadRun.tabQ) r.prog w) M r.prog w os) = some (true, PySem.W.openGood q loose, (He.valX fn [] w).1)
def runB (r : PySem.W.OpenRow) (fn : List He.DefD) (ob : PySem.W.SharedT → He.AlX) (M : Nat) (w : World) : Prop :=
  ∀ os : OsState, Option.map (fun s => (ob s).2) (HandSHeadRun.endF (HandSHeadRun.stepQ (HandSHeadRun.denQ HandSHeadRun.tabQ) r.prog w) M r.prog w os) = some (He.valX fn [] w).2
theorem runAB {r : PySem.W.OpenRow} {q : Program} {n : Nat} {fn : List He.DefD} {tf : List He.Defn} {ex : FX} {ob : PySem.W.SharedT → He.AlX} {M : Nat} {loose : List Str} {w : World}
    (A : runA r q fn ob M loose w) (B : runB r fn ob M w) : HandSHeadRun.RunEq r q (hookY n fn tf ex) ob M loose w := by
  intro os
  have a := A os
  have b := B os
  show Option.map (fun s => (HandSHeadRun.looksF r.prog (PySem.W.boot_heap w.params) s.abs, HandSHeadRun.seenQ q loose (importedModules r.prog.main.body) (fun s => PySem.W.xlAt q [] s && PySem.W.recOk r.records s) s.abs, (ob s : He.AlX))) _ = some (true, PySem.W.openGood q loose, (He.valX fn [] w : He.AlX))
  generalize HandSHeadRun.endF (HandSHeadRun.stepQ (HandSHeadRun.denQ HandSHeadRun.tabQ) r.prog w) M r.prog w os = e at a b ⊢
  cases e with
  | none => cases a
  | some s =>
    simp only [Option.map_some, Option.some.injEq, Prod.mk.injEq] at a b ⊢
    exact ⟨a.1, a.2.1, Prod.ext a.2.2 b⟩
/-- the Bools' run in parts: each part's run is told by itself -/
def runC (r : PySem.W.OpenRow) (b : PySem.W.SharedT → Bool) (M : Nat) (w : World) : Prop :=
  ∀ os : OsState, Option.map b (HandSHeadRun.endF (HandSHeadRun.stepQ (HandSHeadRun.denQ HandSHeadRun.tabQ) r.prog w) M r.prog w os) = some true
theorem runCC {r : PySem.W.OpenRow} {b c d : PySem.W.SharedT → Bool} {M : Nat} {w : World} (hb : ∀ s, b s = (c s && d s)) (C : runC r c M w) (D : runC r d M w) : runC r b M w := by
  intro os
  have x := C os
  have y := D os
  generalize HandSHeadRun.endF (HandSHeadRun.stepQ (HandSHeadRun.denQ HandSHeadRun.tabQ) r.prog w) M r.prog w os = e at x y ⊢
  cases e with
  | none => cases x
  | some s =>
    simp only [Option.map_some, Option.some.injEq] at x y ⊢
    rw [hb, x, y]
    rfl
theorem runCB {r : PySem.W.OpenRow} {fn : List He.DefD} {ob : PySem.W.SharedT → He.AlX} {b : PySem.W.SharedT → Bool} {M : Nat} {w : World} (hb : ∀ s, (ob s).2 = b s) (C : runC r b M w) : runB r fn ob M w := by
  intro os
  have x := C os
  generalize HandSHeadRun.endF (HandSHeadRun.stepQ (HandSHeadRun.denQ HandSHeadRun.tabQ) r.prog w) M r.prog w os = e at x ⊢
  cases e with
  | none => cases x
  | some s =>
    simp only [Option.map_some, Option.some.injEq] at x ⊢
    rw [hb, x]
    rfl
/-- a part of the Bools -/
def obB (n : Nat) (xs : List (List FX)) (s : PySem.W.SharedT) : Bool := fxOk xs (frY (HandSHeadRun.getT s) n)
def obBT (n : Nat) (xs : List (List FX)) (tf : List He.Defn) (s : PySem.W.SharedT) : Bool := fxOk xs (frY (HandSHeadRun.getT s) n) && He.tabsB (HandSHeadRun.getT s) tf (frY (HandSHeadRun.getT s) n)
theorem obBT_cut {n : Nat} {xs ys : List (List FX)} {tf : List He.Defn} (s : PySem.W.SharedT) : obBT n (xs ++ ys) tf s = (obB n xs s && obBT n ys tf s) := by
  unfold obBT obB fxOk
  rw [List.all_append, Bool.and_assoc]
end Kx
end
section
set_option maxHeartbeats 4000000
namespace H05
open PySem L2 Kx
def topS (i : Nat) : Stmt := PySem.Challenge.pw_sincerung_k05_texts_written_and_read.main.body.getD i (.Pass ⟨0, 0, 0, 0⟩)
abbrev s_NoText___init__ : Stmt := inClass (topS 15) 0
abbrev s_is_whole : Stmt := topS 36
abbrev s_is_within : Stmt := topS 37
abbrev s_is_name : Stmt := topS 38
abbrev s_is_figures : Stmt := topS 39
abbrev s_is_bell : Stmt := topS 41
abbrev s_check_bells : Stmt := topS 42
abbrev s_is_notch : Stmt := topS 43
abbrev s_check_notches : Stmt := topS 44
abbrev s_Peal___init__ : Stmt := inClass (topS 45) 0
abbrev s_Peal___eq__ : Stmt := inClass (topS 45) 7
abbrev s_Peal___str__ : Stmt := inClass (topS 45) 9
abbrev s_Peal___repr__ : Stmt := inClass (topS 45) 10
abbrev s_number_of : Stmt := topS 49
abbrev s_bell_of : Stmt := topS 50
abbrev s_notch_of : Stmt := topS 51
abbrev s_read_peal : Stmt := topS 52
abbrev s__law_opened : Stmt := topS 54
abbrev s__law_pull : Stmt := topS 55
abbrev s__law_spelt : Stmt := topS 56
abbrev s__law_calls : Stmt := topS 57
abbrev s__law_figure : Stmt := topS 58
abbrev s__law_kit : Stmt := topS 59
abbrev s__law_sort : Stmt := topS 60
abbrev s__law_text : Stmt := topS 61
abbrev s__law_is_call : Stmt := topS 62
abbrev s__law_worth_of : Stmt := topS 63
abbrev s__law_read : Stmt := topS 64
abbrev s__law_read_right : Stmt := topS 65
abbrev s__law_right : Stmt := topS 66
abbrev s_law : Stmt := topS 67
def fx0 : FX := fDef ("NoText", some "__init__") "NoText.__init__"
def fx1 : FX := fDef ("is_whole", none) "is_whole"
def fx2 : FX := fDef ("is_within", none) "is_within"
def fx3 : FX := fDef ("is_name", none) "is_name"
def fx4 : FX := fDef ("is_figures", none) "is_figures"
def fx5 : FX := fDef ("is_bell", none) "is_bell"
def fx6 : FX := fDef ("check_bells", none) "check_bells"
def fx7 : FX := fDef ("is_notch", none) "is_notch"
def fx8 : FX := fDef ("check_notches", none) "check_notches"
def fx9 : FX := fDef1 ("Peal", some "__init__") "Peal.__init__"
def fx10 : FX := fDef ("Peal", some "__eq__") "Peal.__eq__"
def fx11 : FX := fDef ("Peal", some "__str__") "Peal.__str__"
def fx12 : FX := fDef ("Peal", some "__repr__") "Peal.__repr__"
def fx13 : FX := fDef ("number_of", none) "number_of"
def fx14 : FX := fDef ("bell_of", none) "bell_of"
def fx15 : FX := fDef ("notch_of", none) "notch_of"
def fx16 : FX := fDef ("read_peal", none) "read_peal"
def fx17 : FX := fDef ("_law_opened", none) "_law_opened"
def fx18 : FX := fDef ("_law_pull", none) "_law_pull"
def fx19 : FX := fDef ("_law_spelt", none) "_law_spelt"
def fx20 : FX := fDef ("_law_calls", none) "_law_calls"
def fx21 : FX := fDef ("_law_figure", none) "_law_figure"
def fx22 : FX := fDef ("_law_kit", none) "_law_kit"
def fx23 : FX := fDef ("_law_sort", none) "_law_sort"
def fx24 : FX := fDef ("_law_text", none) "_law_text"
def fx25 : FX := fDef ("_law_is_call", none) "_law_is_call"
def fx26 : FX := fDef ("_law_worth_of", none) "_law_worth_of"
def fx27 : FX := fDef ("_law_read", none) "_law_read"
def fx28 : FX := fDef ("_law_read_right", none) "_law_read_right"
def fx29 : FX := fDef ("_law_right", none) "_law_right"
def fx30 : FX := fDef ("law", none) "law"
def fx31 : FX := fun K => He.eqO (PySem.W.nsIn K mainGlobals "Peal") (some (some (.ref (He.ga K "Peal"))))
def fx32 : FX := fun K => PySem.W.plainGet K (He.ga K "Peal") Str.empty
def fx33 : FX := fun K => PySem.W.hasDictIn K (He.ga K "Peal")
def fx34 : FX := fun K => PySem.W.plainOver K (He.ga K "Peal")
def fx35 : FX := fun K => He.eqO (PySem.W.findIn K (.ref (He.ga K "Peal")) "__setattr__") (some (some (.builtin "object.__setattr__")))
def fx36 : FX := fun K => PySem.W.makesIn K (He.ga K "Peal")
def fx37 : FX := fun K => PySem.W.keepIn K (.ref (He.ga K "Peal"))
def fx38 : FX := fun K => He.eqO (PySem.W.findIn K (.ref (He.ga K "Peal")) "__class__") (some (some (.builtin "object.__class__")))
def fx39 : FX := fun K => He.eqO (PySem.W.specialIn K (.builtin "object.__class__") "__get__") (some (some (.builtin "getset_descriptor.__get__")))
def fx40 : FX := fun K => decide (PySem.W.takesIn K (.builtin "object.__class__") = some true)
def fx41 : FX := fun K => decide (PySem.W.mroIn K (He.ga K "Peal") (.type "object") = some true)
def fx42 : FX := fun K => He.eqO (PySem.W.findIn K (.ref (He.ga K "Peal")) "__ne__") (some (some (.builtin "object.__ne__")))
def fx43 : FX := fun K => decide (PySem.W.mroIn K (He.ga K "Peal") (.type "tuple") = some false)
def fx44 : FX := fun K => decide (PySem.W.mroIn K (He.ga K "Peal") (.type "int") = some false)
def fx45 : FX := fun K => decide (PySem.W.mroIn K (He.ga K "Peal") (.type "bool") = some false)
def fx46 : FX := fun K => decide (PySem.W.mroIn K (He.ga K "Peal") (.type "str") = some false)
def fx47 : FX := fun K => decide (PySem.W.mroIn K (He.ga K "Peal") (.type "list") = some false)
def fx48 : FX := fun K => He.eqO (PySem.W.findIn K (.ref (He.ga K "Peal")) "bells") (some none)
def fx49 : FX := fun K => He.eqO (PySem.W.findIn K (.ref (He.ga K "Peal")) "notches") (some none)
def fx50 : FX := fun K => He.eqO (PySem.W.findIn K (.ref (He.ga K "Peal")) "sizes") (some none)
def fx51 : FX := fun K => He.eqO (PySem.W.findIn K (.ref (He.ga K "Peal")) "turning") (some none)
def fx52 : FX := fun K => He.eqO (PySem.W.nsIn K mainGlobals "NoPeal") (some (some (.ref (He.ga K "NoPeal"))))
def fx53 : FX := fun K => He.eqO (PySem.W.nsIn K mainGlobals "NoBells") (some (some (.ref (He.ga K "NoBells"))))
def fx54 : FX := fun K => He.eqO (PySem.W.nsIn K mainGlobals "NoNotches") (some (some (.ref (He.ga K "NoNotches"))))
def fx55 : FX := fun K => He.eqO (PySem.W.nsIn K mainGlobals "NoText") (some (some (.ref (He.ga K "NoText"))))
def fx56 : FX := fun K => He.eqO (PySem.W.nsIn K mainGlobals "NoStanding") (some (some (.ref (He.ga K "NoStanding"))))
def fx57 : FX := fun K => He.eqO (PySem.W.nsIn K mainGlobals "NoRow") (some (some (.ref (He.ga K "NoRow"))))
def fx58 : FX := fun K => He.eqO (PySem.W.nsIn K mainGlobals "NoDials") (some (some (.ref (He.ga K "NoDials"))))
def fx59 : FX := fun K => He.eqO (PySem.W.nsIn K mainGlobals "NoRings") (some (some (.ref (He.ga K "NoRings"))))
def fx60 : FX := fun K => He.eqO (PySem.W.nsIn K mainGlobals "NoCourse") (some (some (.ref (He.ga K "NoCourse"))))
def fx61 : FX := fun K => He.eqO (PySem.W.nsIn K mainGlobals "NoNumber") (some (some (.ref (He.ga K "NoNumber"))))
def fx62 : FX := fun K => He.eqO (PySem.W.nsIn K mainGlobals "NoModuli") (some (some (.ref (He.ga K "NoModuli"))))
def fx63 : FX := fun K => He.eqO (PySem.W.nsIn K mainGlobals "NoVectors") (some (some (.ref (He.ga K "NoVectors"))))
def fx64 : FX := fun K => He.eqO (PySem.W.nsIn K mainGlobals "NoVector") (some (some (.ref (He.ga K "NoVector"))))
def fx65 : FX := fun K => He.eqO (PySem.W.nsIn K mainGlobals "NoWeights") (some (some (.ref (He.ga K "NoWeights"))))
def fx66 : FX := fun K => He.eqO (PySem.W.nsIn K mainGlobals "NoTruth") (some (some (.ref (He.ga K "NoTruth"))))
def fx67 : FX := fun K => He.eqO (PySem.W.nsIn K mainGlobals "NoHistories") (some (some (.ref (He.ga K "NoHistories"))))
def fx68 : FX := fun K => He.eqO (PySem.W.nsIn K mainGlobals "NoDeed") (some (some (.ref (He.ga K "NoDeed"))))
def fx69 : FX := fun K => He.eqO (PySem.W.nsIn K mainGlobals "NoLog") (some (some (.ref (He.ga K "NoLog"))))
def fx70 : FX := fun K => He.eqO (PySem.W.nsIn K mainGlobals "NoSay") (some (some (.ref (He.ga K "NoSay"))))
def fx71 : FX := fun K => He.eqO (PySem.W.nsIn K mainGlobals "NoName") (some (some (.ref (He.ga K "NoName"))))
def fx72 : FX := fun K => He.eqO (PySem.W.nsIn K mainGlobals "NoPlace") (some (some (.ref (He.ga K "NoPlace"))))
def fx73 : FX := fun K => He.eqO (PySem.W.nsIn K mainGlobals "NoBack") (some (some (.ref (He.ga K "NoBack"))))
def fx74 : FX := fun K => He.eqO (PySem.W.nsIn K mainGlobals "TooMany") (some (some (.ref (He.ga K "TooMany"))))
def fx75 : FX := fun K => He.eqO (PySem.W.nsIn K mainGlobals "BellError") (some (some (.ref (He.ga K "BellError"))))
def fx76 : FX := fun K => He.eqO (PySem.W.nsIn K mainGlobals "LostError") (some (some (.ref (He.ga K "LostError"))))
def fx77 : FX := fun K => He.eqO (PySem.W.nsIn K mainGlobals "GreatError") (some (some (.ref (He.ga K "GreatError"))))
def fx78 : FX := fun K => decide (PySem.W.subIn K (.ref (He.ga K "BellError")) (.type "BaseException") = some true)
def fx79 : FX := fun K => PySem.W.hasDictIn K (He.ga K "BellError")
def fx80 : FX := fun K => decide (PySem.W.typeIn K (.ref (He.ga K "BellError")) = some (.type "type"))
def fx81 : FX := fun K => decide (PySem.W.subIn K (.ref (He.ga K "NoText")) (.ref (He.ga K "BellError")) = some true)
def fx82 : FX := fun K => He.eqO (PySem.W.findIn K (.ref (He.ga K "NoText")) "__getattribute__") (some (some (.builtin "BaseException.__getattribute__")))
def fx83 : FX := fun K => He.eqO (PySem.W.findIn K (.ref (He.ga K "NoText")) "__getattr__") (some none)
def fx84 : FX := fun K => decide (PySem.W.subIn K (.ref (He.ga K "NoText")) (.type "BaseException") = some true)
def fx85 : FX := fun K => PySem.W.hasDictIn K (He.ga K "NoText")
def fx86 : FX := fun K => He.eqO (PySem.W.findIn K (.ref (He.ga K "NoText")) "__class__") (some (some (.builtin "object.__class__")))
def fx87 : FX := fun K => He.eqO (PySem.W.specialIn K (.builtin "object.__class__") "__get__") (some (some (.builtin "getset_descriptor.__get__")))
def fx88 : FX := fun K => decide (PySem.W.takesIn K (.builtin "object.__class__") = some true)
def fx89 : FX := fun K => decide (PySem.W.mroIn K (He.ga K "NoText") (.type "object") = some true)
def fx90 : FX := fun K => PySem.W.isClsIn K (He.ga K "NoPeal")
def fx91 : FX := fun K => decide (PySem.W.typeIn K (.ref (He.ga K "NoPeal")) = some (.type "type"))
def fx92 : FX := fun K => decide (PySem.W.subIn K (.ref (He.ga K "NoText")) (.ref (He.ga K "NoText")) = some true)
def fx93 : FX := fun K => decide (PySem.W.subIn K (.ref (He.ga K "NoText")) (.ref (He.ga K "NoPeal")) = some false)
def fx94 : FX := fun K => PySem.W.isClsIn K (He.ga K "NoBells")
def fx95 : FX := fun K => decide (PySem.W.typeIn K (.ref (He.ga K "NoBells")) = some (.type "type"))
def fx96 : FX := fun K => decide (PySem.W.subIn K (.ref (He.ga K "NoText")) (.ref (He.ga K "NoBells")) = some false)
def fx97 : FX := fun K => PySem.W.isClsIn K (He.ga K "NoNotches")
def fx98 : FX := fun K => decide (PySem.W.typeIn K (.ref (He.ga K "NoNotches")) = some (.type "type"))
def fx99 : FX := fun K => decide (PySem.W.subIn K (.ref (He.ga K "NoText")) (.ref (He.ga K "NoNotches")) = some false)
def fx100 : FX := fun K => PySem.W.isClsIn K (He.ga K "NoStanding")
def fx101 : FX := fun K => decide (PySem.W.typeIn K (.ref (He.ga K "NoStanding")) = some (.type "type"))
def fx102 : FX := fun K => decide (PySem.W.subIn K (.ref (He.ga K "NoText")) (.ref (He.ga K "NoStanding")) = some false)
def fx103 : FX := fun K => PySem.W.isClsIn K (He.ga K "NoRow")
def fx104 : FX := fun K => decide (PySem.W.typeIn K (.ref (He.ga K "NoRow")) = some (.type "type"))
def fx105 : FX := fun K => decide (PySem.W.subIn K (.ref (He.ga K "NoText")) (.ref (He.ga K "NoRow")) = some false)
def fx106 : FX := fun K => PySem.W.isClsIn K (He.ga K "NoDials")
def fx107 : FX := fun K => decide (PySem.W.typeIn K (.ref (He.ga K "NoDials")) = some (.type "type"))
def fx108 : FX := fun K => decide (PySem.W.subIn K (.ref (He.ga K "NoText")) (.ref (He.ga K "NoDials")) = some false)
def fx109 : FX := fun K => PySem.W.isClsIn K (He.ga K "NoRings")
def fx110 : FX := fun K => decide (PySem.W.typeIn K (.ref (He.ga K "NoRings")) = some (.type "type"))
def fx111 : FX := fun K => decide (PySem.W.subIn K (.ref (He.ga K "NoText")) (.ref (He.ga K "NoRings")) = some false)
def fx112 : FX := fun K => PySem.W.isClsIn K (He.ga K "NoCourse")
def fx113 : FX := fun K => decide (PySem.W.typeIn K (.ref (He.ga K "NoCourse")) = some (.type "type"))
def fx114 : FX := fun K => decide (PySem.W.subIn K (.ref (He.ga K "NoText")) (.ref (He.ga K "NoCourse")) = some false)
def fx115 : FX := fun K => PySem.W.isClsIn K (He.ga K "NoNumber")
def fx116 : FX := fun K => decide (PySem.W.typeIn K (.ref (He.ga K "NoNumber")) = some (.type "type"))
def fx117 : FX := fun K => decide (PySem.W.subIn K (.ref (He.ga K "NoText")) (.ref (He.ga K "NoNumber")) = some false)
def fx118 : FX := fun K => PySem.W.isClsIn K (He.ga K "NoModuli")
def fx119 : FX := fun K => decide (PySem.W.typeIn K (.ref (He.ga K "NoModuli")) = some (.type "type"))
def fx120 : FX := fun K => decide (PySem.W.subIn K (.ref (He.ga K "NoText")) (.ref (He.ga K "NoModuli")) = some false)
def fx121 : FX := fun K => PySem.W.isClsIn K (He.ga K "NoVectors")
def fx122 : FX := fun K => decide (PySem.W.typeIn K (.ref (He.ga K "NoVectors")) = some (.type "type"))
def fx123 : FX := fun K => decide (PySem.W.subIn K (.ref (He.ga K "NoText")) (.ref (He.ga K "NoVectors")) = some false)
def fx124 : FX := fun K => PySem.W.isClsIn K (He.ga K "NoVector")
def fx125 : FX := fun K => decide (PySem.W.typeIn K (.ref (He.ga K "NoVector")) = some (.type "type"))
def fx126 : FX := fun K => decide (PySem.W.subIn K (.ref (He.ga K "NoText")) (.ref (He.ga K "NoVector")) = some false)
def fx127 : FX := fun K => PySem.W.isClsIn K (He.ga K "NoWeights")
def fx128 : FX := fun K => decide (PySem.W.typeIn K (.ref (He.ga K "NoWeights")) = some (.type "type"))
def fx129 : FX := fun K => decide (PySem.W.subIn K (.ref (He.ga K "NoText")) (.ref (He.ga K "NoWeights")) = some false)
def fx130 : FX := fun K => PySem.W.isClsIn K (He.ga K "NoTruth")
def fx131 : FX := fun K => decide (PySem.W.typeIn K (.ref (He.ga K "NoTruth")) = some (.type "type"))
def fx132 : FX := fun K => decide (PySem.W.subIn K (.ref (He.ga K "NoText")) (.ref (He.ga K "NoTruth")) = some false)
def fx133 : FX := fun K => PySem.W.isClsIn K (He.ga K "NoHistories")
def fx134 : FX := fun K => decide (PySem.W.typeIn K (.ref (He.ga K "NoHistories")) = some (.type "type"))
def fx135 : FX := fun K => decide (PySem.W.subIn K (.ref (He.ga K "NoText")) (.ref (He.ga K "NoHistories")) = some false)
def fx136 : FX := fun K => PySem.W.isClsIn K (He.ga K "NoDeed")
def fx137 : FX := fun K => decide (PySem.W.typeIn K (.ref (He.ga K "NoDeed")) = some (.type "type"))
def fx138 : FX := fun K => decide (PySem.W.subIn K (.ref (He.ga K "NoText")) (.ref (He.ga K "NoDeed")) = some false)
def fx139 : FX := fun K => PySem.W.isClsIn K (He.ga K "NoLog")
def fx140 : FX := fun K => decide (PySem.W.typeIn K (.ref (He.ga K "NoLog")) = some (.type "type"))
def fx141 : FX := fun K => decide (PySem.W.subIn K (.ref (He.ga K "NoText")) (.ref (He.ga K "NoLog")) = some false)
def fx142 : FX := fun K => PySem.W.isClsIn K (He.ga K "NoSay")
def fx143 : FX := fun K => decide (PySem.W.typeIn K (.ref (He.ga K "NoSay")) = some (.type "type"))
def fx144 : FX := fun K => decide (PySem.W.subIn K (.ref (He.ga K "NoText")) (.ref (He.ga K "NoSay")) = some false)
def fx145 : FX := fun K => PySem.W.isClsIn K (He.ga K "NoName")
def fx146 : FX := fun K => decide (PySem.W.typeIn K (.ref (He.ga K "NoName")) = some (.type "type"))
def fx147 : FX := fun K => decide (PySem.W.subIn K (.ref (He.ga K "NoText")) (.ref (He.ga K "NoName")) = some false)
def fx148 : FX := fun K => PySem.W.isClsIn K (He.ga K "NoPlace")
def fx149 : FX := fun K => decide (PySem.W.typeIn K (.ref (He.ga K "NoPlace")) = some (.type "type"))
def fx150 : FX := fun K => decide (PySem.W.subIn K (.ref (He.ga K "NoText")) (.ref (He.ga K "NoPlace")) = some false)
def fx151 : FX := fun K => PySem.W.isClsIn K (He.ga K "NoBack")
def fx152 : FX := fun K => decide (PySem.W.typeIn K (.ref (He.ga K "NoBack")) = some (.type "type"))
def fx153 : FX := fun K => decide (PySem.W.subIn K (.ref (He.ga K "NoText")) (.ref (He.ga K "NoBack")) = some false)
def fx154 : FX := fun K => PySem.W.isClsIn K (He.ga K "TooMany")
def fx155 : FX := fun K => decide (PySem.W.typeIn K (.ref (He.ga K "TooMany")) = some (.type "type"))
def fx156 : FX := fun K => decide (PySem.W.subIn K (.ref (He.ga K "NoText")) (.ref (He.ga K "TooMany")) = some false)
def fx157 : FX := fun K => PySem.W.isClsIn K (He.ga K "BellError")
def fx158 : FX := fun K => PySem.W.isClsIn K (He.ga K "LostError")
def fx159 : FX := fun K => decide (PySem.W.typeIn K (.ref (He.ga K "LostError")) = some (.type "type"))
def fx160 : FX := fun K => decide (PySem.W.subIn K (.ref (He.ga K "NoText")) (.ref (He.ga K "LostError")) = some false)
def fx161 : FX := fun K => PySem.W.isClsIn K (He.ga K "GreatError")
def fx162 : FX := fun K => decide (PySem.W.typeIn K (.ref (He.ga K "GreatError")) = some (.type "type"))
def fx163 : FX := fun K => decide (PySem.W.subIn K (.ref (He.ga K "NoText")) (.ref (He.ga K "GreatError")) = some false)
def fx164 : FX := fun K => decide (PySem.W.subIn K (.ref (He.ga K "NoText")) (.type "ValueError") = some true)
def fx165 : FX := fun K => decide (PySem.W.subIn K (.ref (He.ga K "NoText")) (.type "LookupError") = some false)
def fx166 : FX := fun K => decide (PySem.W.subIn K (.ref (He.ga K "NoText")) (.type "ArithmeticError") = some false)
def fx167 : FX := fun K => He.eqO (PySem.W.findIn K (.ref (He.ga K "NoText")) "row") (some none)
def fx168 : FX := fExc (fun K => (He.ga K "NoText")) (fun K => [.ref (He.ga K "BellError"), .type "ValueError", .type "Exception", .type "BaseException", .type "object"]) "ValueError.__new__"
def fx169 : FX := fun K => He.eqO (PySem.W.findIn K (.ref (He.ga K "NoText")) "__setattr__") (some (some (.builtin "object.__setattr__")))
def fx170 : FX := fun K => decide (PySem.W.typeIn K (.ref (He.ga K "NoText")) = some (.type "type"))
def fx171 : FX := fun K => PySem.W.keepIn K (.ref (He.ga K "NoText"))
def fx172 : FX := fun K => He.eqO (PySem.W.specialIn K (.ref (He.ga K "BellError")) "__getattribute__") (some (some (.builtin "type.__getattribute__")))
def fx173 : FX := fun K => PySem.W.readsIn K (He.ga K "BellError") (.type "type")
def fx174 : FX := fCls (fun K => (.ref (He.ga K "BellError"))) (fun K => (.type "type")) "__init__" (.builtin "ValueError.__init__")
def fx175 : FX := fun K => He.eqO (PySem.W.findIn K (.ref (He.ga K "NoText")) "__init__") (some (some (.ref (He.fAd K ("NoText", some "__init__")))))
def fx176 : FX := fun K => decide (PySem.W.typeIn K (.ref (He.fAd K ("NoText", some "__init__"))) = some (.type "function"))
def fx177 : FX := fun K => PySem.W.keepIn K (.ref (He.fAd K ("NoText", some "__init__")))
def fx178 : FX := fun K => He.eqO (PySem.W.nsIn K mainGlobals "is_whole") (some (some (.ref (He.fAd K ("is_whole", none)))))
def fx179 : FX := fun K => PySem.W.keepIn K (.ref (He.fAd K ("is_whole", none)))
def fx180 : FX := fun K => He.eqO (PySem.W.nsIn K mainGlobals "is_within") (some (some (.ref (He.fAd K ("is_within", none)))))
def fx181 : FX := fun K => PySem.W.keepIn K (.ref (He.fAd K ("is_within", none)))
def fx182 : FX := fun K => He.eqO (PySem.W.nsIn K mainGlobals "is_name") (some (some (.ref (He.fAd K ("is_name", none)))))
def fx183 : FX := fun K => PySem.W.keepIn K (.ref (He.fAd K ("is_name", none)))
def fx184 : FX := fun K => He.eqO (PySem.W.nsIn K mainGlobals "is_figures") (some (some (.ref (He.fAd K ("is_figures", none)))))
def fx185 : FX := fun K => PySem.W.keepIn K (.ref (He.fAd K ("is_figures", none)))
def fx186 : FX := fun K => He.eqO (PySem.W.nsIn K mainGlobals "is_bell") (some (some (.ref (He.fAd K ("is_bell", none)))))
def fx187 : FX := fun K => PySem.W.keepIn K (.ref (He.fAd K ("is_bell", none)))
def fx188 : FX := fun K => He.eqO (PySem.W.nsIn K mainGlobals "check_bells") (some (some (.ref (He.fAd K ("check_bells", none)))))
def fx189 : FX := fun K => PySem.W.keepIn K (.ref (He.fAd K ("check_bells", none)))
def fx190 : FX := fun K => He.eqO (PySem.W.nsIn K mainGlobals "is_notch") (some (some (.ref (He.fAd K ("is_notch", none)))))
def fx191 : FX := fun K => PySem.W.keepIn K (.ref (He.fAd K ("is_notch", none)))
def fx192 : FX := fun K => He.eqO (PySem.W.nsIn K mainGlobals "check_notches") (some (some (.ref (He.fAd K ("check_notches", none)))))
def fx193 : FX := fun K => PySem.W.keepIn K (.ref (He.fAd K ("check_notches", none)))
def fx194 : FX := fun K => He.eqO (PySem.W.findIn K (.ref (He.ga K "Peal")) "__init__") (some (some (.ref (He.fAd K ("Peal", some "__init__")))))
def fx195 : FX := fun K => PySem.W.isFn K (.ref (He.fAd K ("Peal", some "__init__")))
def fx196 : FX := fun K => PySem.W.keepIn K (.ref (He.fAd K ("Peal", some "__init__")))
def fx197 : FX := fun K => He.eqO (PySem.W.findIn K (.ref (He.ga K "Peal")) "__eq__") (some (some (.ref (He.fAd K ("Peal", some "__eq__")))))
def fx198 : FX := fun K => PySem.W.isFn K (.ref (He.fAd K ("Peal", some "__eq__")))
def fx199 : FX := fun K => PySem.W.keepIn K (.ref (He.fAd K ("Peal", some "__eq__")))
def fx200 : FX := fun K => He.eqO (PySem.W.findIn K (.ref (He.ga K "Peal")) "__str__") (some (some (.ref (He.fAd K ("Peal", some "__str__")))))
def fx201 : FX := fun K => PySem.W.isFn K (.ref (He.fAd K ("Peal", some "__str__")))
def fx202 : FX := fun K => PySem.W.keepIn K (.ref (He.fAd K ("Peal", some "__str__")))
def fx203 : FX := fun K => He.eqO (PySem.W.findIn K (.ref (He.ga K "Peal")) "__repr__") (some (some (.ref (He.fAd K ("Peal", some "__repr__")))))
def fx204 : FX := fun K => PySem.W.isFn K (.ref (He.fAd K ("Peal", some "__repr__")))
def fx205 : FX := fun K => PySem.W.keepIn K (.ref (He.fAd K ("Peal", some "__repr__")))
def fx206 : FX := fun K => He.eqO (PySem.W.nsIn K mainGlobals "number_of") (some (some (.ref (He.fAd K ("number_of", none)))))
def fx207 : FX := fun K => PySem.W.keepIn K (.ref (He.fAd K ("number_of", none)))
def fx208 : FX := fun K => He.eqO (PySem.W.nsIn K mainGlobals "bell_of") (some (some (.ref (He.fAd K ("bell_of", none)))))
def fx209 : FX := fun K => PySem.W.keepIn K (.ref (He.fAd K ("bell_of", none)))
def fx210 : FX := fun K => He.eqO (PySem.W.nsIn K mainGlobals "notch_of") (some (some (.ref (He.fAd K ("notch_of", none)))))
def fx211 : FX := fun K => PySem.W.keepIn K (.ref (He.fAd K ("notch_of", none)))
def fx212 : FX := fun K => He.eqO (PySem.W.nsIn K mainGlobals "read_peal") (some (some (.ref (He.fAd K ("read_peal", none)))))
def fx213 : FX := fun K => PySem.W.keepIn K (.ref (He.fAd K ("read_peal", none)))
def fx214 : FX := fun K => He.eqO (PySem.W.nsIn K mainGlobals "_law_opened") (some (some (.ref (He.fAd K ("_law_opened", none)))))
def fx215 : FX := fun K => PySem.W.keepIn K (.ref (He.fAd K ("_law_opened", none)))
def fx216 : FX := fun K => He.eqO (PySem.W.nsIn K mainGlobals "_law_pull") (some (some (.ref (He.fAd K ("_law_pull", none)))))
def fx217 : FX := fun K => PySem.W.keepIn K (.ref (He.fAd K ("_law_pull", none)))
def fx218 : FX := fun K => He.eqO (PySem.W.nsIn K mainGlobals "_law_spelt") (some (some (.ref (He.fAd K ("_law_spelt", none)))))
def fx219 : FX := fun K => PySem.W.keepIn K (.ref (He.fAd K ("_law_spelt", none)))
def fx220 : FX := fun K => He.eqO (PySem.W.nsIn K mainGlobals "_law_calls") (some (some (.ref (He.fAd K ("_law_calls", none)))))
def fx221 : FX := fun K => PySem.W.keepIn K (.ref (He.fAd K ("_law_calls", none)))
def fx222 : FX := fun K => He.eqO (PySem.W.nsIn K mainGlobals "_law_figure") (some (some (.ref (He.fAd K ("_law_figure", none)))))
def fx223 : FX := fun K => PySem.W.keepIn K (.ref (He.fAd K ("_law_figure", none)))
def fx224 : FX := fun K => He.eqO (PySem.W.nsIn K mainGlobals "_law_kit") (some (some (.ref (He.fAd K ("_law_kit", none)))))
def fx225 : FX := fun K => PySem.W.keepIn K (.ref (He.fAd K ("_law_kit", none)))
def fx226 : FX := fun K => He.eqO (PySem.W.nsIn K mainGlobals "_law_sort") (some (some (.ref (He.fAd K ("_law_sort", none)))))
def fx227 : FX := fun K => PySem.W.keepIn K (.ref (He.fAd K ("_law_sort", none)))
def fx228 : FX := fun K => He.eqO (PySem.W.nsIn K mainGlobals "_law_text") (some (some (.ref (He.fAd K ("_law_text", none)))))
def fx229 : FX := fun K => PySem.W.keepIn K (.ref (He.fAd K ("_law_text", none)))
def fx230 : FX := fun K => He.eqO (PySem.W.nsIn K mainGlobals "_law_is_call") (some (some (.ref (He.fAd K ("_law_is_call", none)))))
def fx231 : FX := fun K => PySem.W.keepIn K (.ref (He.fAd K ("_law_is_call", none)))
def fx232 : FX := fun K => He.eqO (PySem.W.nsIn K mainGlobals "_law_worth_of") (some (some (.ref (He.fAd K ("_law_worth_of", none)))))
def fx233 : FX := fun K => PySem.W.keepIn K (.ref (He.fAd K ("_law_worth_of", none)))
def fx234 : FX := fun K => He.eqO (PySem.W.nsIn K mainGlobals "_law_read") (some (some (.ref (He.fAd K ("_law_read", none)))))
def fx235 : FX := fun K => PySem.W.keepIn K (.ref (He.fAd K ("_law_read", none)))
def fx236 : FX := fun K => He.eqO (PySem.W.nsIn K mainGlobals "_law_read_right") (some (some (.ref (He.fAd K ("_law_read_right", none)))))
def fx237 : FX := fun K => PySem.W.keepIn K (.ref (He.fAd K ("_law_read_right", none)))
def fx238 : FX := fun K => He.eqO (PySem.W.nsIn K mainGlobals "_law_right") (some (some (.ref (He.fAd K ("_law_right", none)))))
def fx239 : FX := fun K => PySem.W.keepIn K (.ref (He.fAd K ("_law_right", none)))
def fx240 : FX := fun K => He.eqO (PySem.W.nsIn K mainGlobals "law") (some (some (.ref (He.fAd K ("law", none)))))
def fx241 : FX := fun K => PySem.W.keepIn K (.ref (He.fAd K ("law", none)))
def fx242 : FX := fun K => He.eqO (PySem.W.nsIn K mainGlobals "int") (some none)
def fx243 : FX := fun K => He.eqO (PySem.W.nsIn K mainGlobals "isinstance") (some none)
def fx244 : FX := fun K => He.eqO (PySem.W.nsIn K mainGlobals "bool") (some none)
def fx245 : FX := fun K => He.eqO (PySem.W.nsIn K mainGlobals "str") (some none)
def fx246 : FX := fun K => He.eqO (PySem.W.nsIn K mainGlobals "len") (some none)
def fx247 : FX := fun K => He.eqO (PySem.W.nsIn K mainGlobals "all") (some none)
def fx248 : FX := fun K => He.eqO (PySem.W.nsIn K mainGlobals "tuple") (some none)
def fx249 : FX := fun K => He.eqO (PySem.W.nsIn K mainGlobals "enumerate") (some none)
def fx250 : FX := fun K => He.eqO (PySem.W.nsIn K mainGlobals "dict") (some none)
def fx251 : FX := fun K => He.eqO (PySem.W.nsIn K mainGlobals "abs") (some none)
def fx252 : FX := fun K => He.eqO (PySem.W.nsIn K mainGlobals "divmod") (some none)
def fx253 : FX := fun K => He.eqO (PySem.W.nsIn K mainGlobals "range") (some none)
def fx254 : FX := fun K => He.eqO (PySem.W.nsIn K mainGlobals "sorted") (some none)
def fx255 : FX := fun K => He.eqO (PySem.W.nsIn K mainGlobals "ValueError") (some none)
def fx256 : FX := fun K => He.eqO (PySem.W.nsIn K mainGlobals "LookupError") (some none)
def fx257 : FX := fun K => He.eqO (PySem.W.nsIn K mainGlobals "ArithmeticError") (some none)
def fx258 : FX := fun K => He.eqO (PySem.W.nsIn K mainGlobals "repr") (some none)
def fx259 : FX := fun K => He.eqO (PySem.W.nsIn K mainGlobals "min") (some none)
def fx260 : FX := fun K => He.eqO (PySem.W.nsIn K mainGlobals "max") (some none)
def fx261 : FX := fInt "MOST_LETTERS" (6)
def fx262 : FX := fStr "LETTERS" "abcdefghijklmnopqrstuvwxyz"
def fx263 : FX := fStr "FIGURES" "0123456789"
def fx264 : FX := fInt "LEAST_MARKS" (2)
def fx265 : FX := fInt "MOST_MARKS" (24)
def fx266 : FX := fInt "MOST_BELLS" (8)
def fx267 : FX := fInt "MOST_NUMBER" (99)
def hx0 : List FX := [fx0, fx1, fx2, fx3, fx4, fx5, fx6, fx7, fx8, fx9, fx10, fx11, fx12, fx13, fx14, fx15, fx16, fx17, fx18, fx19]
def hx1 : List FX := [fx20, fx21, fx22, fx23, fx24, fx25, fx26, fx27, fx28, fx29, fx30, fx31, fx32, fx33, fx34, fx35, fx36, fx37, fx38, fx39]
def hx2 : List FX := [fx40, fx41, fx42, fx43, fx44, fx45, fx46, fx47, fx48, fx49, fx50, fx51, fx52, fx53, fx54, fx55, fx56, fx57, fx58, fx59]
def hx3 : List FX := [fx60, fx61, fx62, fx63, fx64, fx65, fx66, fx67, fx68, fx69, fx70, fx71, fx72, fx73, fx74, fx75, fx76, fx77, fx78, fx79]
def hx4 : List FX := [fx80, fx81, fx82, fx83, fx84, fx85, fx86, fx87, fx88, fx89, fx90, fx91, fx92, fx93, fx94, fx95, fx96, fx97, fx98, fx99]
def hx5 : List FX := [fx100, fx101, fx102, fx103, fx104, fx105, fx106, fx107, fx108, fx109, fx110, fx111, fx112, fx113, fx114, fx115, fx116, fx117, fx118, fx119]
def hx6 : List FX := [fx120, fx121, fx122, fx123, fx124, fx125, fx126, fx127, fx128, fx129, fx130, fx131, fx132, fx133, fx134, fx135, fx136, fx137, fx138, fx139]
def hx7 : List FX := [fx140, fx141, fx142, fx143, fx144, fx145, fx146, fx147, fx148, fx149, fx150, fx151, fx152, fx153, fx154, fx155, fx156, fx157, fx158, fx159]
def hx8 : List FX := [fx160, fx161, fx162, fx163, fx164, fx165, fx166, fx167, fx168, fx169, fx170, fx171, fx172, fx173, fx174, fx175, fx176, fx177, fx178, fx179]
def hx9 : List FX := [fx180, fx181, fx182, fx183, fx184, fx185, fx186, fx187, fx188, fx189, fx190, fx191, fx192, fx193, fx194, fx195, fx196, fx197, fx198, fx199]
def hx10 : List FX := [fx200, fx201, fx202, fx203, fx204, fx205, fx206, fx207, fx208, fx209, fx210, fx211, fx212, fx213, fx214, fx215, fx216, fx217, fx218, fx219]
def hx11 : List FX := [fx220, fx221, fx222, fx223, fx224, fx225, fx226, fx227, fx228, fx229, fx230, fx231, fx232, fx233, fx234, fx235, fx236, fx237, fx238, fx239]
def hx12 : List FX := [fx240, fx241, fx242, fx243, fx244, fx245, fx246, fx247, fx248, fx249, fx250, fx251, fx252, fx253, fx254, fx255, fx256, fx257, fx258, fx259]
def hx13 : List FX := [fx260, fx261, fx262, fx263, fx264, fx265, fx266, fx267]
def hxs : List (List FX) := [hx0, hx1, hx2, hx3, hx4, hx5, hx6, hx7, hx8, hx9, hx10, hx11, hx12, hx13]
def hd0 : He.DefD := ⟨("NoText", some "__init__"), "__init__", "NoText.__init__", defArgs s_NoText___init__, defBody s_NoText___init__, defScope s_NoText___init__, [], []⟩
def hd1 : He.DefD := ⟨("is_whole", none), "is_whole", "is_whole", defArgs s_is_whole, defBody s_is_whole, defScope s_is_whole, [], []⟩
def hd2 : He.DefD := ⟨("is_within", none), "is_within", "is_within", defArgs s_is_within, defBody s_is_within, defScope s_is_within, [], []⟩
def hd3 : He.DefD := ⟨("is_name", none), "is_name", "is_name", defArgs s_is_name, defBody s_is_name, defScope s_is_name, [], []⟩
def hd4 : He.DefD := ⟨("is_figures", none), "is_figures", "is_figures", defArgs s_is_figures, defBody s_is_figures, defScope s_is_figures, [], []⟩
def hd5 : He.DefD := ⟨("is_bell", none), "is_bell", "is_bell", defArgs s_is_bell, defBody s_is_bell, defScope s_is_bell, [], []⟩
def hd6 : He.DefD := ⟨("check_bells", none), "check_bells", "check_bells", defArgs s_check_bells, defBody s_check_bells, defScope s_check_bells, [], []⟩
def hd7 : He.DefD := ⟨("is_notch", none), "is_notch", "is_notch", defArgs s_is_notch, defBody s_is_notch, defScope s_is_notch, [], []⟩
def hd8 : He.DefD := ⟨("check_notches", none), "check_notches", "check_notches", defArgs s_check_notches, defBody s_check_notches, defScope s_check_notches, [], []⟩
def hd9 : He.DefD := ⟨("Peal", some "__init__"), "__init__", "Peal.__init__", defArgs s_Peal___init__, defBody s_Peal___init__, defScope s_Peal___init__, [.adr (He.dflAt ("Peal", some "__init__") 0)], []⟩
def hd10 : He.DefD := ⟨("Peal", some "__eq__"), "__eq__", "Peal.__eq__", defArgs s_Peal___eq__, defBody s_Peal___eq__, defScope s_Peal___eq__, [], []⟩
def hd11 : He.DefD := ⟨("Peal", some "__str__"), "__str__", "Peal.__str__", defArgs s_Peal___str__, defBody s_Peal___str__, defScope s_Peal___str__, [], []⟩
def hd12 : He.DefD := ⟨("Peal", some "__repr__"), "__repr__", "Peal.__repr__", defArgs s_Peal___repr__, defBody s_Peal___repr__, defScope s_Peal___repr__, [], []⟩
def hd13 : He.DefD := ⟨("number_of", none), "number_of", "number_of", defArgs s_number_of, defBody s_number_of, defScope s_number_of, [], []⟩
def hd14 : He.DefD := ⟨("bell_of", none), "bell_of", "bell_of", defArgs s_bell_of, defBody s_bell_of, defScope s_bell_of, [], []⟩
def hd15 : He.DefD := ⟨("notch_of", none), "notch_of", "notch_of", defArgs s_notch_of, defBody s_notch_of, defScope s_notch_of, [], []⟩
def hd16 : He.DefD := ⟨("read_peal", none), "read_peal", "read_peal", defArgs s_read_peal, defBody s_read_peal, defScope s_read_peal, [], []⟩
def hd17 : He.DefD := ⟨("_law_opened", none), "_law_opened", "_law_opened", defArgs s__law_opened, defBody s__law_opened, defScope s__law_opened, [], []⟩
def hd18 : He.DefD := ⟨("_law_pull", none), "_law_pull", "_law_pull", defArgs s__law_pull, defBody s__law_pull, defScope s__law_pull, [], []⟩
def hd19 : He.DefD := ⟨("_law_spelt", none), "_law_spelt", "_law_spelt", defArgs s__law_spelt, defBody s__law_spelt, defScope s__law_spelt, [], []⟩
def hd20 : He.DefD := ⟨("_law_calls", none), "_law_calls", "_law_calls", defArgs s__law_calls, defBody s__law_calls, defScope s__law_calls, [], []⟩
def hd21 : He.DefD := ⟨("_law_figure", none), "_law_figure", "_law_figure", defArgs s__law_figure, defBody s__law_figure, defScope s__law_figure, [], []⟩
def hd22 : He.DefD := ⟨("_law_kit", none), "_law_kit", "_law_kit", defArgs s__law_kit, defBody s__law_kit, defScope s__law_kit, [], []⟩
def hd23 : He.DefD := ⟨("_law_sort", none), "_law_sort", "_law_sort", defArgs s__law_sort, defBody s__law_sort, defScope s__law_sort, [], []⟩
def hd24 : He.DefD := ⟨("_law_text", none), "_law_text", "_law_text", defArgs s__law_text, defBody s__law_text, defScope s__law_text, [], []⟩
def hd25 : He.DefD := ⟨("_law_is_call", none), "_law_is_call", "_law_is_call", defArgs s__law_is_call, defBody s__law_is_call, defScope s__law_is_call, [], []⟩
def hd26 : He.DefD := ⟨("_law_worth_of", none), "_law_worth_of", "_law_worth_of", defArgs s__law_worth_of, defBody s__law_worth_of, defScope s__law_worth_of, [], []⟩
def hd27 : He.DefD := ⟨("_law_read", none), "_law_read", "_law_read", defArgs s__law_read, defBody s__law_read, defScope s__law_read, [], []⟩
def hd28 : He.DefD := ⟨("_law_read_right", none), "_law_read_right", "_law_read_right", defArgs s__law_read_right, defBody s__law_read_right, defScope s__law_read_right, [], []⟩
def hd29 : He.DefD := ⟨("_law_right", none), "_law_right", "_law_right", defArgs s__law_right, defBody s__law_right, defScope s__law_right, [], []⟩
def hd30 : He.DefD := ⟨("law", none), "law", "law", defArgs s_law, defBody s_law, defScope s_law, [], []⟩
def hfn0 : List He.DefD := [hd0, hd1, hd2, hd3, hd4, hd5, hd6, hd7, hd8, hd9, hd10, hd11, hd12, hd13, hd14, hd15, hd16, hd17, hd18, hd19]
def hfn1 : List He.DefD := [hd20, hd21, hd22, hd23, hd24, hd25, hd26, hd27, hd28, hd29, hd30]
abbrev hfn : List He.DefD := hfn0 ++ (hfn1)
abbrev htf : List He.Defn := []
end H05
namespace H05
open PySem PySem.W PySem.Calls PyProof.Rows
abbrev hR : OpenRow := OpenLaw.row PySem.Challenge.rw_sincerung_k05_texts_written_and_read
abbrev hqv : Program := view hR.prog [67]
def hn0 : List PySem.Str := ["_wall", "MOST_BELLS", "MOST_LETTERS", "LEAST_MARKS", "MOST_MARKS", "MOST_NUMBER", "LETTERS", "FIGURES", "BellError", "LostError", "GreatError", "NoPeal", "NoBells", "NoNotches", "NoText", "NoStanding", "NoRow", "NoDials", "NoRings", "NoCourse"]
def hn1 : List PySem.Str := ["NoNumber", "NoModuli", "NoVectors", "NoVector", "NoWeights", "NoTruth", "NoHistories", "NoDeed", "NoLog", "NoSay", "NoName", "NoPlace", "NoBack", "TooMany", "is_whole", "is_within", "is_name", "is_figures", "is_bell", "check_bells"]
def hn2 : List PySem.Str := ["is_notch", "check_notches", "Peal", "check_name", "check_two", "number_of", "bell_of", "notch_of", "read_peal", "_law_opened", "_law_pull", "_law_spelt", "_law_calls", "_law_figure", "_law_kit", "_law_sort", "_law_text", "_law_is_call", "_law_worth_of", "_law_read"]
def hn3 : List PySem.Str := ["_law_read_right", "_law_right"]
abbrev hnames : List PySem.Str := hn0 ++ hn1 ++ hn2 ++ hn3
abbrev hhk : Hook := Kx.hookY 5 hfn htf (Kx.fxOk hxs)
def hob (s : SharedT) : He.AlX := Kx.obsY 5 hfn htf (Kx.fxOk hxs) (HandSHeadRun.getT s)
theorem hob_eq (s : SharedT) : hob s = hhk.obs s.abs := Kx.obsY_eq (HandSHeadRun.getT_eq s)
set_option maxHeartbeats 0 in
theorem hrunA (w : World) : Kx.runA hR hqv hfn hob 30000 hnames w := by
  intro os
  kernel_rfl
set_option maxHeartbeats 0 in
theorem hrunB0 (w : World) : Kx.runC hR (Kx.obB 5 [hx0, hx1, hx2, hx3]) 30000 w := by
  intro os
  kernel_rfl
set_option maxHeartbeats 0 in
theorem hrunB1 (w : World) : Kx.runC hR (Kx.obB 5 [hx4, hx5, hx6, hx7, hx8]) 30000 w := by
  intro os
  kernel_rfl
set_option maxHeartbeats 0 in
theorem hrunB2 (w : World) : Kx.runC hR (Kx.obBT 5 [hx9, hx10, hx11, hx12, hx13] htf) 30000 w := by
  intro os
  kernel_rfl
theorem hrunB (w : World) : Kx.runB hR hfn hob 30000 w := Kx.runCB (b := Kx.obBT 5 hxs htf) (fun _ => rfl) (Kx.runCC (b := Kx.obBT 5 ([hx0, hx1, hx2, hx3] ++ [hx4, hx5, hx6, hx7, hx8, hx9, hx10, hx11, hx12, hx13]) htf) Kx.obBT_cut (hrunB0 w) (Kx.runCC (b := Kx.obBT 5 ([hx4, hx5, hx6, hx7, hx8] ++ [hx9, hx10, hx11, hx12, hx13]) htf) Kx.obBT_cut (hrunB1 w) (hrunB2 w)))
theorem hrun (w : World) : HandSHeadRun.RunEq hR hqv hhk hob 30000 hnames w := Kx.runAB (hrunA w) (hrunB w)
end H05
end
section
set_option maxHeartbeats 2000000
namespace Kx
open PySem L2 PySem.Spec PyProof.Rows
/-! ### tuples whose object is known to have no dict of its own: the making rules once more -/
section
variable {X : Cx} {K : PySem.W.Frag}
theorem frz_ok {P : Program} {w : World} {H : Hp} {h : Heap} {xs : List V} {its : List Value} (hz : xs.length ≤ sizeLine) (r : Vals xs its) :
    ObjOk P w H (h.push { cls := .type "tuple", data := .seq its.toArray }) h.objs.size (.frz { cls := .type "tuple", data := .seq its.toArray } (.tup xs)) :=
  ⟨Heap.get?_push_size _ rfl, hz, its, r, ⟨_, Heap.get?_push_size _ rfl, rfl, _, rfl⟩⟩
def tTupF (t : TA) : TE := fun σ H Q => t σ H fun xs H1 => xs.length ≤ sizeLine ∧ ∀ p o, H1 p = none → o.dict = none → Q (.ref p) (upd H1 p (.frz o (.tup xs)))
theorem pe_tupF {es : List Expr} {t : TA} {pos : Pos} {x1} (h : PA X es t) : PE X (.Tuple es x1 pos) (tTupF t) := by
  refine ⟨fun pins s σ H Q I hq => ?_⟩
  refine wpAny_Tuple_spliced (thn (h.run pos pins s σ H _ I hq) fun us s1 ⟨xs, H1, I1, r, z, q⟩ => ⟨by rw [← r.length]; exact z, ?_⟩)
  exact ⟨.ref s1.heap.objs.size, _, I1.laid (t' := s1.toks) (fun b u e => Heap.get?_push_of_some _ e) (Nat.le_refl _) (frz_ok z r), rfl, q _ _ (I1.hok.fresh (Nat.le_refl _)) rfl⟩
def rTupOf (K : PySem.W.Frag) : List V → Hp → VK → Prop := fun xs H Q => ∃ p ys, xs = [.ref p] ∧ ((SqL K H p ys ∧ ∀ l o, H l = none → o.dict = none → Q (.ref l) (upd H l (.frz o (.tup ys)))) ∨ (SqT K H p ys ∧ Q (.ref p) H))
theorem cl_tupleF : CallR X (.type "tuple") (rTupOf X.K) := by
  intro pins s σ H xs us Q I r h
  obtain ⟨p, ys, rfl, h⟩ := h
  obtain ⟨u, rfl, rx⟩ := vals1 r
  cases rx
  rcases h with ⟨hq, q⟩ | ⟨hq, q⟩
  · obtain ⟨its, r1, pl, hz⟩ := I.list hq
    have hl := r1.length
    refine call_tuple_list pl.isList (fun h1 kp => ?_) (by simp only [List.size_toArray] <;> omega)
    have I1 : Inv X pins σ H { s with heap := h1 } := I.kept (t' := s.toks) kp
    exact ⟨.ref h1.objs.size, _, I1.laid (t' := s.toks) (fun b o e => Heap.get?_push_of_some _ e) (Nat.le_refl _) (frz_ok hz r1), rfl, q _ _ (I1.hok.fresh (Nat.le_refl _)) rfl⟩
  · obtain ⟨its, r1, pl, _⟩ := I.tuple hq
    exact call_tuple_same pl ⟨.ref p, H, I, rfl, q⟩
def rSlF (K : PySem.W.Frag) : V → Option Int → Option Int → Hp → VK → Prop := fun x lo hi H Q => ∃ a xs, x = .ref a ∧ SqT K H a xs ∧
  (HT.sIx xs.length 0 lo = 0 ∧ HT.sIx xs.length xs.length hi = xs.length → Q (.ref a) H) ∧ (¬ (HT.sIx xs.length 0 lo = 0 ∧ HT.sIx xs.length xs.length hi = xs.length) → ∀ p o, H p = none → o.dict = none → Q (.ref p) (upd H p (.frz o (.tup (cutV xs lo hi)))))
theorem sl_tupF : SlR X (rSlF X.K) := by
  intro pins s σ H x v vl vu lo hi sl Q I rx hs pl pu h
  obtain ⟨a, xs, rfl, hx, q1, q2⟩ := h
  by_cases hw : HT.sIx xs.length 0 lo = 0 ∧ HT.sIx xs.length xs.length hi = xs.length
  · exact sl_tupA pins s σ H _ v vl vu lo hi sl Q I rx hs pl pu ⟨a, xs, rfl, hx, q1, fun n => absurd hw n⟩
  · cases rx
    obtain ⟨its, r, ht, hz⟩ := I.tuple hx
    have hl : its.toArray.size = xs.length := by rw [List.size_toArray]; exact r.length.symm
    refine ⟨"tuple", _, PyProof.Rows.slot_tuple_getitem.lookup, ht.typeIs, ?_⟩
    refine HT.getItem_tuple_cut ht hs pl pu (by rw [hl]; exact hw) ?_ (by rw [hl]; exact hz)
    rw [hl]
    exact ⟨.ref s.heap.objs.size, _, I.laid (t' := s.toks) (fun b ob q => Heap.get?_push_of_some _ q) (Nat.le_refl _) (frz_ok (Nat.le_trans (cutV_length xs lo hi) hz) ((r.drop (HT.sIx xs.length 0 lo)).take (HT.sIx xs.length xs.length hi - HT.sIx xs.length 0 lo))), rfl, q2 hw _ _ (I.hok.fresh (Nat.le_refl _)) rfl⟩
/-- a tuple that is known to have no dict of its own -/
def TupG (K : PySem.W.Frag) (G : Hp) (a : Addr) (xs : List V) : Prop :=
  (∃ o, G a = some (.frz o (.tup xs)) ∧ o.dict = none) ∨ ∃ (o : Obj) (its : Array Value) (n : Nat), K.lookup a = some o ∧ o.cls = .type "tuple" ∧ o.dict = none ∧ o.data = .seq its n ∧ its.size ≤ sizeLine ∧ Vals xs its.toList
theorem TupG.sq {G : Hp} {a : Addr} {xs : List V} (h : TupG K G a xs) : SqT K G a xs := by
  rcases h with ⟨o, h, _⟩ | ⟨o, its, n, h1, h2, _, h4, h5, h6⟩
  · exact .inl (.inr ⟨o, h⟩)
  · exact .inr ⟨o, its, n, h1, h2, h4, h5, h6⟩
theorem TupG.up {G H : Hp} {a : Addr} {xs : List V} (s : Same G H) (h : TupG K G a xs) : TupG K H a xs := by
  rcases h with ⟨o, h, hd⟩ | h
  · exact .inl ⟨o, s _ _ h, hd⟩
  · exact .inr h
/-! the call of a method of such a tuple -/
end
end Kx
end
section
set_option maxHeartbeats 2000000
namespace Kx
open PySem L2
/-! ### what is known: G stands still, M may be changed, both are tracked in H -/
/-- the tables of code objects that are looked after: each with the name that its code objects bear -/
class Tb where
  t : List (Addr × Str)
/-- no table, nothing of the model's own words -/
def Nt : HO → Prop
  | .tbl _ => False
  | .ext _ => False
  | _ => True
/-- what may be changed -/
def Mt : Option HO → Prop
  | some (.lst _) => True
  | some (.dK _) => True
  | some (.dT _) => True
  | some (.ins _ _ _) => True
  | _ => False
theorem Mt.nt {o : HO} (h : Mt (some o)) : Nt o := by cases o <;> first | exact trivial | exact h.elim
/-- no table -/
def NoTbl : HO → Prop
  | .tbl _ => False
  | _ => True
theorem Nt.noTbl {o : HO} (h : Nt o) : NoTbl o := by cases o <;> first | exact trivial | exact h.elim
/-- the tables stand in H; none stands in G -/
structure TbG [T : Tb] (G H : Hp) : Prop where
  t : LamX.Tabs T.t H
  n : ∀ a o, G a = some o → NoTbl o
section
variable [Tb] {G H : Hp} {p : Addr} {o u : HO}
theorem tabs_at (h : TbG G H) (hp : ∀ u, H p = some u → Nt u) : LamX.Tabs Tb.t (upd H p o) := fun q hq => by
  obtain ⟨ps, h1, h2, h3⟩ := h.t q hq
  have ne : ∀ {a : Addr} {u : HO}, H a = some u → ¬ Nt u → a ≠ p := fun {a u} e n z => by
    subst z
    exact n (hp u e)
  refine ⟨ps, by rw [upd_ne (ne h1 id)]; exact h1, h2, fun pos cv hc => ?_⟩
  obtain ⟨c, e1, e2⟩ := h3 pos cv hc
  exact ⟨c, e1, by rw [upd_ne (ne e2 id)]; exact e2⟩
theorem no_upd (h : ∀ a o, G a = some o → NoTbl o) (ho : NoTbl o) : ∀ a u, (upd G p o) a = some u → NoTbl u := fun a u e => by
  by_cases ha : a = p
  · subst ha; rw [upd_same] at e; cases e; exact ho
  · rw [upd_ne ha] at e; exact h a u e
theorem tb_new (h : TbG G H) (hp : H p = none) : TbG G (upd H p o) := ⟨tabs_at h fun u e => (by rw [hp] at e; cases e), h.n⟩
theorem tb_newG (h : TbG G H) (hp : H p = none) (ho : NoTbl o) : TbG (upd G p o) (upd H p o) := ⟨tabs_at h fun u e => (by rw [hp] at e; cases e), no_upd h.n ho⟩
theorem tb_of (h : TbG G H) (hp : H p = some u) (n : Nt u) : TbG G (upd H p o) := ⟨tabs_at h fun v e => (by rw [hp] at e; cases e; exact n), h.n⟩
theorem tb_G (h : TbG G H) (ho : NoTbl o) : TbG (upd G p o) H := ⟨h.t, no_upd h.n ho⟩
end
structure Ok [Tb] (G M H : Hp) : Prop where
  g : Same G H
  m : Same M H
  d : ∀ a o, M a = some o → G a = none
  mu : ∀ a o, M a = some o → Mt (some o)
  tb : TbG G H
theorem Same.new {H : Hp} {p : Addr} {o : HO} (h : H p = none) : Same H (upd H p o) := fun a u e => by
  rw [upd_ne (ne_of_none e h)]
  exact e
theorem Same.none {G H : Hp} (s : Same G H) {p : Addr} (h : H p = none) : G p = none := s.free h
/-- a new object that stands still -/
theorem Ok.newG [Tb] {G M H : Hp} {p : Addr} (o : HO) (k : Ok G M H) (h : H p = none) (hn : NoTbl o := by exact trivial) : Ok (upd G p o) M (upd H p o) := by
  refine ⟨fun a u e => ?_, fun a u e => ?_, fun a u e => ?_, k.mu, tb_newG k.tb h hn⟩
  · by_cases ha : a = p
    · subst ha; rw [upd_same] at e ⊢; exact e
    · rw [upd_ne ha] at e ⊢; exact k.g a u e
  · rw [upd_ne (ne_of_none (k.m a u e) h)]; exact k.m a u e
  · rw [upd_ne (ne_of_none (k.m a u e) h)]; exact k.d a u e
theorem mu_upd {M : Hp} {p : Addr} {o : HO} (k : ∀ a o, M a = some o → Mt (some o)) (hm : Mt (some o)) : ∀ a u, (upd M p o) a = some u → Mt (some u) := fun a u e => by
  by_cases ha : a = p
  · subst ha; rw [upd_same] at e; cases e; exact hm
  · rw [upd_ne ha] at e; exact k a u e
/-- a new object that may be changed -/
theorem Ok.newM [Tb] {G M H : Hp} {p : Addr} (o : HO) (k : Ok G M H) (h : H p = none) (hm : Mt (some o) := by exact trivial) : Ok G (upd M p o) (upd H p o) := by
  refine ⟨fun a u e => ?_, fun a u e => ?_, fun a u e => ?_, mu_upd k.mu hm, tb_new k.tb h⟩
  · rw [upd_ne (ne_of_none (k.g a u e) h)]; exact k.g a u e
  · by_cases ha : a = p
    · subst ha; rw [upd_same] at e ⊢; exact e
    · rw [upd_ne ha] at e ⊢; exact k.m a u e
  · by_cases ha : a = p
    · subst ha; exact Same.none k.g h
    · rw [upd_ne ha] at e; exact k.d a u e
/-- a changed object -/
theorem Ok.chg [Tb] {G M H : Hp} {p : Addr} {u : HO} (o : HO) (k : Ok G M H) (h : M p = some u) (hm : Mt (some o) := by exact trivial) : Ok G (upd M p o) (upd H p o) := by
  have gp : G p = none := k.d p u h
  refine ⟨fun a u e => ?_, fun a u e => ?_, fun a u e => ?_, mu_upd k.mu hm, tb_of k.tb (k.m p u h) (k.mu p u h).nt⟩
  · rw [upd_ne (ne_of_none e gp)]; exact k.g a u e
  · by_cases ha : a = p
    · subst ha; rw [upd_same] at e ⊢; exact e
    · rw [upd_ne ha] at e ⊢; exact k.m a u e
  · by_cases ha : a = p
    · subst ha; exact gp
    · rw [upd_ne ha] at e; exact k.d a u e
/-- what may be changed is let go: it stands still from here on -/
theorem Ok.frz [Tb] {G M H : Hp} {p : Addr} {o : HO} (k : Ok G (upd M p o) H) (h : M p = none) : Ok (upd G p o) M H := by
  refine ⟨fun a u e => ?_, fun a u e => ?_, fun a u e => ?_, fun a u e => k.mu a u (by rw [upd_ne (ne_of_none e h)]; exact e), tb_G k.tb (k.mu p o upd_same).nt.noTbl⟩
  · by_cases ha : a = p
    · subst ha; rw [upd_same] at e; exact k.m a u (by rw [upd_same]; exact e)
    · rw [upd_ne ha] at e; exact k.g a u e
  · exact k.m a u (by rw [upd_ne (ne_of_none e h)]; exact e)
  · have ha := ne_of_none e h
    rw [upd_ne ha]
    exact k.d a u (by rw [upd_ne ha]; exact e)
theorem Ok.less [Tb] {G M M' H : Hp} (k : Ok G M' H) (s : Same M M') : Ok G M H := ⟨k.g, fun a o e => k.m a o (s a o e), fun a o e => k.d a o (s a o e), fun a o e => k.mu a o (s a o e), k.tb⟩
theorem Ok.gp [Tb] {G M H : Hp} {p : Addr} {o : HO} (k : Ok G (upd M p o) H) : G p = none := k.d p o upd_same
theorem upd_back {M : Hp} {p : Addr} {o : HO} (h : M p = some o) : upd M p o = M := by
  funext a
  unfold upd
  split
  · next e => rw [e, h]
  · rfl
theorem upd_comm {M : Hp} {p q : Addr} {o u : HO} (h : p ≠ q) : upd (upd M p o) q u = upd (upd M q u) p o := by
  funext a
  unfold upd
  by_cases h1 : a = q <;> by_cases h2 : a = p
  · subst h1; exact absurd h2.symm h
  · rw [if_pos h1, if_neg h2, if_pos h1]
  · rw [if_neg h1, if_pos h2, if_pos h2]
  · rw [if_neg h1, if_neg h2, if_neg h2, if_neg h1]
theorem rd_up {G H : Hp} {a : Addr} {u : HO} (e : Same G H) (h : Rd G a u) : Rd H a u := by
  rcases h with h | ⟨o, h⟩
  · exact Or.inl (e a _ h)
  · exact Or.inr ⟨o, e a _ h⟩
/-- the class that the top has given this name -/
def clsAt (K : PySem.W.Frag) (n : Str) : Addr := match PySem.W.nsIn K mainGlobals n with
  | some (some (.ref C)) => C
  | _ => 0
theorem clsAt_of {K : PySem.W.Frag} {n : Str} {C : Addr} (h : PySem.W.nsIn K mainGlobals n = some (some (.ref C))) : clsAt K n = C := by
  unfold clsAt
  rw [h]
/-! ### data in the heap: lists are plain tracked ones; texts have code points; dicts and instances stand still -/
inductive Dat where
  | none
  | bool (b : Bool)
  | int (i : Int)
  | str (s : Str)
  | list (xs : List Dat)
  | tuple (xs : List Dat)
  /-- a tuple of which no more is known -/
  | rtup (xs : List Dat)
  /-- a dict by ints and texts: its keys, its values -/
  | dK (ks : List Key) (xs : List Dat)
  /-- a dict by tuples of these -/
  | dT (ks : List (List Key)) (xs : List Dat)
  /-- an instance of the class of this name: its fields, their values -/
  | ins (C : Str) (ns : List Str) (xs : List Dat)
abbrev sok (x : Str) : Bool := PyData.strOk x
def keyOk : Key → Bool
  | .inl _ => true
  | .inr x => sok x
mutual
inductive Dq (K : PySem.W.Frag) (G : Hp) : V → Dat → Prop
  | non : Dq K G .non .none
  | bl (b : Bool) : Dq K G (.bl b) (.bool b)
  | int (i : Int) : Dq K G (.int i) (.int i)
  | str {x : Str} (h : sok x = true) : Dq K G (.str x) (.str x)
  | lst {a : Addr} {xs : List V} {ds : List Dat} : G a = some (.lst xs) → DqAll K G xs ds → Dq K G (.ref a) (.list ds)
  | tup {a : Addr} {xs : List V} {ds : List Dat} : TupG K G a xs → DqAll K G xs ds → Dq K G (.ref a) (.tuple ds)
  | rtup {a : Addr} {xs : List V} {ds : List Dat} : G a = some (.tup xs) → DqAll K G xs ds → Dq K G (.ref a) (.rtup ds)
  | dK {a : Addr} {kvs : List (Key × V)} {ks : List Key} {ds : List Dat} : Rd G a (.dK kvs) → kvs.map (·.1) = ks → ks.all keyOk = true → DqAll K G (kvs.map (·.2)) ds → Dq K G (.ref a) (.dK ks ds)
  | dT {a : Addr} {kvs : List (List Key × V)} {ks : List (List Key)} {ds : List Dat} : Rd G a (.dT kvs) → kvs.map (·.1) = ks → (ks.all fun k => k.all keyOk) = true → DqAll K G (kvs.map (·.2)) ds → Dq K G (.ref a) (.dT ks ds)
  | ins {a dx : Addr} {C : Str} {fs : List (Str × V)} {ns : List Str} {ds : List Dat} : G a = some (.ins (clsAt K C) dx fs) → fs.map (·.1) = ns → DqAll K G (fs.map (·.2)) ds → Dq K G (.ref a) (.ins C ns ds)
inductive DqAll (K : PySem.W.Frag) (G : Hp) : List V → List Dat → Prop
  | nil : DqAll K G [] []
  | cons {v : V} {d : Dat} {vs : List V} {ds : List Dat} : Dq K G v d → DqAll K G vs ds → DqAll K G (v :: vs) (d :: ds)
end
/-! plain data, as the library has them -/
mutual
def toPy : Dat → PyData
  | .none => .none
  | .bool b => .bool b
  | .int i => .int i
  | .str x => .str x
  | .list xs => .list (toPys xs)
  | .tuple xs => .tuple (toPys xs)
  | .rtup xs => .tuple (toPys xs)
  | .dK _ _ => .none
  | .dT _ _ => .none
  | .ins _ _ _ => .none
def toPys : List Dat → List PyData
  | [] => []
  | x :: xs => toPy x :: toPys xs
def pur : Dat → Bool
  | .none => true
  | .bool _ => true
  | .int _ => true
  | .str _ => true
  | .list xs => purs xs
  | .tuple xs => purs xs
  | .rtup xs => purs xs
  | .dK _ _ => false
  | .dT _ _ => false
  | .ins _ _ _ => false
def purs : List Dat → Bool
  | [] => true
  | x :: xs => pur x && purs xs
end
section
variable {K : PySem.W.Frag}
theorem sqT_up {G H : Hp} {a : Addr} {xs : List V} (e : Same G H) (h : SqT K G a xs) : SqT K H a xs := by
  rcases h with h | h
  · exact Or.inl (rd_up e h)
  · exact Or.inr h
mutual
theorem dp_up {G H : Hp} (e : Same G H) : ∀ (d : Dat) {v : V}, Dq K G v d → Dq K H v d
  | .none, _, h => by cases h; exact .non
  | .bool b, _, h => by cases h; exact .bl b
  | .int i, _, h => by cases h; exact .int i
  | .str x, _, h => by
    cases h with
    | str h => exact .str h
  | .list ds, _, h => by
    cases h with
    | lst a b => exact .lst (e _ _ a) (dpAll_up e ds b)
  | .tuple ds, _, h => by
    cases h with
    | tup a b => exact .tup (a.up e) (dpAll_up e ds b)
  | .rtup ds, _, h => by
    cases h with
    | rtup a b => exact .rtup (e _ _ a) (dpAll_up e ds b)
  | .dK ks ds, _, h => by
    cases h with
    | dK a b c d => exact .dK (rd_up e a) b c (dpAll_up e ds d)
  | .dT ks ds, _, h => by
    cases h with
    | dT a b c d => exact .dT (rd_up e a) b c (dpAll_up e ds d)
  | .ins C ns ds, _, h => by
    cases h with
    | ins a b c => exact .ins (e _ _ a) b (dpAll_up e ds c)
theorem dpAll_up {G H : Hp} (e : Same G H) : ∀ (ds : List Dat) {vs : List V}, DqAll K G vs ds → DqAll K H vs ds
  | [], _, h => by cases h; exact .nil
  | d :: ds, _, h => by
    cases h with
    | cons a b => exact .cons (dp_up e d a) (dpAll_up e ds b)
end
mutual
theorem dq_dp {G : Hp} : ∀ (d : Dat) {v : V}, pur d = true → Dq K G v d → Dp K G v (toPy d)
  | .none, _, _, h => by cases h; unfold toPy; exact .non
  | .bool b, _, _, h => by cases h; unfold toPy; exact .bl b
  | .int i, _, _, h => by cases h; unfold toPy; exact .int i
  | .str x, _, _, h => by cases h; unfold toPy; exact .str x
  | .list ds, _, p, h => by
    cases h with
    | lst a b => unfold toPy; exact .lst (.inl (.inl a)) (dqAll_dp ds (by unfold pur at p; exact p) b)
  | .tuple ds, _, p, h => by
    cases h with
    | tup a b => unfold toPy; exact .tup a.sq (dqAll_dp ds (by unfold pur at p; exact p) b)
  | .rtup ds, _, p, h => by
    cases h with
    | rtup a b => unfold toPy; exact .tup (.inl (.inl a)) (dqAll_dp ds (by unfold pur at p; exact p) b)
  | .dK _ _, _, p, h => by unfold pur at p; cases p
  | .dT _ _, _, p, h => by unfold pur at p; cases p
  | .ins _ _ _, _, p, h => by unfold pur at p; cases p
theorem dqAll_dp {G : Hp} : ∀ (ds : List Dat) {vs : List V}, purs ds = true → DqAll K G vs ds → DpAll K G vs (toPys ds)
  | [], _, _, h => by cases h; unfold toPys; exact .nil
  | d :: ds, _, p, h => by
    cases h with
    | cons a b =>
      unfold purs at p
      rw [Bool.and_eq_true] at p
      unfold toPys
      exact .cons (dq_dp d p.1 a) (dqAll_dp ds p.2 b)
end
/-! what stands in the heap can be laid -/
mutual
theorem dq_lay {G : Hp} : ∀ (d : Dat) {v : V}, pur d = true → Dq K G v d → (toPy d).canLay0 = true
  | .none, _, _, h => by unfold toPy PyData.canLay0; rfl
  | .bool b, _, _, h => by unfold toPy PyData.canLay0; rfl
  | .int i, _, _, h => by unfold toPy PyData.canLay0; rfl
  | .str x, _, _, h => by
    cases h with
    | str h => unfold toPy PyData.canLay0; exact h
  | .list ds, _, p, h => by
    cases h with
    | lst a b => unfold toPy PyData.canLay0; exact dqAll_lay ds (by unfold pur at p; exact p) b
  | .tuple ds, _, p, h => by
    cases h with
    | tup a b => unfold toPy PyData.canLay0; exact dqAll_lay ds (by unfold pur at p; exact p) b
  | .rtup ds, _, p, h => by
    cases h with
    | rtup a b => unfold toPy PyData.canLay0; exact dqAll_lay ds (by unfold pur at p; exact p) b
  | .dK _ _, _, p, h => by unfold pur at p; cases p
  | .dT _ _, _, p, h => by unfold pur at p; cases p
  | .ins _ _ _, _, p, h => by unfold pur at p; cases p
theorem dqAll_lay {G : Hp} : ∀ (ds : List Dat) {vs : List V}, purs ds = true → DqAll K G vs ds → PyData.canLayAll0 (toPys ds) = true
  | [], _, _, h => by unfold toPys PyData.canLayAll0; rfl
  | d :: ds, _, p, h => by
    cases h with
    | cons a b =>
      unfold purs at p
      rw [Bool.and_eq_true] at p
      unfold toPys PyData.canLayAll0
      rw [dq_lay d p.1 a, dqAll_lay ds p.2 b]
      rfl
end
theorem dpAll_len {G : Hp} : ∀ {ds : List Dat} {vs : List V}, DqAll K G vs ds → vs.length = ds.length
  | _, _, .nil => rfl
  | _, _, .cons _ b => congrArg (· + 1) (dpAll_len b)
theorem dpAll_get {G : Hp} : ∀ {ds : List Dat} {vs : List V} {i : Nat} {d : Dat}, DqAll K G vs ds → ds[i]? = some d → ∃ v, vs[i]? = some v ∧ Dq K G v d
  | _, _, _, _, .nil, h => by simp at h
  | _, _, 0, _, .cons a _, h => by simp at h; subst h; exact ⟨_, rfl, a⟩
  | _, _, i + 1, d, .cons _ b, h => by
    obtain ⟨v, h1, h2⟩ := dpAll_get (i := i) (d := d) b (by simpa using h)
    exact ⟨v, by simpa using h1, h2⟩
theorem dpAll_app {G : Hp} : ∀ {ds es : List Dat} {vs ws : List V}, DqAll K G vs ds → DqAll K G ws es → DqAll K G (vs ++ ws) (ds ++ es)
  | _, _, _, _, .nil, h => h
  | _, _, _, _, .cons a b, h => .cons a (dpAll_app b h)
theorem dpAll_drop {G : Hp} : ∀ {ds : List Dat} {vs : List V} (n : Nat), DqAll K G vs ds → DqAll K G (vs.drop n) (ds.drop n)
  | _, _, 0, h => h
  | _, _, _ + 1, .nil => .nil
  | _, _, n + 1, .cons _ b => dpAll_drop n b
theorem dpAll_take {G : Hp} : ∀ {ds : List Dat} {vs : List V} (n : Nat), DqAll K G vs ds → DqAll K G (vs.take n) (ds.take n)
  | _, _, 0, _ => .nil
  | _, _, _ + 1, .nil => .nil
  | _, _, n + 1, .cons a b => .cons a (dpAll_take n b)
theorem dpAll_bls {G : Hp} : ∀ {ns : List Bool} {vs : List V}, DqAll K G vs (ns.map Dat.bool) → vs = ns.map V.bl
  | [], _, h => by cases h; rfl
  | n :: ns, _, h => by
    cases h with
    | cons a b => cases a; exact congrArg (V.bl n :: ·) (dpAll_bls b)
theorem dpAll_strs {G : Hp} : ∀ {ns : List Str} {vs : List V}, DqAll K G vs (ns.map Dat.str) → vs = ns.map V.str
  | [], _, h => by cases h; rfl
  | n :: ns, _, h => by
    cases h with
    | cons a b => cases a; exact congrArg (V.str n :: ·) (dpAll_strs b)
end
/-! ### what evaluates to what -/
abbrev VP := V → Hp → Prop
def Mo (P : VP) : Prop := ∀ v G G', Same G G' → P v G → P v G'
abbrev DD (K : PySem.W.Frag) (d : Dat) : VP := fun v G => Dq K G v d
abbrev OW (p : Addr) : VP := fun v _ => v = .ref p
theorem mo_dd {K : PySem.W.Frag} {d : Dat} : Mo (DD K d) := fun _ _ _ s h => dp_up s d h
theorem mo_ow {p : Addr} : Mo (OW p) := fun _ _ _ _ h => h
def Ev [Tb] (te : TE) (σ : St) (G M M' : Hp) (P : VP) : Prop :=
  ∀ G0 H, Same G G0 → Ok G0 M H → ∀ Q : VK, (∀ v G' H', Same G0 G' → Ok G' M' H' → P v G' → Q v H') → te σ H Q
def EvA [Tb] (ta : TA) (σ : St) (G M M' : Hp) (P : List V → Hp → Prop) : Prop :=
  ∀ G0 H, Same G G0 → Ok G0 M H → ∀ Q : List V → Hp → Prop, (∀ vs G' H', Same G0 G' → Ok G' M' H' → P vs G' → Q vs H') → ta σ H Q
def EvT [Tb] (tt : TT) (σ : St) (G M M' : Hp) (b : Bool) : Prop :=
  ∀ G0 H, Same G G0 → Ok G0 M H → ∀ Q : Bool → Hp → Prop, (∀ G' H', Same G0 G' → Ok G' M' H' → Q b H') → tt σ H Q
/-- a new list of one's own -/
def EvL [Tb] (K : PySem.W.Frag) (te : TE) (σ : St) (G M M' : Hp) (ds : List Dat) : Prop :=
  ∀ G0 H, Same G G0 → Ok G0 M H → ∀ Q : VK, (∀ p vs G' H', Same G0 G' → Ok G' (upd M' p (.lst vs)) H' → M' p = none → DqAll K G' vs ds → Q (.ref p) H') → te σ H Q
def EvO [Tb] (to : TO) (σ : St) (G M M' : Hp) (o : Option Int) : Prop :=
  ∀ G0 H, Same G G0 → Ok G0 M H → ∀ Q : Option Int → Hp → Prop, (∀ G' H', Same G0 G' → Ok G' M' H' → Q o H') → to σ H Q
/-- a rule on values -/
def RV2 [Tb] (r : R2) (G M M' : Hp) (P1 P2 P : VP) : Prop :=
  ∀ x y G0 H, Same G G0 → Ok G0 M H → P1 x G0 → P2 y G0 → ∀ Q : VK, (∀ v G' H', Same G0 G' → Ok G' M' H' → P v G' → Q v H') → r x y H Q
def RVn [Tb] (r : List V → Hp → VK → Prop) (G M M' : Hp) (Ps : List V → Hp → Prop) (P : VP) : Prop :=
  ∀ xs G0 H, Same G G0 → Ok G0 M H → Ps xs G0 → ∀ Q : VK, (∀ v G' H', Same G0 G' → Ok G' M' H' → P v G' → Q v H') → r xs H Q
def RVnL [Tb] (K : PySem.W.Frag) (r : List V → Hp → VK → Prop) (G M M' : Hp) (Ps : List V → Hp → Prop) (ds : List Dat) : Prop :=
  ∀ xs G0 H, Same G G0 → Ok G0 M H → Ps xs G0 → ∀ Q : VK, (∀ p vs G' H', Same G0 G' → Ok G' (upd M' p (.lst vs)) H' → M' p = none → DqAll K G' vs ds → Q (.ref p) H') → r xs H Q
def RV2L [Tb] (K : PySem.W.Frag) (r : R2) (G M M' : Hp) (P1 P2 : VP) (ds : List Dat) : Prop :=
  ∀ x y G0 H, Same G G0 → Ok G0 M H → P1 x G0 → P2 y G0 → ∀ Q : VK, (∀ p vs G' H', Same G0 G' → Ok G' (upd M' p (.lst vs)) H' → M' p = none → DqAll K G' vs ds → Q (.ref p) H') → r x y H Q
def nilP : List V → Hp → Prop := fun vs _ => vs = []
def conP (P : VP) (R : List V → Hp → Prop) : List V → Hp → Prop := fun vs G => ∃ v r, vs = v :: r ∧ P v G ∧ R r G
section
variable {K : PySem.W.Frag} {σ : St} {G G' M M1 M2 M3 : Hp} {ta tb te tc : TE} {P P1 P2 : VP} {d e : Dat} {ds es : List Dat}
theorem Ev.up [Tb] (s : Same G G') (h : Ev te σ G M M1 P) : Ev te σ G' M M1 P := fun G0 H a => h G0 H (s.trans a)
theorem EvT.up [Tb] {tt : TT} {b : Bool} (s : Same G G') (h : EvT tt σ G M M1 b) : EvT tt σ G' M M1 b := fun G0 H a => h G0 H (s.trans a)
theorem EvL.up [Tb] (s : Same G G') (h : EvL K te σ G M M1 ds) : EvL K te σ G' M M1 ds := fun G0 H a => h G0 H (s.trans a)
theorem EvL.ev [Tb] (h : EvL K te σ G M M1 ds) : Ev te σ G M M1 (DD K (.list ds)) := fun G0 H s k Q q =>
  h G0 H s k Q fun p vs G' H' s' k' hp hd => q _ (upd G' p (.lst vs)) H' (s'.trans (Same.new k'.gp)) (k'.frz hp) (.lst upd_same (dpAll_up (Same.new k'.gp) ds hd))
theorem ev_var [Tb] {i : Nat} {v : V} (h : σ[i]? = some (some v)) (m : Mo P) (hp : P v G) : Ev (tVar i) σ G M M P := fun G0 H s k Q q =>
  ⟨v, h, q v G0 H (Same.refl G0) k (m v G G0 s hp)⟩
theorem ev_d [Tb] {i : Nat} {v : V} (h : σ[i]? = some (some v)) (hp : Dq K G v d) : Ev (tVar i) σ G M M (DD K d) := ev_var h mo_dd hp
theorem ev_own [Tb] {i : Nat} {p : Addr} (h : σ[i]? = some (some (.ref p))) : Ev (tVar i) σ G M M (OW p) := ev_var h mo_ow rfl
theorem ev_c [Tb] {v : V} (hp : ∀ G, Dq K G v d) : Ev (tC v) σ G M M (DD K d) := fun G0 H s k Q q => q v G0 H (Same.refl G0) k (hp G0)
theorem ev_int [Tb] {i : Int} : Ev (tC (.int i)) σ G M M (DD K (.int i)) := ev_c fun _ => .int i
theorem ev_str [Tb] {x : Str} (h : sok x = true) : Ev (tC (.str x)) σ G M M (DD K (.str x)) := ev_c fun _ => .str h
theorem ev_bl [Tb] {b : Bool} : Ev (tC (.bl b)) σ G M M (DD K (.bool b)) := ev_c fun _ => .bl b
theorem ev_non [Tb] : Ev (tC .non) σ G M M (DD K .none) := ev_c fun _ => .non
theorem ev_op [Tb] {r : R2} (m : Mo P1) (ha : Ev ta σ G M M1 P1) (hb : Ev tb σ G M1 M2 P2) (hr : RV2 r G M2 M3 P1 P2 P) : Ev (tOp r ta tb) σ G M M3 P := fun G0 H s k Q q =>
  ha G0 H s k _ fun x G1 H1 s1 k1 hx => hb G1 H1 (s.trans s1) k1 _ fun y G2 H2 s2 k2 hy => hr x y G2 H2 ((s.trans s1).trans s2) k2 (m x G1 G2 s2 hx) hy Q fun v G3 H3 s3 k3 hv => q v G3 H3 ((s1.trans s2).trans s3) k3 hv
theorem el_op [Tb] {r : R2} (m : Mo P1) (ha : Ev ta σ G M M1 P1) (hb : Ev tb σ G M1 M2 P2) (hr : RV2L K r G M2 M3 P1 P2 ds) : EvL K (tOp r ta tb) σ G M M3 ds := fun G0 H s k Q q =>
  ha G0 H s k _ fun x G1 H1 s1 k1 hx => hb G1 H1 (s.trans s1) k1 _ fun y G2 H2 s2 k2 hy => hr x y G2 H2 ((s.trans s1).trans s2) k2 (m x G1 G2 s2 hx) hy Q fun p vs G3 H3 s3 k3 hv => q p vs G3 H3 ((s1.trans s2).trans s3) k3 hv
theorem ea_nil [Tb] : EvA tNil σ G M M nilP := fun G0 H s k Q q => q [] G0 H (Same.refl _) k rfl
theorem ea_cons [Tb] {tr : TA} {R : List V → Hp → Prop} (m : Mo P) (ha : Ev ta σ G M M1 P) (hr : EvA tr σ G M1 M2 R) : EvA (tCons ta tr) σ G M M2 (conP P R) := fun G0 H s k Q q =>
  ha G0 H s k _ fun x G1 H1 s1 k1 hx => hr G1 H1 (s.trans s1) k1 _ fun xs G2 H2 s2 k2 hy => q (x :: xs) G2 H2 (s1.trans s2) k2 ⟨x, xs, rfl, m x G1 G2 s2 hx, hy⟩
theorem ea_d [Tb] {tr : TA} {R : List V → Hp → Prop} (ha : Ev ta σ G M M1 (DD K d)) (hr : EvA tr σ G M1 M2 R) : EvA (tCons ta tr) σ G M M2 (conP (DD K d) R) := ea_cons mo_dd ha hr
theorem ev_cb [Tb] {r : List V → Hp → VK → Prop} {t : TA} {R : List V → Hp → Prop} (ha : EvA t σ G M M1 R) (hr : RVn r G M1 M2 R P) : Ev (tCB r t) σ G M M2 P := fun G0 H s k Q q =>
  ha G0 H s k _ fun xs G1 H1 s1 k1 hx => hr xs G1 H1 (s.trans s1) k1 hx Q fun v G2 H2 s2 k2 hv => q v G2 H2 (s1.trans s2) k2 hv
theorem el_cb [Tb] {r : List V → Hp → VK → Prop} {t : TA} {R : List V → Hp → Prop} (ha : EvA t σ G M M1 R) (hr : RVnL K r G M1 M2 R ds) : EvL K (tCB r t) σ G M M2 ds := fun G0 H s k Q q =>
  ha G0 H s k _ fun xs G1 H1 s1 k1 hx => hr xs G1 H1 (s.trans s1) k1 hx Q fun p vs G2 H2 s2 k2 hv => q p vs G2 H2 (s1.trans s2) k2 hv
/-- values of a list of data -/
def allP (K : PySem.W.Frag) (ds : List Dat) : List V → Hp → Prop := fun vs G => DqAll K G vs ds
theorem ea_nilD [Tb] : EvA tNil σ G M M (allP K []) := fun G0 H s k Q q => q [] G0 H (Same.refl _) k .nil
theorem ea_consD [Tb] {tr : TA} (ha : Ev ta σ G M M1 (DD K d)) (hr : EvA tr σ G M1 M2 (allP K ds)) : EvA (tCons ta tr) σ G M M2 (allP K (d :: ds)) := fun G0 H s k Q q =>
  ha G0 H s k _ fun x G1 H1 s1 k1 hx => hr G1 H1 (s.trans s1) k1 _ fun xs G2 H2 s2 k2 hy => q (x :: xs) G2 H2 (s1.trans s2) k2 (.cons (dp_up s2 d hx) hy)
theorem ev_tup [Tb] {t : TA} (ha : EvA t σ G M M1 (allP K ds)) (hl : ds.length ≤ sizeLine := by simp [sizeLine_eq]) : Ev (tTupF t) σ G M M1 (DD K (.tuple ds)) := fun G0 H s k Q q =>
  ha G0 H s k _ fun xs G1 H1 s1 k1 hx => ⟨by rw [dpAll_len hx]; exact hl, fun p o hp hd => q _ (upd G1 p (.frz o (.tup xs))) _ (s1.trans (Same.new (Same.none k1.g hp))) (k1.newG _ hp) (.tup (.inl ⟨o, upd_same, hd⟩) (dpAll_up (Same.new (Same.none k1.g hp)) ds hx))⟩
theorem newL [Tb] {Q : VK} {G0 G1 H1 M1 : Hp} {xs : List V} (s1 : Same G0 G1) (k1 : Ok G1 M1 H1) (hx : DqAll K G1 xs ds) (q : ∀ p vs G' H', Same G0 G' → Ok G' (upd M1 p (.lst vs)) H' → M1 p = none → DqAll K G' vs ds → Q (.ref p) H') : ∀ p, H1 p = none → Q (.ref p) (upd H1 p (.lst xs)) :=
  fun p hp => q p xs G1 _ s1 (k1.newM _ hp) (Same.none k1.m hp) hx
theorem newT [Tb] {Q : VK} {G0 G1 H1 M1 : Hp} {xs : List V} (s1 : Same G0 G1) (k1 : Ok G1 M1 H1) (hx : DqAll K G1 xs ds) (q : ∀ v G' H', Same G0 G' → Ok G' M1 H' → Dq K G' v (.tuple ds) → Q v H') : ∀ p o, H1 p = none → o.dict = none → Q (.ref p) (upd H1 p (.frz o (.tup xs))) :=
  fun p o hp hd => q _ (upd G1 p (.frz o (.tup xs))) _ (s1.trans (Same.new (Same.none k1.g hp))) (k1.newG _ hp) (.tup (.inl ⟨o, upd_same, hd⟩) (dpAll_up (Same.new (Same.none k1.g hp)) ds hx))
theorem newR [Tb] {Q : VK} {G0 G1 H1 M1 : Hp} {xs : List V} (s1 : Same G0 G1) (k1 : Ok G1 M1 H1) (hx : DqAll K G1 xs ds) (q : ∀ v G' H', Same G0 G' → Ok G' M1 H' → Dq K G' v (.rtup ds) → Q v H') : ∀ p, H1 p = none → Q (.ref p) (upd H1 p (.tup xs)) :=
  fun p hp => q _ (upd G1 p (.tup xs)) _ (s1.trans (Same.new (Same.none k1.g hp))) (k1.newG _ hp) (.rtup upd_same (dpAll_up (Same.new (Same.none k1.g hp)) ds hx))
theorem el_lst [Tb] {t : TA} (ha : EvA t σ G M M1 (allP K ds)) (hl : ds.length ≤ sizeLine := by simp [sizeLine_eq]) : EvL K (tLst t) σ G M M1 ds := fun G0 H s k Q q =>
  ha G0 H s k _ fun xs G1 H1 s1 k1 hx => ⟨by rw [dpAll_len hx]; exact hl, newL s1 k1 hx q⟩
theorem ev_is [Tb] {d' : Dat} (h : Ev te σ G M M1 (DD K d)) (e : d = d') : Ev te σ G M M1 (DD K d') := e ▸ h
/-! ### operators -/
theorem rv_I0 [Tb] {g : Int → Int → V} {f : Int → Int → Dat} {i j : Int} (hg : ∀ i j G, Dq K G (g i j) (f i j)) : RV2 (rI0 g) G M M (DD K (.int i)) (DD K (.int j)) (DD K (f i j)) := fun x y G0 H s k hx hy Q q => by
  cases hx; cases hy
  exact ⟨i, j, rfl, rfl, q _ G0 H (Same.refl _) k (hg i j G0)⟩
theorem rv_I [Tb] {C : Int → Int → Prop} {g : Int → Int → V} {f : Int → Int → Dat} {i j : Int} (hg : ∀ i j G, Dq K G (g i j) (f i j)) (hc : C i j) : RV2 (rI C g) G M M (DD K (.int i)) (DD K (.int j)) (DD K (f i j)) := fun x y G0 H s k hx hy Q q => by
  cases hx; cases hy
  exact ⟨i, j, rfl, rfl, hc, q _ G0 H (Same.refl _) k (hg i j G0)⟩
theorem ev_add [Tb] {i j : Int} (ha : Ev ta σ G M M1 (DD K (.int i))) (hb : Ev tb σ G M1 M2 (DD K (.int j))) : Ev (tOp (rI0 fun i j => .int (i + j)) ta tb) σ G M M2 (DD K (.int (i + j))) := ev_op mo_dd ha hb (rv_I0 (f := fun i j => .int (i + j)) fun i j _ => .int _)
theorem ev_sub [Tb] {i j : Int} (ha : Ev ta σ G M M1 (DD K (.int i))) (hb : Ev tb σ G M1 M2 (DD K (.int j))) : Ev (tOp (rI0 fun i j => .int (i - j)) ta tb) σ G M M2 (DD K (.int (i - j))) := ev_op mo_dd ha hb (rv_I0 (f := fun i j => .int (i - j)) fun i j _ => .int _)
theorem ev_mod [Tb] {i j : Int} (hc : j ≠ 0) (ha : Ev ta σ G M M1 (DD K (.int i))) (hb : Ev tb σ G M1 M2 (DD K (.int j))) : Ev (tOp (rI (fun _ j => j ≠ 0) fun i j => .int (i.fmod j)) ta tb) σ G M M2 (DD K (.int (i.fmod j))) := ev_op mo_dd ha hb (rv_I (f := fun i j => .int (i.fmod j)) (fun i j _ => .int _) hc)
theorem ev_pow [Tb] {i j : Int} (hc : CPow i j) (ha : Ev ta σ G M M1 (DD K (.int i))) (hb : Ev tb σ G M1 M2 (DD K (.int j))) : Ev (tOp (rI CPow fun i j => .int (i ^ j.toNat)) ta tb) σ G M M2 (DD K (.int (i ^ j.toNat))) := ev_op mo_dd ha hb (rv_I (f := fun i j => .int (i ^ j.toNat)) (fun i j _ => .int _) hc)
theorem ev_lt [Tb] {i j : Int} (ha : Ev ta σ G M M1 (DD K (.int i))) (hb : Ev tb σ G M1 M2 (DD K (.int j))) : Ev (tOp (rI0 fun i j => .bl (decide (i < j))) ta tb) σ G M M2 (DD K (.bool (decide (i < j)))) := ev_op mo_dd ha hb (rv_I0 (f := fun i j => .bool (decide (i < j))) fun i j _ => .bl _)
theorem ev_gt [Tb] {i j : Int} (ha : Ev ta σ G M M1 (DD K (.int i))) (hb : Ev tb σ G M1 M2 (DD K (.int j))) : Ev (tOp (rI0 fun i j => .bl (decide (j < i))) ta tb) σ G M M2 (DD K (.bool (decide (j < i)))) := ev_op mo_dd ha hb (rv_I0 (f := fun i j => .bool (decide (j < i))) fun i j _ => .bl _)
theorem ev_eqI [Tb] {i j : Int} (ha : Ev ta σ G M M1 (DD K (.int i))) (hb : Ev tb σ G M1 M2 (DD K (.int j))) : Ev (tOp rEq ta tb) σ G M M2 (DD K (.bool (decide (i = j)))) := ev_op mo_dd ha hb fun x y G0 H s k hx hy Q q => by
  cases hx; cases hy
  refine ⟨rfl, q _ G0 H (Same.refl _) k ?_⟩
  rw [show decide (V.int i = V.int j) = decide (i = j) by simp]
  exact .bl _
theorem ev_neI [Tb] {i j : Int} (ha : Ev ta σ G M M1 (DD K (.int i))) (hb : Ev tb σ G M1 M2 (DD K (.int j))) : Ev (tOp rNe ta tb) σ G M M2 (DD K (.bool (!decide (i = j)))) := ev_op mo_dd ha hb fun x y G0 H s k hx hy Q q => by
  cases hx; cases hy
  refine ⟨rfl, q _ G0 H (Same.refl _) k ?_⟩
  rw [show decide (V.int i = V.int j) = decide (i = j) by simp]
  exact .bl _
theorem ev_eqS [Tb] {i j : Str} (ha : Ev ta σ G M M1 (DD K (.str i))) (hb : Ev tb σ G M1 M2 (DD K (.str j))) : Ev (tOp rEq ta tb) σ G M M2 (DD K (.bool (decide (i = j)))) := ev_op mo_dd ha hb fun x y G0 H s k hx hy Q q => by
  cases hx; cases hy
  refine ⟨rfl, q _ G0 H (Same.refl _) k ?_⟩
  rw [show decide (V.str i = V.str j) = decide (i = j) by simp]
  exact .bl _
theorem ev_neS [Tb] {i j : Str} (ha : Ev ta σ G M M1 (DD K (.str i))) (hb : Ev tb σ G M1 M2 (DD K (.str j))) : Ev (tOp rNe ta tb) σ G M M2 (DD K (.bool (!decide (i = j)))) := ev_op mo_dd ha hb fun x y G0 H s k hx hy Q q => by
  cases hx; cases hy
  refine ⟨rfl, q _ G0 H (Same.refl _) k ?_⟩
  rw [show decide (V.str i = V.str j) = decide (i = j) by simp]
  exact .bl _
theorem shp_of {v : V} {n : Nat} (p : pur d = true) (hn : (toPy d).depth ≤ 64) (h : Dq K G v d) : SeqAt.shaped (toPy d) = true := by
  unfold SeqAt.shaped
  rw [dq_lay d p h]
  simpa using hn
theorem ev_eqD [Tb] (p1 : pur d = true) (p2 : pur e = true) (h1 : (toPy d).depth ≤ 64) (h2 : (toPy e).depth ≤ 64) (ha : Ev ta σ G M M1 (DD K d)) (hb : Ev tb σ G M1 M2 (DD K e)) : Ev (tOp (rEqD K) ta tb) σ G M M2 (DD K (.bool (PyData.eqv (toPy d) (toPy e)))) := ev_op mo_dd ha hb fun x y G0 H s k hx hy Q q =>
  ⟨toPy d, toPy e, dq_dp d p1 (dp_up k.g d hx), dq_dp e p2 (dp_up k.g e hy), shp_of (n := 0) p1 h1 hx, shp_of (n := 0) p2 h2 hy, q _ G0 H (Same.refl _) k (.bl _)⟩
theorem ev_neD [Tb] (p1 : pur d = true) (p2 : pur e = true) (h1 : (toPy d).depth ≤ 64) (h2 : (toPy e).depth ≤ 64) (ha : Ev ta σ G M M1 (DD K d)) (hb : Ev tb σ G M1 M2 (DD K e)) : Ev (tOp (rNeD K) ta tb) σ G M M2 (DD K (.bool (!PyData.eqv (toPy d) (toPy e)))) := ev_op mo_dd ha hb fun x y G0 H s k hx hy Q q =>
  ⟨toPy d, toPy e, dq_dp d p1 (dp_up k.g d hx), dq_dp e p2 (dp_up k.g e hy), shp_of (n := 0) p1 h1 hx, shp_of (n := 0) p2 h2 hy, q _ G0 H (Same.refl _) k (.bl _)⟩
theorem ev_neg [Tb] {i : Int} (ha : Ev ta σ G M M1 (DD K (.int i))) : Ev (tUn (rU fun i => .int (-i)) ta) σ G M M1 (DD K (.int (-i))) := fun G0 H s k Q q =>
  ha G0 H s k _ fun x G1 H1 s1 k1 hx => by
    cases hx
    exact ⟨i, rfl, q _ G1 H1 s1 k1 (.int _)⟩
def isND : Dat → Bool
  | .none => true
  | _ => false
theorem ev_isN [Tb] (ha : Ev ta σ G M M1 (DD K d)) (hb : Ev tb σ G M1 M2 (DD K .none)) : Ev (tOp (fun x y H Q => y = .non ∧ Q (.bl (decide (x = .non))) H) ta tb) σ G M M2 (DD K (.bool (isND d))) := ev_op mo_dd ha hb fun x y G0 H s k hx hy Q q => by
  cases hy
  refine ⟨rfl, q _ G0 H (Same.refl _) k ?_⟩
  cases hx <;> exact .bl _
theorem ev_notN [Tb] (ha : Ev ta σ G M M1 (DD K d)) (hb : Ev tb σ G M1 M2 (DD K .none)) : Ev (tOp (fun x y H Q => y = .non ∧ Q (.bl (!decide (x = .non))) H) ta tb) σ G M M2 (DD K (.bool (!isND d))) := ev_op mo_dd ha hb fun x y G0 H s k hx hy Q q => by
  cases hy
  refine ⟨rfl, q _ G0 H (Same.refl _) k ?_⟩
  cases hx <;> exact .bl _
/-! ### items and slices -/
theorem dp_list {G : Hp} {v : V} (h : Dq K G v (.list ds)) : ∃ a vs, v = .ref a ∧ G a = some (.lst vs) ∧ DqAll K G vs ds := by
  cases h with | lst a b => exact ⟨_, _, rfl, a, b⟩
theorem dp_tuple {G : Hp} {v : V} (h : Dq K G v (.tuple ds)) : ∃ a vs, v = .ref a ∧ SqT K G a vs ∧ DqAll K G vs ds := by
  cases h with | tup a b => exact ⟨_, _, rfl, a.sq, b⟩
theorem dp_rtup {G : Hp} {v : V} (h : Dq K G v (.rtup ds)) : ∃ a vs, v = .ref a ∧ G a = some (.tup vs) ∧ DqAll K G vs ds := by
  cases h with | rtup a b => exact ⟨_, _, rfl, a, b⟩
theorem atI_of {G : Hp} {vs : List V} {i : Int} (h : DqAll K G vs ds) (ha : atI ds i = some d) : ∃ v, atI vs i = some v ∧ Dq K G v d := by
  unfold atI at ha ⊢
  rw [dpAll_len h]
  cases e : ixN ds.length i with
  | none => rw [e] at ha; cases ha
  | some j =>
    rw [e] at ha
    obtain ⟨v, h1, h2⟩ := dpAll_get h ha
    exact ⟨v, h1, h2⟩
theorem ev_ixL [Tb] {i : Int} (hi : atI ds i = some d) (ha : Ev ta σ G M M1 (DD K (.list ds))) (hb : Ev tb σ G M1 M2 (DD K (.int i))) : Ev (tOp (rIxL K) ta tb) σ G M M2 (DD K d) := ev_op mo_dd ha hb fun x y G0 H s k hx hy Q q => by
  obtain ⟨a, vs, rfl, h1, h2⟩ := dp_list hx
  cases hy
  obtain ⟨v, h3, h4⟩ := atI_of h2 hi
  exact ⟨a, vs, i, v, rfl, rfl, .inl (.inl (k.g _ _ h1)), h3, q v G0 H (Same.refl _) k h4⟩
theorem ev_ixT [Tb] {i : Int} (hi : atI ds i = some d) (ha : Ev ta σ G M M1 (DD K (.tuple ds))) (hb : Ev tb σ G M1 M2 (DD K (.int i))) : Ev (tOp (rIxT K) ta tb) σ G M M2 (DD K d) := ev_op mo_dd ha hb fun x y G0 H s k hx hy Q q => by
  obtain ⟨a, vs, rfl, h1, h2⟩ := dp_tuple hx
  cases hy
  obtain ⟨v, h3, h4⟩ := atI_of h2 hi
  exact ⟨a, vs, i, v, rfl, rfl, sqT_up k.g h1, h3, q v G0 H (Same.refl _) k h4⟩
/-- an item of a list of one's own (its values told) -/
theorem ev_ixO [Tb] {i : Int} {p : Addr} {vs : List V} (ha : Ev ta σ G M M1 (OW p)) (hb : Ev tb σ G M1 M2 (DD K (.int i))) (hp : M2 p = some (.lst vs)) (hv : DqAll K G vs ds) (hi : atI ds i = some d) : Ev (tOp (rIxL K) ta tb) σ G M M2 (DD K d) := ev_op mo_ow ha hb fun x y G0 H s k hx hy Q q => by
  cases hx
  cases hy
  obtain ⟨v, h3, h4⟩ := atI_of hv hi
  exact ⟨p, vs, i, v, rfl, rfl, .inl (.inl (k.m _ _ hp)), h3, q v G0 H (Same.refl _) k (dp_up s d h4)⟩
def cut {α : Type} (xs : List α) (lo hi : Option Int) : List α := (xs.drop (HT.sIx xs.length 0 lo)).take (HT.sIx xs.length xs.length hi - HT.sIx xs.length 0 lo)
theorem cut_of {G : Hp} {vs : List V} {lo hi : Option Int} (h : DqAll K G vs ds) : DqAll K G (cutV vs lo hi) (cut ds lo hi) := by
  unfold cutV cut
  rw [dpAll_len h]
  exact dpAll_take _ (dpAll_drop _ h)
theorem cut_map {α β : Type} {f : α → β} {xs : List α} {lo hi : Option Int} : cut (xs.map f) lo hi = (cut xs lo hi).map f := by
  unfold cut
  rw [List.length_map, ← List.map_drop, ← List.map_take]
theorem eo_none [Tb] : EvO tNoPart σ G M M none := fun G0 H _ k Q q => q G0 H (Same.refl _) k
theorem eo_some [Tb] {i : Int} (h : Ev te σ G M M1 (DD K (.int i))) : EvO (tPart te) σ G M M1 (some i) := fun G0 H s k Q q => h G0 H s k _ fun v G1 H1 s1 k1 hv => by
  cases hv
  exact ⟨i, rfl, q G1 H1 s1 k1⟩
end
end Kx
end
section
set_option maxHeartbeats 2000000
namespace Kx
open PySem L2
section
variable {K : PySem.W.Frag} {σ : St} {G G' M M1 M2 M3 : Hp} {ta tb te tc : TE} {P P1 P2 : VP} {d e : Dat} {ds es : List Dat}
theorem ev_slT [Tb] {tl th : TO} {lo hi : Option Int} (h : Ev te σ G M M (DD K (.tuple ds))) (h1 : EvO tl σ G M M lo) (h2 : EvO th σ G M M hi) : Ev (tSl (rSlF K) te tl th) σ G M M (DD K (.tuple (cut ds lo hi))) := fun G0 H s k Q q =>
  h G0 H s k _ fun x G1 H1 s1 k1 hx => h1 G1 H1 (s.trans s1) k1 _ fun G2 H2 s2 k2 => h2 G2 H2 ((s.trans s1).trans s2) k2 _ fun G3 H3 s3 k3 => by
    have s13 := s2.trans s3
    have hx3 := dp_up s13 _ hx
    obtain ⟨a, vs, rfl, ha, hb⟩ := dp_tuple hx3
    refine ⟨a, vs, rfl, sqT_up k3.g ha, fun hw => ?_, fun _ => newT (s1.trans s13) k3 (cut_of hb) q⟩
    have e1 : cut ds lo hi = ds := by
      unfold cut
      rw [← dpAll_len hb, hw.1, hw.2, List.drop_zero, Nat.sub_zero, dpAll_len hb, List.take_length]
    rw [e1] at q
    exact q _ G3 H3 (s1.trans s13) k3 hx3
theorem el_cat [Tb] (hl : ds.length + es.length ≤ sizeLine) (ha : Ev ta σ G M M1 (DD K (.list ds))) (hb : Ev tb σ G M1 M2 (DD K (.list es))) : EvL K (tOp rCat ta tb) σ G M M2 (ds ++ es) := el_op mo_dd ha hb fun x y G0 H s k hx hy Q q => by
  obtain ⟨a, vs, rfl, ha, hb⟩ := dp_list hx
  obtain ⟨b, ws, rfl, hc, hd⟩ := dp_list hy
  exact ⟨a, b, vs, ws, rfl, rfl, k.g _ _ ha, k.g _ _ hc, by rw [dpAll_len hb, dpAll_len hd]; exact hl, newL (Same.refl _) k (dpAll_app hb hd) q⟩
def rLen (K : PySem.W.Frag) : List V → Hp → VK → Prop := fun xs H Q => ∃ p ys, xs = [.ref p] ∧ (SqL K H p ys ∨ SqT K H p ys) ∧ Q (.int ys.length) H
theorem one_of {R : List V → Hp → Prop} {xs : List V} {G : Hp} (h : conP P nilP xs G) : ∃ v, xs = [v] ∧ P v G := by
  obtain ⟨v, r, rfl, hp, hr⟩ := h
  cases hr
  exact ⟨v, rfl, hp⟩
theorem ev_tupL [Tb] (ha : EvA (tCons ta tNil) σ G M M1 (conP (DD K (.list ds)) nilP)) : Ev (tCB (rTupOf K) (tCons ta tNil)) σ G M M1 (DD K (.tuple ds)) := ev_cb ha fun xs G0 H s k hx Q q => by
  obtain ⟨v, rfl, hv⟩ := one_of (R := nilP) hx
  obtain ⟨a, vs, rfl, ha, hb⟩ := dp_list hv
  exact ⟨a, vs, rfl, .inl ⟨.inl (.inl (k.g _ _ ha)), newT (Same.refl _) k hb q⟩⟩
theorem ev_tupO [Tb] {p : Addr} {vs : List V} (hp : M1 p = some (.lst vs)) (hd : DqAll K G vs ds) (ha : EvA (tCons ta tNil) σ G M M1 (conP (OW p) nilP)) : Ev (tCB (rTupOf K) (tCons ta tNil)) σ G M M1 (DD K (.tuple ds)) := ev_cb ha fun xs G0 H s k hx Q q => by
  obtain ⟨v, rfl, hv⟩ := one_of (R := nilP) hx
  cases hv
  exact ⟨p, vs, rfl, .inl ⟨.inl (.inl (k.m _ _ hp)), newT (Same.refl _) k (dpAll_up s _ hd) q⟩⟩
theorem ev_lenL [Tb] (ha : EvA (tCons ta tNil) σ G M M1 (conP (DD K (.list ds)) nilP)) : Ev (tCB (rLen K) (tCons ta tNil)) σ G M M1 (DD K (.int (ds.length : Int))) := ev_cb ha fun xs G0 H s k hx Q q => by
  obtain ⟨v, rfl, hv⟩ := one_of (R := nilP) hx
  obtain ⟨a, vs, rfl, ha, hb⟩ := dp_list hv
  refine ⟨a, vs, rfl, .inl (.inl (.inl (k.g _ _ ha))), q _ G0 H (Same.refl _) k ?_⟩
  rw [dpAll_len hb]
  exact .int _
theorem ev_lenT [Tb] (ha : EvA (tCons ta tNil) σ G M M1 (conP (DD K (.tuple ds)) nilP)) : Ev (tCB (rLen K) (tCons ta tNil)) σ G M M1 (DD K (.int (ds.length : Int))) := ev_cb ha fun xs G0 H s k hx Q q => by
  obtain ⟨v, rfl, hv⟩ := one_of (R := nilP) hx
  obtain ⟨a, vs, rfl, ha, hb⟩ := dp_tuple hv
  refine ⟨a, vs, rfl, .inr (sqT_up k.g ha), q _ G0 H (Same.refl _) k ?_⟩
  rw [dpAll_len hb]
  exact .int _
theorem ev_allL [Tb] {bs : List Bool} (ha : EvA (tCons ta tNil) σ G M M1 (conP (DD K (.list (bs.map Dat.bool))) nilP)) : Ev (tCB (rAll K) (tCons ta tNil)) σ G M M1 (DD K (.bool (bs.all id))) := ev_cb ha fun xs G0 H s k hx Q q => by
  obtain ⟨v, rfl, hv⟩ := one_of (R := nilP) hx
  obtain ⟨a, vs, rfl, ha, hb⟩ := dp_list hv
  rw [dpAll_bls hb] at ha
  exact ⟨a, bs, rfl, .inl (.inl (k.g _ _ ha)), q _ G0 H (Same.refl _) k (.bl _)⟩
def rInt1 : List V → Hp → VK → Prop := fun xs H Q => (∃ i, xs = [.int i] ∧ Q (.int i) H) ∨ ∃ k, xs = [.bl k] ∧ Q (.int (if k then 1 else 0)) H
theorem ev_intB [Tb] {b : Bool} (ha : EvA (tCons ta tNil) σ G M M1 (conP (DD K (.bool b)) nilP)) : Ev (tCB rInt1 (tCons ta tNil)) σ G M M1 (DD K (.int (if b then 1 else 0))) := ev_cb ha fun xs G0 H s k hx Q q => by
  obtain ⟨v, rfl, hv⟩ := one_of (R := nilP) hx
  cases hv
  exact .inr ⟨b, rfl, q _ G0 H (Same.refl _) k (.int _)⟩
def rAbs : List V → Hp → VK → Prop := fun xs H Q => ∃ i, xs = [.int i] ∧ Q (.int (if i < 0 then -i else i)) H
theorem ev_abs [Tb] {i : Int} (ha : EvA (tCons ta tNil) σ G M M1 (conP (DD K (.int i)) nilP)) : Ev (tCB rAbs (tCons ta tNil)) σ G M M1 (DD K (.int (if i < 0 then -i else i))) := ev_cb ha fun xs G0 H s k hx Q q => by
  obtain ⟨v, rfl, hv⟩ := one_of (R := nilP) hx
  cases hv
  exact ⟨i, rfl, q _ G0 H (Same.refl _) k (.int _)⟩
def rMaxI : List V → Hp → VK → Prop := fun xs H Q => ∃ i j, xs = [.int i, .int j] ∧ Q (.int (if j > i then j else i)) H
def rMinI : List V → Hp → VK → Prop := fun xs H Q => ∃ i j, xs = [.int i, .int j] ∧ Q (.int (if j < i then j else i)) H
theorem two_of {xs : List V} {G : Hp} (h : conP P (conP P1 nilP) xs G) : ∃ v w, xs = [v, w] ∧ P v G ∧ P1 w G := by
  obtain ⟨v, r, rfl, hp, hr⟩ := h
  obtain ⟨w, r, rfl, hq, hr⟩ := hr
  cases hr
  exact ⟨v, w, rfl, hp, hq⟩
theorem ev_max2 [Tb] {i j : Int} (ha : EvA (tCons ta (tCons tb tNil)) σ G M M1 (conP (DD K (.int i)) (conP (DD K (.int j)) nilP))) : Ev (tCB rMaxI (tCons ta (tCons tb tNil))) σ G M M1 (DD K (.int (if j > i then j else i))) := ev_cb ha fun xs G0 H s k hx Q q => by
  obtain ⟨v, w, rfl, hv, hw⟩ := two_of hx
  cases hv; cases hw
  exact ⟨i, j, rfl, q _ G0 H (Same.refl _) k (.int _)⟩
theorem ev_min2 [Tb] {i j : Int} (ha : EvA (tCons ta (tCons tb tNil)) σ G M M1 (conP (DD K (.int i)) (conP (DD K (.int j)) nilP))) : Ev (tCB rMinI (tCons ta (tCons tb tNil))) σ G M M1 (DD K (.int (if j < i then j else i))) := ev_cb ha fun xs G0 H s k hx Q q => by
  obtain ⟨v, w, rfl, hv, hw⟩ := two_of hx
  cases hv; cases hw
  exact ⟨i, j, rfl, q _ G0 H (Same.refl _) k (.int _)⟩
def rDivmod : List V → Hp → VK → Prop := fun xs H Q => ∃ i j, xs = [.int i, .int j] ∧ CDivW i j ∧ ∀ p, H p = none → Q (.ref p) (upd H p (.tup [.int (i / j), .int (i % j)]))
theorem ev_divmod [Tb] {i j : Int} (hc : CDivW i j) (ha : EvA (tCons ta (tCons tb tNil)) σ G M M1 (conP (DD K (.int i)) (conP (DD K (.int j)) nilP))) : Ev (tCB rDivmod (tCons ta (tCons tb tNil))) σ G M M1 (DD K (.rtup [.int (i / j), .int (i % j)])) := ev_cb ha fun xs G0 H s k hx Q q => by
  obtain ⟨v, w, rfl, hv, hw⟩ := two_of hx
  cases hv; cases hw
  exact ⟨i, j, rfl, hc, newR (Same.refl _) k (.cons (.int _) (.cons (.int _) .nil)) q⟩
/-! ### isinstance -/
def tyD : Dat → String
  | .none => "NoneType"
  | .bool _ => "bool"
  | .int _ => "int"
  | .str _ => "str"
  | .list _ => "list"
  | .tuple _ => "tuple"
  | .rtup _ => "tuple"
  | .dK _ _ => "dict"
  | .dT _ _ => "dict"
  | .ins _ _ _ => "object"
def isIns : Dat → Bool
  | .ins _ _ _ => true
  | .dT _ _ => true
  | _ => false
/-- what the library asks of an own class -/
structure ClsOk (K : PySem.W.Frag) (C : Addr) : Prop where
  cl : Cls K C
  ha : PySem.W.findIn K (.ref C) "__class__" = some (some (.builtin "object.__class__"))
  hn : PySem.W.specialIn K (.builtin "object.__class__") "__get__" = some (some (.builtin "getset_descriptor.__get__"))
  htk : PySem.W.takesIn K (.builtin "object.__class__") = some true
  hm : PySem.W.mroIn K C (.type "object") = some true
/-- the classes of the instances in d are known -/
def tyV (K : PySem.W.Frag) : Dat → Value
  | .ins C _ _ => .ref (clsAt K C)
  | d => .type (tyD d)
theorem tyx_of {H : Hp} {v : V} (s : Same G H) (hc : ∀ C ns xs, d = .ins C ns xs → ClsOk K (clsAt K C)) (hT : ∀ ks xs, d ≠ .dT ks xs) (h : Dq K G v d) : TyX K H v (tyV K d) := by
  cases h with
  | non => exact .base .non
  | bl b => exact .base (.bl b)
  | int i => exact .base (.int i)
  | str x => exact .base (.str _)
  | lst a b => exact .base (.lst (s _ _ a))
  | tup a b =>
    rcases a with ⟨o, a, _⟩ | ⟨o, its, n, h1, h2, _⟩
    · exact .fTuple (s _ _ a)
    · exact .kTuple h1 h2
  | rtup a b => exact .base (.tup (s _ _ a))
  | dK a _ _ _ =>
    rcases a with a | ⟨o, a⟩
    · exact .base (.dK (s _ _ a))
    · exact .fDict (s _ _ a)
  | dT a _ _ _ => exact absurd rfl (hT _ _)
  | ins a b c =>
    have q := hc _ _ _ rfl
    exact .base (.ins (s _ _ a) q.cl q.ha q.hn q.htk q.hm)
theorem tyV_of (h : isIns d = false) : tyV K d = .type (tyD d) := by
  cases d <;> first | rfl | cases h
theorem noDT (h : isIns d = false) : ∀ ks xs, d ≠ .dT ks xs := fun ks xs e => by subst e; cases h
theorem noIns (h : isIns d = false) : ∀ C ns xs, d = .ins C ns xs → ClsOk K (clsAt K C) := fun C ns xs e => by subst e; cases h
/-- a class's name among the arguments -/
abbrev CLS (n : String) : VP := fun v _ => v = .ty n
theorem mo_cls {n : String} : Mo (CLS n) := fun _ _ _ _ h => h
theorem ev_cls [Tb] {n : String} : Ev (tC (.ty n)) σ G M M (CLS n) := fun G0 H _ k Q q => q _ G0 H (Same.refl _) k rfl
theorem ev_isi [Tb] {n : String} {b : Bool} (hi : isIns d = false) (hb : kitB (tyD d) n = some b) (ha : EvA (tCons ta (tCons tb tNil)) σ G M M1 (conP (DD K d) (conP (CLS n) nilP))) : Ev (tCB (rIsi K) (tCons ta (tCons tb tNil))) σ G M M1 (DD K (.bool b)) := ev_cb ha fun xs G0 H s k hx Q q => by
  obtain ⟨v, w, rfl, hv, hw⟩ := two_of hx
  cases hw
  exact ⟨v, _, _, _, b, rfl, .ty n, tyV_of hi ▸ tyx_of k.g (noIns hi) (noDT hi) hv, kit_ty hb, q _ G0 H (Same.refl _) k (.bl _)⟩
/-! ### truth -/
theorem et_B [Tb] {b : Bool} (h : Ev te σ G M M1 (DD K (.bool b))) : EvT (tB te) σ G M M1 b := fun G0 H s k Q q => h G0 H s k _ fun v G1 H1 s1 k1 hv => by
  cases hv
  exact ⟨b, rfl, q G1 H1 s1 k1⟩
theorem et_test [Tb] {b : Bool} (h : Ev te σ G M M1 (DD K (.bool b))) : EvT (tTest te) σ G M M1 b := fun G0 H s k Q q => h G0 H s k _ fun v G1 H1 s1 k1 hv => by
  cases hv
  exact ⟨b, rfl, q G1 H1 s1 k1⟩
theorem et_not [Tb] {t : TT} {b : Bool} (h : EvT t σ G M M1 b) : EvT (tNot t) σ G M M1 (!b) := fun G0 H s k Q q => h G0 H s k _ fun G1 H1 s1 k1 => q G1 H1 s1 k1
theorem et_andG [Tb] {t u : TT} {a c : Bool} (h : EvT t σ G M M1 a) (h1 : a = true → EvT u σ G M1 M2 c) (h2 : a = false → c = false ∧ M2 = M1) : EvT (tAnd t u) σ G M M2 c := fun G0 H s k Q q => h G0 H s k _ fun G1 H1 s1 k1 => by
  cases a with
  | true => exact iteT (h1 rfl G1 H1 (s.trans s1) k1 Q fun G2 H2 s2 k2 => q G2 H2 (s1.trans s2) k2)
  | false =>
    obtain ⟨rfl, rfl⟩ := h2 rfl
    exact iteF (q G1 H1 s1 k1)
theorem et_orG [Tb] {t u : TT} {a c : Bool} (h : EvT t σ G M M1 a) (h1 : a = false → EvT u σ G M1 M2 c) (h2 : a = true → c = true ∧ M2 = M1) : EvT (tOr t u) σ G M M2 c := fun G0 H s k Q q => h G0 H s k _ fun G1 H1 s1 k1 => by
  cases a with
  | false => exact iteF (h1 rfl G1 H1 (s.trans s1) k1 Q fun G2 H2 s2 k2 => q G2 H2 (s1.trans s2) k2)
  | true =>
    obtain ⟨rfl, rfl⟩ := h2 rfl
    exact iteT (q G1 H1 s1 k1)
theorem et_and [Tb] {t u : TT} {a b : Bool} (h : EvT t σ G M M1 a) (h1 : a = true → EvT u σ G M1 M1 b) : EvT (tAnd t u) σ G M M1 (a && b) := et_andG h (fun e => by rw [e]; exact h1 e) fun e => by rw [e]; exact ⟨rfl, rfl⟩
theorem et_or [Tb] {t u : TT} {a b : Bool} (h : EvT t σ G M M1 a) (h1 : a = false → EvT u σ G M1 M1 b) : EvT (tOr t u) σ G M M1 (a || b) := et_orG h (fun e => by rw [e]; exact h1 e) fun e => by rw [e]; exact ⟨rfl, rfl⟩
theorem ev_andG [Tb] {a c : Bool} (h : Ev ta σ G M M1 (DD K (.bool a))) (h1 : a = true → Ev tb σ G M1 M2 (DD K (.bool c))) (h2 : a = false → c = false ∧ M2 = M1) : Ev (tAndV ta tb) σ G M M2 (DD K (.bool c)) := fun G0 H s k Q q => h G0 H s k _ fun v G1 H1 s1 k1 hv => by
  cases hv
  refine ⟨a, rfl, ?_⟩
  cases a with
  | true => exact iteT (h1 rfl G1 H1 (s.trans s1) k1 Q fun v G2 H2 s2 k2 => q v G2 H2 (s1.trans s2) k2)
  | false =>
    obtain ⟨rfl, rfl⟩ := h2 rfl
    exact iteF (q _ G1 H1 s1 k1 (.bl _))
theorem ev_orG [Tb] {a c : Bool} (h : Ev ta σ G M M1 (DD K (.bool a))) (h1 : a = false → Ev tb σ G M1 M2 (DD K (.bool c))) (h2 : a = true → c = true ∧ M2 = M1) : Ev (tOrV ta tb) σ G M M2 (DD K (.bool c)) := fun G0 H s k Q q => h G0 H s k _ fun v G1 H1 s1 k1 hv => by
  cases hv
  refine ⟨a, rfl, ?_⟩
  cases a with
  | false => exact iteF (h1 rfl G1 H1 (s.trans s1) k1 Q fun v G2 H2 s2 k2 => q v G2 H2 (s1.trans s2) k2)
  | true =>
    obtain ⟨rfl, rfl⟩ := h2 rfl
    exact iteT (q _ G1 H1 s1 k1 (.bl _))
theorem ev_and [Tb] {a b : Bool} (h : Ev ta σ G M M1 (DD K (.bool a))) (h1 : a = true → Ev tb σ G M1 M1 (DD K (.bool b))) : Ev (tAndV ta tb) σ G M M1 (DD K (.bool (a && b))) := ev_andG h (fun e => by rw [e]; exact h1 e) fun e => by rw [e]; exact ⟨rfl, rfl⟩
theorem ev_not [Tb] {a : Bool} (h : Ev ta σ G M M1 (DD K (.bool a))) : Ev (tNotV ta) σ G M M1 (DD K (.bool (!a))) := fun G0 H s k Q q => h G0 H s k _ fun v G1 H1 s1 k1 hv => by
  cases hv
  exact ⟨a, rfl, q _ G1 H1 s1 k1 (.bl _)⟩
theorem ev_if [Tb] {t : TT} {b : Bool} (h : EvT t σ G M M1 b) (h1 : b = true → Ev ta σ G M1 M2 P) (h2 : b = false → Ev tb σ G M1 M2 P) : Ev (tIf t ta tb) σ G M M2 P := fun G0 H s k Q q => h G0 H s k _ fun G1 H1 s1 k1 => by
  cases b with
  | true => exact iteT (h1 rfl G1 H1 (s.trans s1) k1 Q fun v G2 H2 s2 k2 => q v G2 H2 (s1.trans s2) k2)
  | false => exact iteF (h2 rfl G1 H1 (s.trans s1) k1 Q fun v G2 H2 s2 k2 => q v G2 H2 (s1.trans s2) k2)
/-- a <= b <= c of whole numbers, and its kin -/
theorem ev_chainI [Tb] {g g' : Int → Int → Bool} {i j l : Int} (ha : Ev ta σ G M M1 (DD K (.int i))) (hb : Ev tb σ G M1 M2 (DD K (.int j))) (hc : Ev tc σ G M2 M2 (DD K (.int l))) :
    Ev (tChain (rI0 fun i j => .bl (g i j)) (rI0 fun i j => .bl (g' i j)) ta tb tc) σ G M M2 (DD K (.bool (g i j && g' j l))) := fun G0 H s k Q q =>
  ha G0 H s k _ fun x G1 H1 s1 k1 hx => hb G1 H1 (s.trans s1) k1 _ fun y G2 H2 s2 k2 hy => by
    cases hx; cases hy
    refine ⟨i, j, rfl, rfl, g i j, rfl, ?_⟩
    cases e : g i j with
    | true =>
      refine iteT (hc G2 H2 ((s.trans s1).trans s2) k2 _ fun z G3 H3 s3 k3 hz => ?_)
      cases hz
      refine ⟨j, l, rfl, rfl, ?_⟩
      rw [e] at q
      exact q _ G3 H3 ((s1.trans s2).trans s3) k3 (.bl _)
    | false =>
      rw [e] at q
      exact iteF (q _ G2 H2 (s1.trans s2) k2 (.bl _))
/-! ### calls -/
/-- the promise of a def that leaves all as it is: m tells its value -/
def spP [Tb] {α ρ : Type} (args : α → List V → Hp → Prop) (m : α → Option ρ) (res : ρ → VP) : Sp := fun vs H Q _ =>
  ∃ (G M : Hp) (a : α) (r : ρ), Ok G M H ∧ args a vs G ∧ m a = some r ∧ ∀ v G' H', Same G G' → Ok G' M H' → res r v G' → Q v H'
/-- the store of the draws -/
abbrev Sto := Int × Int × Int
def sto (z : Sto) : HO := .lst [.int z.1, .int z.2.1, .int z.2.2]
/-- the promise of a def that draws from the store -/
def spD [Tb] {α ρ : Type} (args : α → List V → Hp → Prop) (m : α → Sto → Option (ρ × Sto)) (res : ρ → VP) : Sp := fun vs H Q _ =>
  ∃ (G M : Hp) (s : Addr) (z z' : Sto) (a : α) (r : ρ) (ws : List V), vs = .ref s :: ws ∧ Ok G M H ∧ M s = some (sto z) ∧ args a ws G ∧ m a z = some (r, z') ∧ ∀ v G' H', Same G G' → Ok G' (upd M s (sto z')) H' → res r v G' → Q v H'
theorem ev_callP [Tb] {α ρ : Type} {args : α → List V → Hp → Prop} {m : α → Option ρ} {res : ρ → VP} {E : XK} {t : TA} {a : α} {r : ρ} (hm : m a = some r) (ha : EvA t σ G M M1 (args a)) : Ev (tCall (spP args m res) [] E t) σ G M M1 (res r) := fun G0 H s k Q q =>
  ha G0 H s k _ fun vs G1 H1 s1 k1 hv => by
    rw [List.append_nil]
    exact ⟨G1, M1, a, r, k1, hv, hm, fun v G2 H2 s2 k2 hr => q v G2 H2 (s1.trans s2) k2 hr⟩
theorem ev_callD [Tb] {α ρ : Type} {args : α → List V → Hp → Prop} {m : α → Sto → Option (ρ × Sto)} {res : ρ → VP} {E : XK} {t : TA} {a : α} {r : ρ} {s : Addr} {z z' : Sto} (hs : M1 s = some (sto z)) (hm : m a z = some (r, z')) (ha : EvA t σ G M M1 (conP (OW s) (args a))) : Ev (tCall (spD args m res) [] E t) σ G M (upd M1 s (sto z')) (res r) := fun G0 H s k Q q =>
  ha G0 H s k _ fun vs G1 H1 s1 k1 hv => by
    obtain ⟨v, ws, rfl, rfl, hw⟩ := hv
    rw [List.append_nil]
    exact ⟨G1, M1, _, z, z', a, r, ws, rfl, k1, hs, hw, hm, fun v G2 H2 s2 k2 hr => q v G2 H2 (s1.trans s2) k2 hr⟩
end
end Kx
end
section
set_option maxHeartbeats 2000000
namespace Kx
open PySem L2
/-! ### the rules under these names -/
section
variable {X : Cx}
theorem cl_len : CallR X (.builtin "len") (rLen X.K) := call_len_seq
theorem cl_tuple : CallR X (.type "tuple") (rTupOf X.K) := cl_tupleF
theorem cl_int : CallR X (.type "int") rInt1 := call_int1
theorem cl_abs : CallR X (.builtin "abs") rAbs := call_abs
theorem cl_max2 (h : X.calm = true) : CallR X (.builtin "max") rMaxI := call_max2 h
theorem cl_min2 (h : X.calm = true) : CallR X (.builtin "min") rMinI := call_min2 h
theorem cl_divmod : CallR X (.builtin "divmod") rDivmod := fun pins s σ H xs us Q I r h => by
  obtain ⟨i, j, rfl, hc, q⟩ := h
  exact call_divmodW pins s σ H _ us Q I r ⟨i, j, rfl, ⟨hc.1, PyProof.noPylong_of_log2 hc.2⟩, q⟩
end
section
variable {K : PySem.W.Frag} {σ : St} {G G' M M1 M2 M3 : Hp} {ta tb te tc : TE} {P P1 P2 : VP} {d e : Dat} {ds es : List Dat}
/-! ### what is walked -/
def Walks [Tb] (K : PySem.W.Frag) (J : It) (G : Hp) (ds : List Dat) : Prop :=
  ∃ (Y : Nat → Hp → V → Hp → Prop) (Gd : Hp → Prop), Walk J ds.length Gd Y ∧ (∀ H, Same G H → Gd H) ∧
    ∀ i d H x H' G2 M2, ds[i]? = some d → Same G G2 → Ok G2 M2 H → Y i H x H' → ∃ G3, Same G2 G3 ∧ Ok G3 M2 H' ∧ Dq K G3 x d
def Src [Tb] (K : PySem.W.Frag) (wi : TI) (σ : St) (G M M' : Hp) (ds : List Dat) : Prop :=
  ∀ G0 H, Same G G0 → Ok G0 M H → ∀ R : It → Hp → Prop, (∀ J G' H', Same G0 G' → Ok G' M' H' → Walks K J G' ds → R J H') → wi σ H R
theorem dqAll_at {vs : List V} {i : Nat} {x : V} (h : DqAll K G vs ds) (hx : vs[i]? = some x) (hd : ds[i]? = some d) : Dq K G x d := by
  obtain ⟨v, h1, h2⟩ := dpAll_get h hd
  rw [hx] at h1
  cases h1
  exact h2
theorem src_list [Tb] (h : Ev ta σ G M M1 (DD K (.list ds))) : Src K (iList K ta) σ G M M1 ds := fun G0 H s k R q =>
  h G0 H s k _ fun v G1 H1 s1 k1 hv => by
    obtain ⟨a, vs, rfl, h1, h2⟩ := dp_list hv
    refine ⟨a, rfl, ⟨vs, .inl (.inl (k1.g _ _ h1))⟩, q _ G1 H1 s1 k1 ?_⟩
    refine ⟨_, _, (dpAll_len h2) ▸ (walk_list (K := K) (a := a) (xs := vs)), fun H s => .inl (.inl (s _ _ h1)), fun i d H x H' G2 M2 hd s2 k2 y => ?_⟩
    obtain ⟨rfl, hx⟩ := y
    exact ⟨G2, Same.refl _, k2, dp_up s2 _ (dqAll_at h2 hx hd)⟩
theorem src_tup [Tb] (h : Ev ta σ G M M1 (DD K (.tuple ds))) : Src K (iTup K ta) σ G M M1 ds := fun G0 H s k R q =>
  h G0 H s k _ fun v G1 H1 s1 k1 hv => by
    obtain ⟨a, vs, rfl, h1, h2⟩ := dp_tuple hv
    refine ⟨a, rfl, ⟨vs, sqT_up k1.g h1⟩, q _ G1 H1 s1 k1 ?_⟩
    refine ⟨_, _, (dpAll_len h2) ▸ (walk_tup (K := K) (a := a) (xs := vs)), fun H s => sqT_up s h1, fun i d H x H' G2 M2 hd s2 k2 y => ?_⟩
    obtain ⟨rfl, hx⟩ := y
    exact ⟨G2, Same.refl _, k2, dp_up s2 _ (dqAll_at h2 hx hd)⟩
/-- lo, lo + 1, .. below hi -/
def irange (lo hi : Int) : List Int := (List.range (hi - lo).toNat).map fun k : Nat => lo + (k : Int)
theorem irange_len (lo hi : Int) : (irange lo hi).length = (hi - lo).toNat := by
  unfold irange
  rw [List.length_map, List.length_range]
theorem irange_get {lo hi : Int} {i : Nat} (h : i < (hi - lo).toNat) : (irange lo hi)[i]? = some (lo + (i : Int)) := by
  unfold irange
  rw [List.getElem?_map, List.getElem?_range h]
  rfl
theorem walks_range [Tb] {lo hi : Int} {n : Nat} (e : n = (hi - lo).toNat) : Walks K (Itr lo n) G ((irange lo hi).map Dat.int) := by
  have el : ((irange lo hi).map Dat.int).length = n := by rw [List.length_map, irange_len, e]
  refine ⟨YFn fun i => .int (lo + i), fun _ => True, (by rw [el]; exact walk_range), fun H _ => True.intro, fun i d H x H' G2 M2 hd s2 k2 y => ?_⟩
  obtain ⟨rfl, rfl⟩ := y
  have hi : i < (hi - lo).toNat := by
    rw [← e, ← el]
    exact (List.getElem?_eq_some_iff.mp hd).1
  rw [List.getElem?_map, irange_get hi] at hd
  cases hd
  exact ⟨G2, Same.refl _, k2, .int _⟩
theorem src_range1 [Tb] {ta : TA} {n : Int} (h1 : -(2 ^ 62) ≤ n) (h2 : n < 2 ^ 62) (h : EvA ta σ G M M1 (conP (DD K (.int n)) nilP)) : Src K (iRng1 ta) σ G M M1 ((irange 0 n).map Dat.int) := fun G0 H s k R q =>
  h G0 H s k _ fun vs G1 H1 s1 k1 hv => by
    obtain ⟨v, rfl, hw⟩ := one_of (R := nilP) hv
    cases hw
    exact ⟨n, rfl, h1, h2, q _ G1 H1 s1 k1 (walks_range (by rw [Int.sub_zero]))⟩
theorem sok_sign {z : Str} {c : Nat} (h : sok z = true) (hc : c ∈ z.cps.toList) : sok ⟨#[c]⟩ = true := by
  unfold sok PyData.strOk at h ⊢
  rw [Array.all_eq_true'] at h
  simp only [List.all_toArray, List.all_cons, List.all_nil, Bool.and_true, decide_eq_true_eq]
  have := h c (by simpa using hc)
  simpa using this
theorem src_str [Tb] {z : Str} (h : Ev ta σ G M M1 (DD K (.str z))) : Src K (iStr ta) σ G M M1 (z.cps.toList.map fun c => Dat.str ⟨#[c]⟩) := fun G0 H s k R q =>
  h G0 H s k _ fun v G1 H1 s1 k1 hv => by
    have hs : sok z = true := by
      cases hv with
      | str h => exact h
    cases hv
    refine ⟨z, rfl, q _ G1 H1 s1 k1 ?_⟩
    have el : (z.cps.toList.map fun c => Dat.str ⟨#[c]⟩).length = z.cps.size := by simp
    refine ⟨_, _, el ▸ walk_str, fun H _ => True.intro, fun i d H x H' G2 M2 hd s2 k2 y => ?_⟩
    obtain ⟨rfl, c, hc, rfl⟩ := y
    have e1 : (z.cps.toList)[i]? = some c := by simpa using hc
    rw [List.getElem?_map, e1] at hd
    cases hd
    exact ⟨G2, Same.refl _, k2, .str (sok_sign hs (List.mem_of_getElem? e1))⟩
theorem walks_pair [Tb] {J : It} {n : Nat} {xs ys : Nat → Option V} {Gd : Hp → Prop} (w : Walk J n Gd (YPair xs ys)) (hn : ds.length = n) (hG : ∀ H, Same G H → Gd H)
    (hd : ∀ (i : Nat) (d : Dat) (x y : V), ds[i]? = some d → xs i = some x → ys i = some y → ∃ d1 d2, d = .rtup [d1, d2] ∧ Dq K G x d1 ∧ Dq K G y d2) : Walks K J G ds := by
  refine ⟨_, _, hn ▸ w, hG, fun i d H x H' G2 M2 hi s2 k2 y => ?_⟩
  obtain ⟨T, x, y, rfl, hT, rfl, hx, hy⟩ := y
  obtain ⟨d1, d2, rfl, h1, h2⟩ := hd i d x y hi hx hy
  have gT := Same.none k2.g hT
  have s3 : Same G2 (upd G2 T (.tup [x, y])) := Same.new gT
  exact ⟨upd G2 T (.tup [x, y]), s3, k2.newG _ hT, .rtup upd_same (.cons (dp_up (s2.trans s3) _ h1) (.cons (dp_up (s2.trans s3) _ h2) .nil))⟩
def enumD (ds : List Dat) : List Dat := ds.mapIdx fun i d => .rtup [.int (i : Int), d]
theorem src_enumL [Tb] {ta : TA} (h : EvA ta σ G M M1 (conP (DD K (.list ds)) nilP)) : Src K (iEnum K ta) σ G M M1 (enumD ds) := fun G0 H s k R q =>
  h G0 H s k _ fun vs G1 H1 s1 k1 hv => by
    obtain ⟨v, rfl, hw⟩ := one_of (R := nilP) hv
    obtain ⟨a, vs, rfl, h1, h2⟩ := dp_list hw
    refine ⟨a, vs, rfl, .inl (.inl (k1.g _ _ h1)), q _ G1 H1 s1 k1 ?_⟩
    refine walks_pair (walk_enum (K := K) (a := a) (xs := vs)) (by simp [enumD, dpAll_len h2]) (fun H s => .inl (.inl (s _ _ h1))) fun i d x y hd hx hy => ?_
    cases hx
    unfold enumD at hd
    rw [List.getElem?_mapIdx] at hd
    cases e : ds[i]? with
    | none => rw [e] at hd; cases hd
    | some d' =>
      rw [e] at hd
      cases hd
      exact ⟨_, _, rfl, .int _, dqAll_at h2 hy e⟩
/-! ### targets -/
def Tg (g : TG) (v : V) (σ : St) (G : Hp) (F : St → Prop) : Prop := ∀ H Q, Same G H → (∀ σ2, F σ2 → Q σ2 H) → g v σ H Q
def Tgs (g : TGs) (vs : List V) (σ : St) (G : Hp) (F : St → Prop) : Prop := ∀ H Q, Same G H → (∀ σ2, F σ2 → Q σ2 H) → g vs σ H Q
theorem tg_name {i : Nat} {v : V} {F : St → Prop} (h : F (σ.set i (some v))) : Tg (gName i) v σ G F := fun _ _ _ q => q _ h
theorem tgs_nil {F : St → Prop} (h : F σ) : Tgs gNil [] σ G F := fun _ _ _ q => ⟨rfl, q _ h⟩
theorem tgs_cons {g : TG} {gs : TGs} {v : V} {vs : List V} {F : St → Prop} (h : Tg g v σ G fun σ2 => Tgs gs vs σ2 G F) : Tgs (gCons g gs) (v :: vs) σ G F := fun H Q s q =>
  ⟨v, vs, rfl, h H _ s fun σ2 h2 => h2 H _ s q⟩
theorem tg_tup {n : Nat} {gs : TGs} {v : V} {F : St → Prop} (hv : Dq K G v (.tuple ds)) (hn : ds.length = n) (h : ∀ vs, DqAll K G vs ds → Tgs gs vs σ G F) : Tg (gTup K n gs) v σ G F := fun H Q s q => by
  obtain ⟨a, vs, rfl, h1, h2⟩ := dp_tuple hv
  exact ⟨a, vs, rfl, sqT_up s h1, by rw [dpAll_len h2]; exact hn, h vs h2 H Q s q⟩
theorem tg_t2 {g1 g2 : TG} {v : V} {F : St → Prop} {d1 d2 : Dat} (hv : Dq K G v (.tuple [d1, d2])) (h : ∀ v1 v2, Dq K G v1 d1 → Dq K G v2 d2 → Tg g1 v1 σ G fun σ1 => Tg g2 v2 σ1 G F) : Tg (gTup K 2 (gCons g1 (gCons g2 gNil))) v σ G F :=
  tg_tup hv rfl fun vs hs => by
    cases hs with
    | cons a b =>
      cases b with
      | cons b c =>
        cases c
        exact tgs_cons fun H Q s q => h _ _ a b H Q s fun σ1 h1 => q σ1 (tgs_cons fun H' Q' s' q' => h1 H' Q' s' fun σ2 h2 => q' σ2 (tgs_nil h2))
theorem tg_t3 {g1 g2 g3 : TG} {v : V} {F : St → Prop} {d1 d2 d3 : Dat} (hv : Dq K G v (.tuple [d1, d2, d3])) (h : ∀ v1 v2 v3, Dq K G v1 d1 → Dq K G v2 d2 → Dq K G v3 d3 → Tg g1 v1 σ G fun σ1 => Tg g2 v2 σ1 G fun σ2 => Tg g3 v3 σ2 G F) : Tg (gTup K 3 (gCons g1 (gCons g2 (gCons g3 gNil)))) v σ G F :=
  tg_tup hv rfl fun vs hs => by
    cases hs with
    | cons a b =>
      cases b with
      | cons b c =>
        cases c with
        | cons c d =>
          cases d
          exact tgs_cons fun H Q s q => h _ _ _ a b c H Q s fun σ1 h1 => q σ1 (tgs_cons fun H' Q' s' q' => h1 H' Q' s' fun σ2 h2 => q' σ2 (tgs_cons fun H'' Q'' s'' q'' => h2 H'' Q'' s'' fun σ3 h3 => q'' σ3 (tgs_nil h3)))
/-! ### comprehensions -/
/-- one turn's test and element: b the test's answer, o what is put behind (none: nothing) -/
def LcB [Tb] (K : PySem.W.Frag) (tt : TT) (te : TE) (σ : St) (G M M' : Hp) (o : Option Dat) : Prop :=
  ∃ (M1 : Hp) (b : Bool), EvT tt σ G M M1 b ∧ (b = true → ∃ e, o = some e ∧ Ev te σ G M1 M' (DD K e)) ∧ (b = false → o = none ∧ M' = M1)
theorem lcb_yes [Tb] (h : Ev te σ G M M1 (DD K e)) : LcB K tYes te σ G M M1 (some e) := ⟨M, true, fun G0 H _ k Q q => q G0 H (Same.refl _) k, fun _ => ⟨e, rfl, h⟩, fun z => Bool.noConfusion z⟩
theorem lcb_if [Tb] {tt : TT} {b : Bool} {o : Option Dat} (h : EvT tt σ G M M1 b) (h1 : b = true → ∃ e, o = some e ∧ Ev te σ G M1 M2 (DD K e)) (h2 : b = false → o = none ∧ M2 = M1) : LcB K tt te σ G M M2 o := ⟨M1, b, h, h1, h2⟩
/-- the general form: mm tells what may be changed, by the turn -/
theorem el_lcG [Tb] {wi : TI} {g : TG} {tt : TT} {vs : List Nat} (src : Src K wi σ G M M1 ds) (os : List (Option Dat)) (mm : Nat → Hp) (hm0 : mm 0 = M1) (hmn : mm ds.length = M2) (hdom : ∀ i a, (mm i a).isSome = (M1 a).isSome) (hl : os.length = ds.length) (hz : ds.length ≤ sizeLine)
    (hs : ∀ (i : Nat) (d : Dat) (o : Option Dat) (D : Addr) (acc : List V) (G1 : Hp) (v : V), ds[i]? = some d → os[i]? = some o → M1 D = none → Same G G1 → Dq K G1 v d →
      Tg g v (wipe σ vs) G1 fun σ2 => wipe σ2 vs = wipe σ vs ∧ LcB K tt te σ2 G1 (upd (mm i) D (.lst acc)) (upd (mm (i + 1)) D (.lst acc)) o) :
    EvL K (tLc wi g tt te vs) σ G M M2 (os.filterMap id) := by
  intro G0 H s k Q q
  refine src G0 H s k _ fun J G1 H1 s1 k1 w => ?_
  obtain ⟨Y, Gd, w, hGd, hY⟩ := w
  intro D hD
  have mD : M1 D = none := Same.none k1.m hD
  have none_at : ∀ i, mm i D = none := fun i => by
    have := hdom i D
    rw [mD] at this
    cases e : mm i D with
    | none => rfl
    | some _ => rw [e] at this; cases this
  refine lc_it w (fun i H => ∃ G2 acc, Same G1 G2 ∧ Ok G2 (upd (mm i) D (.lst acc)) H ∧ DqAll K G2 acc ((os.take i).filterMap id)) ?_ ?_ ?_ ?_
  · refine ⟨G1, [], Same.refl _, ?_, .nil⟩
    rw [hm0]
    exact k1.newM _ hD
  · rintro i H2 _ ⟨G2, acc, s2, k2, _⟩
    exact hGd H2 (s2.trans k2.g)
  · rintro i x H2 H3 hi ⟨G2, acc, s2, k2, hacc⟩ y
    obtain ⟨d, hd⟩ : ∃ d, ds[i]? = some d := ⟨ds[i], List.getElem?_eq_getElem hi⟩
    obtain ⟨o, ho⟩ : ∃ o, os[i]? = some o := ⟨os[i]'(by omega), List.getElem?_eq_getElem (by omega)⟩
    obtain ⟨G3, s3, k3, hx⟩ := hY i d H2 x H3 G2 _ hd s2 k2 y
    refine hs i d o D acc G3 x hd ho mD (((s.trans s1).trans s2).trans s3) hx H3 _ k3.g ?_
    rintro σ2 ⟨hw, Mx, b, h1, h2, h3⟩
    refine ⟨hw, h1 G3 H3 (Same.refl _) k3 _ fun G4 H4 s4 k4 => ?_⟩
    have et : (os.take (i + 1)).filterMap id = (os.take i).filterMap id ++ o.toList := by
      rw [List.take_add_one, ho, List.filterMap_append]
      cases o <;> rfl
    cases b with
    | true =>
      obtain ⟨e, rfl, he⟩ := h2 rfl
      refine iteT (he G4 H4 s4 k4 _ fun z G5 H5 s5 k5 hz5 => ?_)
      refine ⟨acc, k5.m _ _ upd_same, ?_, ?_⟩
      · rw [dpAll_len hacc]
        refine Nat.lt_of_le_of_lt (List.length_filterMap_le _ _) ?_
        rw [List.length_take]
        omega
      · refine ⟨G5, acc ++ [z], ((s2.trans s3).trans s4).trans s5, ?_, ?_⟩
        · have := k5.chg (p := D) (u := .lst acc) (.lst (acc ++ [z])) upd_same
          rw [upd_upd] at this
          exact this
        · rw [et]
          exact dpAll_app (dpAll_up ((s3.trans s4).trans s5) _ hacc) (.cons hz5 .nil)
    | false =>
      obtain ⟨rfl, e2⟩ := h3 rfl
      subst e2
      refine iteF ⟨G4, acc, (s2.trans s3).trans s4, k4, ?_⟩
      rw [et, show (none : Option Dat).toList = [] from rfl, List.append_nil]
      exact dpAll_up (s3.trans s4) _ hacc
  · rintro H2 ⟨G2, acc, s2, k2, hacc⟩
    have e1 : os.take ds.length = os := by rw [← hl, List.take_length]
    rw [e1] at hacc
    have := none_at ds.length
    rw [hmn] at k2 this
    exact q D acc G2 H2 (s1.trans s2) k2 this hacc
/-- nothing is changed by the turns, no test -/
theorem el_lc [Tb] {wi : TI} {g : TG} {vs : List Nat} (src : Src K wi σ G M M1 ds) (es : List Dat) (hl : es.length = ds.length) (hz : ds.length ≤ sizeLine)
    (hs : ∀ (i : Nat) (d e : Dat) (Mx G1 : Hp) (v : V), ds[i]? = some d → es[i]? = some e → Same M1 Mx → Same G G1 → Dq K G1 v d → Tg g v (wipe σ vs) G1 fun σ2 => wipe σ2 vs = wipe σ vs ∧ Ev te σ2 G1 Mx Mx (DD K e)) :
    EvL K (tLc wi g tYes te vs) σ G M M1 es := by
  have := el_lcG (tt := tYes) (te := te) (g := g) (vs := vs) (M2 := M1) src (es.map some) (fun _ => M1) rfl rfl (fun _ _ => rfl) (by rw [List.length_map]; exact hl) hz fun i d o D acc G1 v hd ho hD s hv => by
    rw [List.getElem?_map] at ho
    cases e : es[i]? with
    | none => rw [e] at ho; cases ho
    | some e' =>
      rw [e] at ho
      cases ho
      exact fun H Q sg q => hs i d e' (upd M1 D (.lst acc)) G1 v hd e (Same.new hD) s hv H Q sg fun σ2 h2 => q σ2 ⟨h2.1, lcb_yes h2.2⟩
  rw [List.filterMap_map, show (id ∘ some : Dat → Option Dat) = some from rfl, List.filterMap_some] at this
  exact this
/-- the turns draw: zs tells the store ahead of each -/
theorem el_lcD [Tb] {wi : TI} {g : TG} {vs : List Nat} {s : Addr} {zs : Nat → Sto} (src : Src K wi σ G M M1 ds) (es : List Dat) (h0 : M1 s = some (sto (zs 0))) (hl : es.length = ds.length) (hz : ds.length ≤ sizeLine)
    (hs : ∀ (i : Nat) (d e : Dat) (Mx G1 : Hp) (v : V), ds[i]? = some d → es[i]? = some e → (∀ a o, a ≠ s → M1 a = some o → Mx a = some o) → Mx s = some (sto (zs i)) → Same G G1 → Dq K G1 v d → Tg g v (wipe σ vs) G1 fun σ2 => wipe σ2 vs = wipe σ vs ∧ Ev te σ2 G1 Mx (upd Mx s (sto (zs (i + 1)))) (DD K e)) :
    EvL K (tLc wi g tYes te vs) σ G M (upd M1 s (sto (zs ds.length))) es := by
  have := el_lcG (tt := tYes) (te := te) (g := g) (vs := vs) (M2 := upd M1 s (sto (zs ds.length))) src (es.map some) (fun i => upd M1 s (sto (zs i))) (upd_back h0) rfl (fun i a => by
    by_cases ha : a = s
    · subst ha; rw [upd_same, h0]; rfl
    · rw [upd_ne ha]) (by rw [List.length_map]; exact hl) hz fun i d o D acc G1 v hd ho hD sg hv => by
    rw [List.getElem?_map] at ho
    cases e : es[i]? with
    | none => rw [e] at ho; cases ho
    | some e' =>
      rw [e] at ho
      cases ho
      have nD : s ≠ D := ne_of_none h0 hD
      refine fun H Q sgh q => hs i d e' (upd (upd M1 s (sto (zs i))) D (.lst acc)) G1 v hd e (fun a o ha hm => ?_) ?_ sg hv H Q sgh fun σ2 h2 => q σ2 ⟨h2.1, lcb_yes ?_⟩
      · rw [upd_ne (ne_of_none hm hD), upd_ne ha]
        exact hm
      · rw [upd_ne nD, upd_same]
      · have h3 := h2.2
        rw [upd_comm (p := D) nD.symm, upd_upd] at h3
        exact h3
  rw [List.filterMap_map, show (id ∘ some : Dat → Option Dat) = some from rfl, List.filterMap_some] at this
  exact this
/-! ### statements -/
variable {D : Ends} {H : Hp} {u : TS}
theorem q_set [Tb] {i : Nat} {σ' : V → St} (he : Ev te σ G M M1 P) (ok : Ok G M H) (hσ : ∀ v, σ.set i (some v) = σ' v) (k : ∀ v G' H', Same G G' → Ok G' M1 H' → P v G' → u D (σ' v) H') : tSeq (tAsg te (gName i)) u D σ H :=
  he G H (Same.refl _) ok _ fun v G1 H1 s1 k1 hv => by
    show u D (σ.set i (some v)) H1
    rw [hσ v]
    exact k v G1 H1 s1 k1 hv
theorem q_setL [Tb] {i : Nat} {σ' : V → St} (he : EvL K te σ G M M1 ds) (ok : Ok G M H) (hσ : ∀ v, σ.set i (some v) = σ' v) (k : ∀ p vs G' H', Same G G' → Ok G' (upd M1 p (.lst vs)) H' → M1 p = none → DqAll K G' vs ds → u D (σ' (.ref p)) H') : tSeq (tAsg te (gName i)) u D σ H :=
  he G H (Same.refl _) ok _ fun p vs G1 H1 s1 k1 hp hv => by
    show u D (σ.set i (some (.ref p))) H1
    rw [hσ]
    exact k p vs G1 H1 s1 k1 hp hv
theorem q_ret [Tb] (he : Ev te σ G M M1 P) (ok : Ok G M H) (k : ∀ v G' H', Same G G' → Ok G' M1 H' → P v G' → D.rt v H') : tSeq (tRet te) u D σ H :=
  he G H (Same.refl _) ok _ k
theorem q_expr [Tb] (he : Ev te σ G M M1 P) (ok : Ok G M H) (k : ∀ G' H', Same G G' → Ok G' M1 H' → u D σ H') : tSeq (tDrop te) u D σ H :=
  he G H (Same.refl _) ok _ fun v G1 H1 s1 k1 _ => k G1 H1 s1 k1
theorem q_if [Tb] {c : TT} {t t' : TS} {b : Bool} (hc : EvT c σ G M M1 b) (ok : Ok G M H) (h1 : b = true → ∀ G' H', Same G G' → Ok G' M1 H' → t { D with nx := u D } σ H') (h2 : b = false → ∀ G' H', Same G G' → Ok G' M1 H' → t' { D with nx := u D } σ H') : tSeq (tIfS c t t') u D σ H :=
  hc G H (Same.refl _) ok _ fun G1 H1 s1 k1 => by
    cases b with
    | true => exact iteT (h1 rfl G1 H1 s1 k1)
    | false => exact iteF (h2 rfl G1 H1 s1 k1)
/-- behind an if whose ways meet: J tells where -/
theorem q_ifJ [Tb] {c : TT} {t t' : TS} {b : Bool} (J : St → Hp → Hp → Prop) (hc : EvT c σ G M M1 b) (ok : Ok G M H)
    (h1 : b = true → ∀ G' H' D', Same G G' → Ok G' M1 H' → D'.rt = D.rt → D'.bk = D.bk → D'.ct = D.ct → (∀ σ2 G2 M2 H2, Same G' G2 → Ok G2 M2 H2 → J σ2 G2 M2 → D'.nx σ2 H2) → t D' σ H')
    (h2 : b = false → ∀ G' H' D', Same G G' → Ok G' M1 H' → D'.rt = D.rt → D'.bk = D.bk → D'.ct = D.ct → (∀ σ2 G2 M2 H2, Same G' G2 → Ok G2 M2 H2 → J σ2 G2 M2 → D'.nx σ2 H2) → t' D' σ H')
    (k : ∀ σ2 G2 M2 H2, Same G G2 → Ok G2 M2 H2 → J σ2 G2 M2 → u D σ2 H2) : tSeq (tIfS c t t') u D σ H :=
  q_if hc ok (fun e G' H' s' k' => h1 e G' H' { D with nx := u D } s' k' rfl rfl rfl fun σ2 G2 M2 H2 s2 k2 j => k σ2 G2 M2 H2 (s'.trans s2) k2 j)
    (fun e G' H' s' k' => h2 e G' H' { D with nx := u D } s' k' rfl rfl rfl fun σ2 G2 M2 H2 s2 k2 j => k σ2 G2 M2 H2 (s'.trans s2) k2 j)
theorem q_nil (h : D.nx σ H) : tNext D σ H := h
theorem q_par [Tb] {i j : Nat} {ta : TA} {σ' : V → V → St} (he : EvA ta σ G M M1 (conP P1 (conP P2 nilP))) (ok : Ok G M H) (hσ : ∀ v w, (σ.set i (some v)).set j (some w) = σ' v w) (k : ∀ v w G' H', Same G G' → Ok G' M1 H' → P1 v G' → P2 w G' → u D (σ' v w) H') : tSeq (tPar i j ta) u D σ H :=
  he G H (Same.refl _) ok _ fun vs G1 H1 s1 k1 hv => by
    obtain ⟨v, w, rfl, h1, h2⟩ := two_of hv
    refine ⟨v, w, rfl, ?_⟩
    show u D ((σ.set i (some v)).set j (some w)) H1
    rw [hσ]
    exact k v w G1 H1 s1 k1 h1 h2
theorem q_append [Tb] {p : Addr} {vs : List V} (ho : Ev ta σ G M M (OW p)) (ha : EvA (tCons te tNil) σ G M M1 (conP (DD K d) nilP)) (hp0 : M p = some (.lst vs)) (hp : M1 p = some (.lst vs)) (hl : vs.length < sizeLine) (ok : Ok G M H)
    (k : ∀ v G' H', Same G G' → Ok G' (upd M1 p (.lst (vs ++ [v]))) H' → Dq K G' v d → u D σ H') : tSeq (tDrop (tBM K "list" rAppend ta (tCons te tNil))) u D σ H :=
  ho G H (Same.refl _) ok _ fun x G1 H1 s1 k1 hx => by
    cases hx
    refine ⟨.inl ⟨rfl, _, .inl (.inl (k1.m _ _ hp0))⟩, ha G1 H1 s1 k1 _ fun xs G2 H2 s2 k2 hv => ?_⟩
    obtain ⟨v, rfl, hw⟩ := one_of (R := nilP) hv
    exact ⟨p, vs, v, rfl, rfl, k2.m _ _ hp, hl, k v G2 _ (s1.trans s2) (k2.chg _ hp) hw⟩
theorem q_extend [Tb] {p : Addr} {vs : List V} (ho : Ev ta σ G M M (OW p)) (ha : EvA (tCons te tNil) σ G M M1 (conP (DD K (.list ds)) nilP)) (hp0 : M p = some (.lst vs)) (hp : M1 p = some (.lst vs)) (hl : vs.length + ds.length ≤ sizeLine) (ok : Ok G M H)
    (k : ∀ ws G' H', Same G G' → Ok G' (upd M1 p (.lst (vs ++ ws))) H' → DqAll K G' ws ds → u D σ H') : tSeq (tDrop (tBM K "list" rExtend ta (tCons te tNil))) u D σ H :=
  ho G H (Same.refl _) ok _ fun x G1 H1 s1 k1 hx => by
    cases hx
    refine ⟨.inl ⟨rfl, _, .inl (.inl (k1.m _ _ hp0))⟩, ha G1 H1 s1 k1 _ fun xs G2 H2 s2 k2 hv => ?_⟩
    obtain ⟨v, rfl, hw⟩ := one_of (R := nilP) hv
    obtain ⟨a, ws, rfl, h1, h2⟩ := dp_list hw
    exact ⟨p, a, vs, ws, rfl, rfl, k2.m _ _ hp, k2.g _ _ h1, by rw [dpAll_len h2]; exact hl, k ws G2 _ (s1.trans s2) (k2.chg _ hp) h2⟩
/-- xs[i] = e, xs a list of one's own -/
theorem q_setItem [Tb] {p : Addr} {vs : List V} {i : Int} {j : Nat} (he : Ev te σ G M M1 (DD K d)) (ho : Ev ta σ G M1 M1 (OW p)) (hi : Ev tb σ G M1 M2 (DD K (.int i))) (hp : M2 p = some (.lst vs)) (hj : ixN vs.length i = some j) (ok : Ok G M H)
    (k : ∀ v G' H', Same G G' → Ok G' (upd M2 p (.lst (vs.set j v))) H' → Dq K G' v d → u D σ H') : tSeq (tAsg te (gSub ta tb rSetL)) u D σ H :=
  he G H (Same.refl _) ok _ fun v G1 H1 s1 k1 hv => ho G1 H1 s1 k1 _ fun x G2 H2 s2 k2 hx => hi G2 H2 (s1.trans s2) k2 _ fun y G3 H3 s3 k3 hy => by
    cases hx; cases hy
    exact ⟨p, vs, i, j, rfl, rfl, k3.m _ _ hp, hj, k v G3 _ ((s1.trans s2).trans s3) (k3.chg _ hp) (dp_up (s2.trans s3) _ hv)⟩
/-! ### loops -/
theorem q_for [Tb] {wi : TI} {g : TG} {tb : TS} (src : Src K wi σ G M M1 ds) (ok : Ok G M H) (J : Nat → St → Hp → Hp → Prop) (h0 : ∀ G', Same G G' → J 0 σ G' M1)
    (hs : ∀ i d v σ1 G1 M2 H1 (N : St → Hp → Prop), ds[i]? = some d → J i σ1 G1 M2 → Same G G1 → Ok G1 M2 H1 → Dq K G1 v d → (∀ σ2 G2 M3 H2, Same G1 G2 → Ok G2 M3 H2 → J (i + 1) σ2 G2 M3 → N σ2 H2) → g v σ1 H1 fun σ2 H2 => tb { D with nx := N, ct := N, bk := u D } σ2 H2)
    (hJ : ∀ i σ1 G1 G2 M2, J i σ1 G1 M2 → Same G1 G2 → J i σ1 G2 M2)
    (hd : ∀ σ1 G1 M2 H1, Same G G1 → Ok G1 M2 H1 → J ds.length σ1 G1 M2 → u D σ1 H1) : tSeq (tFor wi g tb) u D σ H := by
  refine src G H (Same.refl _) ok _ fun J' G1 H1 s1 k1 w => ?_
  obtain ⟨Y, Gd, w, hGd, hY⟩ := w
  refine for_it w (D := { D with nx := u D }) (fun i σ1 H2 => ∃ G2 M2, Same G1 G2 ∧ Ok G2 M2 H2 ∧ J i σ1 G2 M2) ⟨G1, M1, Same.refl _, k1, h0 G1 s1⟩ ?_ ?_ ?_
  · rintro i σ1 H2 _ ⟨G2, M2, s2, k2, _⟩
    exact hGd H2 (s2.trans k2.g)
  · rintro i x σ1 H2 H3 hi ⟨G2, M2, s2, k2, j⟩ y
    obtain ⟨d, hd'⟩ : ∃ d, ds[i]? = some d := ⟨ds[i], List.getElem?_eq_getElem hi⟩
    obtain ⟨G3, s3, k3, hx⟩ := hY i d H2 x H3 G2 M2 hd' s2 k2 y
    exact hs i d x σ1 G3 M2 H3 _ hd' (hJ i σ1 G2 G3 M2 j s3) ((s1.trans s2).trans s3) k3 hx fun σ2 G4 M4 H4 s4 k4 j4 => ⟨G4, M4, (s2.trans s3).trans s4, k4, j4⟩
  · rintro σ1 H2 ⟨G2, M2, s2, k2, j⟩
    exact hd σ1 G2 M2 H2 (s1.trans s2) k2 j
end
end Kx
end
section
set_option maxHeartbeats 2000000
namespace Kx
open PySem L2
/-! ### the mirror's own words -/
theorem bs {α β : Type} {x : Option α} {f : α → Option β} {r : β} (h : x.bind f = some r) : ∃ a, x = some a ∧ f a = some r := by
  cases x with
  | none => cases h
  | some a => exact ⟨a, rfl, h⟩
theorem cond_t {α : Type} {b : Bool} {x y : α} {r : α} (e : b = true) (h : cond b x y = r) : x = r := by subst e; exact h
theorem cond_f {α : Type} {b : Bool} {x y : α} {r : α} (e : b = false) (h : cond b x y = r) : y = r := by subst e; exact h
instance (i j : Int) : Decidable (CMul i j) := by unfold CMul; exact inferInstance
instance (i j : Int) : Decidable (CDivN i j) := by unfold CDivN; exact inferInstance
instance (i j : Int) : Decidable (CDiv i j) := by unfold CDiv; exact inferInstance
instance (i j : Int) : Decidable (CPow i j) := by unfold CPow; exact inferInstance
def grd (p : Prop) [Decidable p] : Option Unit := if p then some () else none
theorem grd_of {p : Prop} [Decidable p] {u : Unit} (h : grd p = some u) : p := by
  unfold grd at h
  split at h
  · assumption
  · cases h
theorem grd_yes {p : Prop} [Decidable p] (h : p) : grd p = some () := by
  unfold grd
  rw [if_pos h]
def CMulO (i j : Int) : Prop := CMul i j ∨ CMulX i j
instance (i j : Int) : Decidable (CMulX i j) := by unfold CMulX; exact inferInstance
instance (i j : Int) : Decidable (CMulO i j) := by unfold CMulO; exact inferInstance
theorem op_mulO {X : Cx} : OpR X (binaryOp .Mult) (rI CMulO fun i j => .int (i * j)) := opI fun _ _ _ _ _ _ _ hc q => PyProof.Rows.mul_int q (hc.elim (fun h => h.ok) (fun h => h.ok))
def CDivO (i j : Int) : Prop := CDivN i j ∨ CDivW i j
instance (i j : Int) : Decidable (CDivW i j) := by unfold CDivW; exact inferInstance
instance (i j : Int) : Decidable (CDivO i j) := by unfold CDivO; exact inferInstance
theorem op_fdivO {X : Cx} : OpR X (binaryOp .FloorDiv) (rI CDivO fun i j => .int (i.fdiv j)) := by
  intro pins s σ H x y v u Q I rx ry h
  obtain ⟨i, j, rfl, rfl, hc, q⟩ := h
  rcases hc with hc | hc
  · exact op_fdivN pins s σ H _ _ v u Q I rx ry ⟨i, j, rfl, rfl, hc, q⟩
  · refine op_fdivW pins s σ H _ _ v u Q I rx ry ⟨i, j, rfl, rfl, hc, ?_⟩
    have e : i / j = i.fdiv j := (Int.fdiv_eq_ediv_of_nonneg i (by have := hc.1; omega)).symm
    show Q (.int (i / j)) H
    rw [e]
    exact q
def mulO (i j : Int) : Option Int := (grd (CMulO i j)).bind fun _ => some (i * j)
def fdivO (i j : Int) : Option Int := (grd (CDivO i j)).bind fun _ => some (i.fdiv j)
def modO (i j : Int) : Option Int := (grd (j ≠ 0)).bind fun _ => some (i.fmod j)
def powO (i j : Int) : Option Int := (grd (CPow i j)).bind fun _ => some (i ^ j.toNat)
theorem mulO_of {i j r : Int} (h : mulO i j = some r) : CMulO i j ∧ r = i * j := by
  obtain ⟨_, h1, h2⟩ := bs h
  exact ⟨grd_of h1, (Option.some.inj h2).symm⟩
theorem fdivO_of {i j r : Int} (h : fdivO i j = some r) : CDivO i j ∧ r = i.fdiv j := by
  obtain ⟨_, h1, h2⟩ := bs h
  exact ⟨grd_of h1, (Option.some.inj h2).symm⟩
theorem modO_of {i j r : Int} (h : modO i j = some r) : j ≠ 0 ∧ r = i.fmod j := by
  obtain ⟨_, h1, h2⟩ := bs h
  exact ⟨grd_of h1, (Option.some.inj h2).symm⟩
theorem powO_of {i j r : Int} (h : powO i j = some r) : CPow i j ∧ r = i ^ j.toNat := by
  obtain ⟨_, h1, h2⟩ := bs h
  exact ⟨grd_of h1, (Option.some.inj h2).symm⟩
theorem atI_map {α β : Type} {f : α → β} {xs : List α} {i : Int} {x : α} (h : atI xs i = some x) : atI (xs.map f) i = some (f x) := by
  unfold atI at h ⊢
  rw [List.length_map]
  cases e : ixN xs.length i with
  | none => rw [e] at h; cases h
  | some j =>
    rw [e] at h
    show (xs.map f)[j]? = _
    rw [List.getElem?_map, show xs[j]? = some x from h]
    rfl
/-- the longest that is made in one go -/
def mapO {α β : Type} (f : α → Option β) : List α → Option (List β)
  | [] => some []
  | x :: xs => (f x).bind fun y => (mapO f xs).bind fun ys => some (y :: ys)
theorem mapO_len {α β : Type} {f : α → Option β} : ∀ {xs : List α} {ys : List β}, mapO f xs = some ys → ys.length = xs.length
  | [], ys, h => by cases h; rfl
  | x :: xs, ys, h => by
    obtain ⟨y, _, h⟩ := bs h
    obtain ⟨zs, h2, h⟩ := bs h
    cases h
    exact congrArg (· + 1) (mapO_len h2)
theorem mapO_get {α β : Type} {f : α → Option β} : ∀ {xs : List α} {ys : List β} {i : Nat} {x : α} {y : β}, mapO f xs = some ys → xs[i]? = some x → ys[i]? = some y → f x = some y
  | [], ys, _, _, _, h, h1, _ => by simp at h1
  | a :: xs, ys, i, x, y, h, h1, h2 => by
    obtain ⟨b, hb, h⟩ := bs h
    obtain ⟨zs, hz, h⟩ := bs h
    cases h
    cases i with
    | zero => simp at h1 h2; subst h1; subst h2; exact hb
    | succ i => exact mapO_get hz (by simpa using h1) (by simpa using h2)
def lcO {α β : Type} (f : α → Option β) (xs : List α) : Option (List β) := (grd (xs.length ≤ 16777216)).bind fun _ => mapO f xs
def mapS {α β : Type} (f : α → Sto → Option (β × Sto)) : List α → Sto → Option (List β × Sto)
  | [], z => some ([], z)
  | x :: xs, z => (f x z).bind fun y => (mapS f xs y.2).bind fun ys => some (y.1 :: ys.1, ys.2)
def lcS {α β : Type} (f : α → Sto → Option (β × Sto)) (xs : List α) (z : Sto) : Option (List β × Sto) := (grd (xs.length ≤ 16777216)).bind fun _ => mapS f xs z
theorem mapS_get {α β : Type} {f : α → Sto → Option (β × Sto)} : ∀ {xs : List α} {z : Sto} {r : List β × Sto}, mapS f xs z = some r → r.1.length = xs.length ∧ ∃ zs : Nat → Sto, zs 0 = z ∧ zs xs.length = r.2 ∧
      ∀ (i : Nat) (x : α) (y : β), xs[i]? = some x → r.1[i]? = some y → f x (zs i) = some (y, zs (i + 1))
  | [], z, r, h => by cases h; exact ⟨rfl, fun _ => z, rfl, rfl, fun i x y h => by simp at h⟩
  | a :: xs, z, r, h => by
    obtain ⟨b, hb, h⟩ := bs h
    obtain ⟨r', hz, h⟩ := bs h
    cases h
    obtain ⟨hl, zs, h0, hn, hi⟩ := mapS_get hz
    refine ⟨congrArg (· + 1) hl, fun i => match i with | 0 => z | i + 1 => zs i, rfl, hn, fun i x y h1 h2 => ?_⟩
    cases i with
    | zero =>
      simp at h1 h2
      subst h1; subst h2
      show f a z = some (b.1, zs 0)
      rw [h0]
      exact hb
    | succ i => exact hi i x y (by simpa using h1) (by simpa using h2)
/-- a for over xs; a turn hands on the state (.inl) or returns (.inr) -/
def forO {S α : Type} (f : S → α → Option S) : List α → S → Option S
  | [], s => some s
  | x :: xs, s => (f s x).bind fun s' => forO f xs s'
def forR {S R α : Type} (f : S → α → Option (S ⊕ R)) : List α → S → Option (S ⊕ R)
  | [], s => some (.inl s)
  | x :: xs, s => (f s x).bind fun s' => match s' with
    | .inl s' => forR f xs s'
    | .inr r => some (.inr r)
abbrev eL {α : Type} (e : α → Dat) (xs : List α) : Dat := .list (xs.map e)
abbrev eT {α : Type} (e : α → Dat) (xs : List α) : Dat := .tuple (xs.map e)
abbrev eN (_ : Unit) : Dat := .none
abbrev eP2 {α β : Type} (e1 : α → Dat) (e2 : β → Dat) (p : α × β) : Dat := .tuple [e1 p.1, e2 p.2]
abbrev eR2 {α β : Type} (e1 : α → Dat) (e2 : β → Dat) (p : α × β) : Dat := .rtup [e1 p.1, e2 p.2]
abbrev eP3 {α β γ : Type} (e1 : α → Dat) (e2 : β → Dat) (e3 : γ → Dat) (p : α × β × γ) : Dat := .tuple [e1 p.1, e2 p.2.1, e3 p.2.2]
def eO {α : Type} (e : α → Dat) : Option α → Dat
  | none => .none
  | some x => e x
section
variable {K : PySem.W.Frag} {σ : St} {G G' M M1 M2 M3 : Hp} {ta tb te tc : TE} {P P1 P2 : VP} {d e : Dat} {ds es : List Dat}
theorem szl {n : Nat} (h : n ≤ 16777216) : n ≤ sizeLine := by rw [sizeLine_eq]; exact h
theorem szlt {n : Nat} (h : n < 16777216) : n < sizeLine := by rw [sizeLine_eq]; exact h
def enum {α : Type} (xs : List α) : List (Int × α) := xs.mapIdx fun i x => ((i : Int), x)
theorem enumD_map {α : Type} {ea : α → Dat} {xs : List α} : enumD (xs.map ea) = (enum xs).map (eR2 Dat.int ea) := by
  unfold enumD enum
  apply List.ext_getElem?
  intro i
  simp only [List.getElem?_mapIdx, List.getElem?_map, Option.map_map]
  cases xs[i]? <;> rfl
theorem Src.is [Tb] {wi : TI} {ds' : List Dat} (h : Src K wi σ G M M1 ds) (e : ds = ds') : Src K wi σ G M M1 ds' := e ▸ h
/-- a comprehension of data -/
theorem el_lcM [Tb] {α β : Type} {ea : α → Dat} {eb : β → Dat} {f : α → Option β} {xs : List α} {ys : List β} {wi : TI} {g : TG} {vs : List Nat} (src : Src K wi σ G M M1 (xs.map ea)) (hf : lcO f xs = some ys)
    (hs : ∀ (x : α) (y : β) (Mx G1 : Hp) (v : V), f x = some y → Same M1 Mx → Same G G1 → Dq K G1 v (ea x) → Tg g v (wipe σ vs) G1 fun σ2 => wipe σ2 vs = wipe σ vs ∧ Ev te σ2 G1 Mx Mx (DD K (eb y))) :
    EvL K (tLc wi g tYes te vs) σ G M M1 (ys.map eb) := by
  obtain ⟨_, h1, h2⟩ := bs hf
  have hl := mapO_len h2
  refine el_lc src (ys.map eb) (by rw [List.length_map, List.length_map, hl]) (by rw [List.length_map]; exact szl (grd_of h1)) fun i d e Mx G1 v hd he sM sG hv => ?_
  rw [List.getElem?_map] at hd he
  cases e1 : xs[i]? with
  | none => rw [e1] at hd; cases hd
  | some x =>
    cases e2 : ys[i]? with
    | none => rw [e2] at he; cases he
    | some y =>
      rw [e1] at hd; rw [e2] at he
      cases hd; cases he
      exact hs x y Mx G1 v (mapO_get h2 e1 e2) sM sG hv
theorem el_lcMD [Tb] {α β : Type} {ea : α → Dat} {eb : β → Dat} {f : α → Sto → Option (β × Sto)} {xs : List α} {r : List β × Sto} {z : Sto} {s : Addr} {wi : TI} {g : TG} {vs : List Nat} (src : Src K wi σ G M M1 (xs.map ea)) (h0 : M1 s = some (sto z)) (hf : lcS f xs z = some r)
    (hs : ∀ (x : α) (y : β) (z z' : Sto) (Mx G1 : Hp) (v : V), f x z = some (y, z') → (∀ a o, a ≠ s → M1 a = some o → Mx a = some o) → Mx s = some (sto z) → Same G G1 → Dq K G1 v (ea x) → Tg g v (wipe σ vs) G1 fun σ2 => wipe σ2 vs = wipe σ vs ∧ Ev te σ2 G1 Mx (upd Mx s (sto z')) (DD K (eb y))) :
    EvL K (tLc wi g tYes te vs) σ G M (upd M1 s (sto r.2)) (r.1.map eb) := by
  obtain ⟨_, h1, h2⟩ := bs hf
  obtain ⟨hl, zs, e0, en, hi⟩ := mapS_get h2
  subst e0
  rw [← en, ← List.length_map (as := xs) (f := ea)]
  refine el_lcD src (r.1.map eb) h0 (by rw [List.length_map, List.length_map, hl]) (by rw [List.length_map]; exact szl (grd_of h1)) fun i d e Mx G1 v hd he sM hMs sG hv => ?_
  rw [List.getElem?_map] at hd he
  cases e1 : xs[i]? with
  | none => rw [e1] at hd; cases hd
  | some x =>
    cases e2 : r.1[i]? with
    | none => rw [e2] at he; cases he
    | some y =>
      rw [e1] at hd; rw [e2] at he
      cases hd; cases he
      exact hs x y _ _ Mx G1 v (hi i x y e1 e2) sM hMs sG hv
/-! ### a for by its mirror -/
variable {D : Ends} {H : Hp} {u : TS}
theorem drop_cons {α : Type} {xs : List α} {i : Nat} {x : α} (h : xs[i]? = some x) : xs.drop i = x :: xs.drop (i + 1) := by
  obtain ⟨h1, h2⟩ := List.getElem?_eq_some_iff.mp h
  rw [List.drop_eq_getElem_cons h1, h2]
theorem q_forO [Tb] {S α : Type} {ea : α → Dat} {f : S → α → Option S} {xs : List α} {st fin : S} {wi : TI} {g : TG} {tb : TS} (src : Src K wi σ G M M1 (xs.map ea)) (ok : Ok G M H) (J : S → St → Hp → Hp → Prop) (hf : forO f xs st = some fin)
    (h0 : ∀ G', Same G G' → J st σ G' M1) (hJ : ∀ s σ1 G1 G2 M2, J s σ1 G1 M2 → Same G1 G2 → J s σ1 G2 M2)
    (hs : ∀ x v s s' σ1 G1 M2 H1 (N : St → Hp → Prop), f s x = some s' → J s σ1 G1 M2 → Same G G1 → Ok G1 M2 H1 → Dq K G1 v (ea x) → (∀ σ2 G2 M3 H2, Same G1 G2 → Ok G2 M3 H2 → J s' σ2 G2 M3 → N σ2 H2) → g v σ1 H1 fun σ2 H2 => tb { D with nx := N, ct := N, bk := u D } σ2 H2)
    (hd : ∀ σ1 G1 M2 H1, Same G G1 → Ok G1 M2 H1 → J fin σ1 G1 M2 → u D σ1 H1) : tSeq (tFor wi g tb) u D σ H := by
  refine q_for src ok (fun i σ1 G1 M2 => ∃ s, J s σ1 G1 M2 ∧ forO f (xs.drop i) s = some fin) (fun G' s' => ⟨st, h0 G' s', hf⟩) ?_ (fun i σ1 G1 G2 M2 ⟨s, j, e⟩ s2 => ⟨s, hJ s σ1 G1 G2 M2 j s2, e⟩) ?_
  · rintro i d v σ1 G1 M2 H1 N hd ⟨s, j, e⟩ s1 k1 hv hN
    rw [List.getElem?_map] at hd
    cases ex : xs[i]? with
    | none => rw [ex] at hd; cases hd
    | some x =>
      rw [ex] at hd
      cases hd
      rw [drop_cons ex] at e
      obtain ⟨s', e1, e2⟩ := bs e
      exact hs x v s s' σ1 G1 M2 H1 N e1 j s1 k1 hv fun σ2 G2 M3 H2 s2 k2 j2 => hN σ2 G2 M3 H2 s2 k2 ⟨s', j2, e2⟩
  · rintro σ1 G1 M2 H1 s1 k1 ⟨s, j, e⟩
    rw [List.length_map, List.drop_length] at e
    cases e
    exact hd σ1 G1 M2 H1 s1 k1 j
theorem q_forR [Tb] {S R α : Type} {ea : α → Dat} {f : S → α → Option (S ⊕ R)} {xs : List α} {st : S} {fin : S ⊕ R} {wi : TI} {g : TG} {tb : TS} (src : Src K wi σ G M M1 (xs.map ea)) (ok : Ok G M H) (J : S → St → Hp → Hp → Prop) (hf : forR f xs st = some fin)
    (h0 : ∀ G', Same G G' → J st σ G' M1) (hJ : ∀ s σ1 G1 G2 M2, J s σ1 G1 M2 → Same G1 G2 → J s σ1 G2 M2)
    (hs : ∀ x v s s' σ1 G1 M2 H1 (N : St → Hp → Prop), f s x = some s' → (∀ r, s' = .inr r → fin = .inr r) → J s σ1 G1 M2 → Same G G1 → Ok G1 M2 H1 → Dq K G1 v (ea x) → (∀ s2 σ2 G2 M3 H2, s' = .inl s2 → Same G1 G2 → Ok G2 M3 H2 → J s2 σ2 G2 M3 → N σ2 H2) → g v σ1 H1 fun σ2 H2 => tb { D with nx := N, ct := N, bk := u D } σ2 H2)
    (hd : ∀ s σ1 G1 M2 H1, fin = .inl s → Same G G1 → Ok G1 M2 H1 → J s σ1 G1 M2 → u D σ1 H1) : tSeq (tFor wi g tb) u D σ H := by
  refine q_for src ok (fun i σ1 G1 M2 => ∃ s, J s σ1 G1 M2 ∧ forR f (xs.drop i) s = some fin) (fun G' s' => ⟨st, h0 G' s', hf⟩) ?_ (fun i σ1 G1 G2 M2 ⟨s, j, e⟩ s2 => ⟨s, hJ s σ1 G1 G2 M2 j s2, e⟩) ?_
  · rintro i d v σ1 G1 M2 H1 N hd ⟨s, j, e⟩ s1 k1 hv hN
    rw [List.getElem?_map] at hd
    cases ex : xs[i]? with
    | none => rw [ex] at hd; cases hd
    | some x =>
      rw [ex] at hd
      cases hd
      rw [drop_cons ex] at e
      obtain ⟨s', e1, e2⟩ := bs e
      refine hs x v s s' σ1 G1 M2 H1 N e1 (fun r er => ?_) j s1 k1 hv fun s2 σ2 G2 M3 H2 es s2' k2 j2 => ?_
      · subst er
        exact (Option.some.inj e2).symm
      · subst es
        exact hN σ2 G2 M3 H2 s2' k2 ⟨s2, j2, e2⟩
  · rintro σ1 G1 M2 H1 s1 k1 ⟨s, j, e⟩
    rw [List.length_map, List.drop_length] at e
    exact hd s σ1 G1 M2 H1 (Option.some.inj e).symm s1 k1 j
/-! ### a def's end -/
theorem same_fin {M0 M : Hp} {s : Addr} {o : HO} (hB : ∀ a u, a ≠ s → M0 a = some u → M a = some u) (hs : M s = some o) : Same (upd M0 s o) M := fun a u e => by
  by_cases ha : a = s
  · subst ha; rw [upd_same] at e; rw [hs]; exact e
  · rw [upd_ne ha] at e; exact hB a u ha e
theorem Ok.giveL [Tb] {G M M0 H : Hp} {p : Addr} {o : HO} (k : Ok G M H) (hp : M p = some o) (h0 : M0 p = none) (hB : Same M0 M) : Ok (upd G p o) M0 H := by
  refine ⟨fun a u e => ?_, fun a u e => k.m a u (hB a u e), fun a u e => ?_, fun a u e => k.mu a u (hB a u e), tb_G k.tb (k.mu p o hp).nt.noTbl⟩
  · by_cases ha : a = p
    · subst ha; rw [upd_same] at e; exact k.m a u (hp.trans e)
    · rw [upd_ne ha] at e; exact k.g a u e
  · rw [upd_ne (ne_of_none e h0)]
    exact k.d a u (hB a u e)
end
end Kx
end
section
set_option maxHeartbeats 2000000
namespace Kx
open PySem L2
section
variable {K : PySem.W.Frag} {σ σ' : St} {G G' M M1 M2 M3 : Hp} {ta tb te tc : TE} {P P1 P2 : VP} {d e : Dat} {ds es : List Dat} {D : Ends} {H : Hp} {u : TS}
theorem nrm {F : St → Hp → Prop} (e : σ = σ') (h : F σ' H) : F σ H := e ▸ h
theorem gn {i : Nat} {v : V} {Q : St → Hp → Prop} (h : Q (σ.set i (some v)) H) : gName i v σ H Q := h
theorem gNil_eq {Q : St → Hp → Prop} : (fun σ' H' => gNil [] σ' H' Q) = Q := by
  funext σ' H'
  exact propext ⟨fun h => h.2, fun h => ⟨rfl, h⟩⟩
theorem gOne_eq {g : TG} {v : V} {Q : St → Hp → Prop} : (fun σ' H' => gCons g gNil [v] σ' H' Q) = fun σ' H' => g v σ' H' Q := by
  funext σ' H'
  refine propext ⟨fun ⟨w, r, e, z⟩ => ?_, fun z => ⟨v, [], rfl, ?_⟩⟩
  · cases e
    rw [gNil_eq] at z
    exact z
  · rw [gNil_eq]
    exact z
theorem gTwo_eq {g h : TG} {v w : V} {Q : St → Hp → Prop} : (fun σ' H' => gCons g (gCons h gNil) [v, w] σ' H' Q) = fun σ' H' => g v σ' H' fun σ1 H1 => h w σ1 H1 Q := by
  funext σ' H'
  refine propext ⟨fun ⟨x, r, e, z⟩ => ?_, fun z => ⟨v, [w], rfl, ?_⟩⟩
  · cases e
    rw [gOne_eq] at z
    exact z
  · rw [gOne_eq]
    exact z
theorem gt2 {g1 g2 : TG} {v : V} {Q : St → Hp → Prop} {d1 d2 : Dat} (hv : Dq K G v (.tuple [d1, d2])) (s : Same G H) (h : ∀ v1 v2, Dq K G v1 d1 → Dq K G v2 d2 → g1 v1 σ H fun σ1 H1 => g2 v2 σ1 H1 Q) : gTup K 2 (gCons g1 (gCons g2 gNil)) v σ H Q := by
  obtain ⟨a, vs, rfl, h1, h2⟩ := dp_tuple hv
  cases h2 with
  | cons a1 b1 =>
    cases b1 with
    | cons a2 b2 =>
      cases b2
      refine ⟨a, _, rfl, sqT_up s h1, rfl, _, _, rfl, ?_⟩
      rw [gOne_eq]
      exact h _ _ a1 a2
theorem gr2 {g1 g2 : TG} {v : V} {Q : St → Hp → Prop} {d1 d2 : Dat} (hv : Dq K G v (.rtup [d1, d2])) (s : Same G H) (h : ∀ v1 v2, Dq K G v1 d1 → Dq K G v2 d2 → g1 v1 σ H fun σ1 H1 => g2 v2 σ1 H1 Q) : gTup K 2 (gCons g1 (gCons g2 gNil)) v σ H Q := by
  obtain ⟨a, vs, rfl, h1, h2⟩ := dp_rtup hv
  cases h2 with
  | cons a1 b1 =>
    cases b1 with
    | cons a2 b2 =>
      cases b2
      refine ⟨a, _, rfl, (.inl (.inl (s _ _ h1))), rfl, _, _, rfl, ?_⟩
      rw [gOne_eq]
      exact h _ _ a1 a2
/-- x = e with any target: the target's own reading is left -/
theorem q_asgG [Tb] {g : TG} (he : Ev te σ G M M1 P) (ok : Ok G M H) (k : ∀ v G' H', Same G G' → Ok G' M1 H' → P v G' → g v σ H' (u D)) : tSeq (tAsg te g) u D σ H :=
  he G H (Same.refl _) ok _ k
/-- a store into a list of one's own, as a target -/
theorem gs_list [Tb] {p : Addr} {vs : List V} {i : Int} {j : Nat} {v : V} {Q : St → Hp → Prop} (ho : Ev ta σ G M M (OW p)) (hi : Ev tb σ G M M1 (DD K (.int i))) (hp : M1 p = some (.lst vs)) (hj : ixN vs.length i = some j) (ok : Ok G M H)
    (k : ∀ G' H', Same G G' → Ok G' (upd M1 p (.lst (vs.set j v))) H' → Q σ H') : gSub ta tb rSetL v σ H Q :=
  ho G H (Same.refl _) ok _ fun x G2 H2 s2 k2 hx => hi G2 H2 s2 k2 _ fun y G3 H3 s3 k3 hy => by
    cases hx; cases hy
    exact ⟨p, vs, i, j, rfl, rfl, k3.m _ _ hp, hj, k G3 _ (s2.trans s3) (k3.chg _ hp)⟩
end
end Kx
end
section
set_option maxHeartbeats 2000000
namespace Kx
open PySem L2
def catO {α : Type} (xs ys : List α) : Option (List α) := (grd (xs.length + ys.length ≤ 16777216)).bind fun _ => some (xs ++ ys)
theorem catO_of {α : Type} {xs ys r : List α} (h : catO xs ys = some r) : xs.length + ys.length ≤ 16777216 ∧ r = xs ++ ys := by
  obtain ⟨_, h1, h2⟩ := bs h
  exact ⟨grd_of h1, (Option.some.inj h2).symm⟩
def appO {α : Type} (xs : List α) (x : α) : Option (List α) := (grd (xs.length < 16777216)).bind fun _ => some (xs ++ [x])
theorem appO_of {α : Type} {xs r : List α} {x : α} (h : appO xs x = some r) : xs.length < 16777216 ∧ r = xs ++ [x] := by
  obtain ⟨_, h1, h2⟩ := bs h
  exact ⟨grd_of h1, (Option.some.inj h2).symm⟩
def rngO (n : Int) : Option (List Int) := (grd (-(2 ^ 62) ≤ n ∧ n < 2 ^ 62)).bind fun _ => some (irange 0 n)
def dmO (i j : Int) : Option (Int × Int) := (grd (CDivW i j)).bind fun _ => some (i / j, i % j)
theorem dmO_of {i j : Int} {r : Int × Int} (h : dmO i j = some r) : CDivW i j ∧ r = (i / j, i % j) := by
  obtain ⟨_, h1, h2⟩ := bs h
  exact ⟨grd_of h1, (Option.some.inj h2).symm⟩
def orR {S R T : Type} (x : S ⊕ R) (f : S → Option T) (g : R → Option T) : Option T := match x with
  | .inl s => f s
  | .inr r => g r
/-! ### encodings that == reads -/
structure EqE {α : Type} [DecidableEq α] (e : α → Dat) (n : Nat) : Prop where
  pur : ∀ x, pur (e x) = true
  dep : ∀ x, (toPy (e x)).depth ≤ n
  eqv : ∀ x y, PyData.eqv (toPy (e x)) (toPy (e y)) = decide (x = y)
theorem beq_dec {α : Type} [DecidableEq α] [BEq α] [LawfulBEq α] (x y : α) : (x == y) = decide (x = y) := by
  by_cases h : x = y <;> simp [h]
theorem eqe_int : EqE Dat.int 0 := ⟨fun _ => by unfold Kx.pur; rfl, fun _ => by unfold toPy PyData.depth; exact Nat.le_refl _, fun x y => by unfold toPy PyData.eqv; exact beq_dec x y⟩
theorem eqe_bool : EqE Dat.bool 0 := ⟨fun _ => by unfold Kx.pur; rfl, fun _ => by unfold toPy PyData.depth; exact Nat.le_refl _, fun x y => by unfold toPy PyData.eqv; exact beq_dec x y⟩
theorem eqe_str : EqE Dat.str 0 := ⟨fun _ => by unfold Kx.pur; rfl, fun _ => by unfold toPy PyData.depth; exact Nat.le_refl _, fun x y => by unfold toPy PyData.eqv; exact beq_dec x y⟩
theorem toPys_map : ∀ ds : List Dat, toPys ds = ds.map toPy
  | [] => by unfold toPys; rfl
  | d :: ds => by unfold toPys; rw [toPys_map ds]; rfl
theorem purs_all : ∀ {ds : List Dat}, (∀ d ∈ ds, pur d = true) → purs ds = true
  | [], _ => by unfold purs; rfl
  | d :: ds, h => by
    unfold purs
    rw [h d List.mem_cons_self, purs_all fun x hx => h x (List.mem_cons_of_mem _ hx)]
    rfl
theorem toPy_list {ds : List Dat} : toPy (.list ds) = .list (ds.map toPy) := by unfold toPy; rw [toPys_map]
theorem toPy_tuple {ds : List Dat} : toPy (.tuple ds) = .tuple (ds.map toPy) := by unfold toPy; rw [toPys_map]
theorem pur_list {ds : List Dat} (h : ∀ d ∈ ds, pur d = true) : pur (.list ds) = true := by unfold pur; exact purs_all h
theorem pur_tuple {ds : List Dat} (h : ∀ d ∈ ds, pur d = true) : pur (.tuple ds) = true := by unfold pur; exact purs_all h
section
variable {α β γ : Type} [DecidableEq α] [DecidableEq β] [DecidableEq γ] {e : α → Dat} {e2 : β → Dat} {e3 : γ → Dat} {n n2 n3 : Nat}
theorem depAll (h : ∀ x, (toPy (e x)).depth ≤ n) : ∀ xs : List α, PyData.depthAll ((xs.map e).map toPy) ≤ n
  | [] => Nat.zero_le _
  | x :: xs => by
    have h1 := h x
    have h2 := depAll h xs
    rw [List.map_cons, List.map_cons]
    unfold PyData.depthAll
    omega
theorem eqvAll_map (h : ∀ x y, PyData.eqv (toPy (e x)) (toPy (e y)) = decide (x = y)) : ∀ xs ys : List α, PyData.eqvAll ((xs.map e).map toPy) ((ys.map e).map toPy) = decide (xs = ys)
  | [], [] => by simp [PyData.eqvAll]
  | [], _ :: _ => by simp [PyData.eqvAll]
  | _ :: _, [] => by simp [PyData.eqvAll]
  | x :: xs, y :: ys => by
    rw [List.map_cons, List.map_cons, List.map_cons, List.map_cons]
    unfold PyData.eqvAll
    rw [h x y, eqvAll_map h xs ys]
    by_cases h1 : x = y <;> by_cases h2 : xs = ys <;> simp [h1, h2]
theorem purMap (h : EqE e n) (xs : List α) : ∀ d ∈ xs.map e, pur d = true := fun d hd => by
  obtain ⟨x, _, rfl⟩ := List.mem_map.mp hd
  exact h.pur x
theorem eqe_L (h : EqE e n) : EqE (eL e) (n + 1) := ⟨fun xs => pur_list (purMap h xs), fun xs => by rw [toPy_list]; unfold PyData.depth; exact Nat.succ_le_succ (depAll h.dep xs), fun xs ys => by rw [toPy_list, toPy_list]; unfold PyData.eqv; exact eqvAll_map h.eqv xs ys⟩
theorem eqe_T (h : EqE e n) : EqE (eT e) (n + 1) := ⟨fun xs => pur_tuple (purMap h xs), fun xs => by rw [toPy_tuple]; unfold PyData.depth; exact Nat.succ_le_succ (depAll h.dep xs), fun xs ys => by rw [toPy_tuple, toPy_tuple]; unfold PyData.eqv; exact eqvAll_map h.eqv xs ys⟩
theorem eqe_P2 (h : EqE e n) (h2 : EqE e2 n2) : EqE (eP2 e e2) (n + n2 + 1) := by
  refine ⟨fun p => pur_tuple fun d hd => ?_, fun p => ?_, fun p q => ?_⟩
  · rcases List.mem_cons.mp hd with h1 | hd
    · rw [h1]; exact h.pur _
    · have : d = e2 p.2 := by simpa using hd
      rw [this]; exact h2.pur _
  · have a := h.dep p.1
    have b := h2.dep p.2
    rw [toPy_tuple]
    simp only [List.map_cons, List.map_nil, PyData.depth, PyData.depthAll]
    omega
  · obtain ⟨p1, p2⟩ := p
    obtain ⟨q1, q2⟩ := q
    rw [toPy_tuple, toPy_tuple]
    simp only [List.map_cons, List.map_nil, PyData.eqv, PyData.eqvAll, h.eqv, h2.eqv, Bool.and_true]
    by_cases a : p1 = q1 <;> by_cases b : p2 = q2 <;> simp [a, b]
theorem eqe_P3 (h : EqE e n) (h2 : EqE e2 n2) (h3 : EqE e3 n3) : EqE (eP3 e e2 e3) (n + n2 + n3 + 1) := by
  refine ⟨fun p => pur_tuple fun d hd => ?_, fun p => ?_, fun p q => ?_⟩
  · have : d = e p.1 ∨ d = e2 p.2.1 ∨ d = e3 p.2.2 := by simpa using hd
    rcases this with z | z | z
    · rw [z]; exact h.pur _
    · rw [z]; exact h2.pur _
    · rw [z]; exact h3.pur _
  · have a := h.dep p.1
    have b := h2.dep p.2.1
    have c := h3.dep p.2.2
    rw [toPy_tuple]
    simp only [List.map_cons, List.map_nil, PyData.depth, PyData.depthAll]
    omega
  · obtain ⟨p1, p2, p3⟩ := p
    obtain ⟨q1, q2, q3⟩ := q
    rw [toPy_tuple, toPy_tuple]
    simp only [List.map_cons, List.map_nil, PyData.eqv, PyData.eqvAll, h.eqv, h2.eqv, h3.eqv, Bool.and_true]
    by_cases a : p1 = q1 <;> by_cases b : p2 = q2 <;> by_cases c : p3 = q3 <;> simp [a, b, c]
end
section
variable {α β γ : Type} [DecidableEq α] {e : α → Dat} {n : Nat} {K : PySem.W.Frag} {σ : St} {G G' M M1 M2 M3 : Hp} {ta tb te tc : TE} {ds es : List Dat}
theorem ev_eqE [Tb] {x y : α} (h : EqE e n) (hn : n ≤ 63) (ha : Ev ta σ G M M1 (DD K (e x))) (hb : Ev tb σ G M1 M2 (DD K (e y))) : Ev (tOp (rEqD K) ta tb) σ G M M2 (DD K (.bool (decide (x = y)))) := by
  have := ev_eqD (h.pur x) (h.pur y) (Nat.le_trans (h.dep x) (by omega)) (Nat.le_trans (h.dep y) (by omega)) ha hb
  rw [h.eqv] at this
  exact this
theorem ev_neE [Tb] {x y : α} (h : EqE e n) (hn : n ≤ 63) (ha : Ev ta σ G M M1 (DD K (e x))) (hb : Ev tb σ G M1 M2 (DD K (e y))) : Ev (tOp (rNeD K) ta tb) σ G M M2 (DD K (.bool (!decide (x = y)))) := by
  have := ev_neD (h.pur x) (h.pur y) (Nat.le_trans (h.dep x) (by omega)) (Nat.le_trans (h.dep y) (by omega)) ha hb
  rw [h.eqv] at this
  exact this
def memB {α : Type} [DecidableEq α] (x : α) (xs : List α) : Bool := decide (x ∈ xs)
def NotN {α : Type} (e : α → Dat) : Prop := ∀ x, e x ≠ .none
theorem ev_isNO [Tb] {o : Option β} {e : β → Dat} (hn : NotN e) (ha : Ev ta σ G M M1 (DD K (eO e o))) (hb : Ev tb σ G M1 M2 (DD K .none)) : Ev (tOp (fun x y H Q => y = .non ∧ Q (.bl (decide (x = .non))) H) ta tb) σ G M M2 (DD K (.bool o.isNone)) := by
  refine ev_is (ev_isN ha hb) (congrArg Dat.bool ?_)
  cases o with
  | none => rfl
  | some x =>
    show isND (e x) = false
    have := hn x
    unfold isND
    split
    · contradiction
    · rfl
theorem ev_notNO [Tb] {o : Option β} {e : β → Dat} (hn : NotN e) (ha : Ev ta σ G M M1 (DD K (eO e o))) (hb : Ev tb σ G M1 M2 (DD K .none)) : Ev (tOp (fun x y H Q => y = .non ∧ Q (.bl (!decide (x = .non))) H) ta tb) σ G M M2 (DD K (.bool o.isSome)) := by
  refine ev_is (ev_notN ha hb) (congrArg Dat.bool ?_)
  cases o with
  | none => rfl
  | some x =>
    show (!isND (e x)) = true
    have := hn x
    unfold isND
    split
    · contradiction
    · rfl
theorem el_catO [Tb] {xs ys zs : List β} {e : β → Dat} (h : catO xs ys = some zs) (ha : Ev ta σ G M M1 (DD K (.list (xs.map e)))) (hb : Ev tb σ G M1 M2 (DD K (.list (ys.map e)))) : EvL K (tOp rCat ta tb) σ G M M2 (zs.map e) := by
  obtain ⟨h1, rfl⟩ := catO_of h
  rw [List.map_append]
  exact el_cat (by rw [List.length_map, List.length_map]; exact szl h1) ha hb
theorem src_rngO [Tb] {ta : TA} {k : Int} {xs : List Int} (h : rngO k = some xs) (ha : EvA ta σ G M M1 (conP (DD K (.int k)) nilP)) : Src K (iRng1 ta) σ G M M1 (xs.map Dat.int) := by
  obtain ⟨_, h1, h2⟩ := bs h
  cases h2
  exact src_range1 (grd_of h1).1 (grd_of h1).2 ha
theorem ev_slTM [Tb] {xs : List β} {e : β → Dat} {tl th : TO} {lo hi : Option Int} (h : Ev te σ G M M (DD K (.tuple (xs.map e)))) (h1 : EvO tl σ G M M lo) (h2 : EvO th σ G M M hi) : Ev (tSl (rSlF K) te tl th) σ G M M (DD K (.tuple ((cut xs lo hi).map e))) := cut_map ▸ ev_slT h h1 h2
theorem ev_mulO [Tb] {i j r : Int} (hc : mulO i j = some r) (ha : Ev ta σ G M M1 (DD K (.int i))) (hb : Ev tb σ G M1 M2 (DD K (.int j))) : Ev (tOp (rI CMulO fun i j => .int (i * j)) ta tb) σ G M M2 (DD K (.int r)) := by
  obtain ⟨h, rfl⟩ := mulO_of hc
  exact ev_op mo_dd ha hb (rv_I (f := fun i j => .int (i * j)) (fun i j _ => .int _) h)
theorem ev_fdivO [Tb] {i j r : Int} (hc : fdivO i j = some r) (ha : Ev ta σ G M M1 (DD K (.int i))) (hb : Ev tb σ G M1 M2 (DD K (.int j))) : Ev (tOp (rI CDivO fun i j => .int (i.fdiv j)) ta tb) σ G M M2 (DD K (.int r)) := by
  obtain ⟨h, rfl⟩ := fdivO_of hc
  exact ev_op mo_dd ha hb (rv_I (f := fun i j => .int (i.fdiv j)) (fun i j _ => .int _) h)
theorem ev_modO [Tb] {i j r : Int} (hc : modO i j = some r) (ha : Ev ta σ G M M1 (DD K (.int i))) (hb : Ev tb σ G M1 M2 (DD K (.int j))) : Ev (tOp (rI (fun _ j => j ≠ 0) fun i j => .int (i.fmod j)) ta tb) σ G M M2 (DD K (.int r)) := by
  obtain ⟨h, rfl⟩ := modO_of hc
  exact ev_mod h ha hb
theorem ev_powO [Tb] {i j r : Int} (hc : powO i j = some r) (ha : Ev ta σ G M M1 (DD K (.int i))) (hb : Ev tb σ G M1 M2 (DD K (.int j))) : Ev (tOp (rI CPow fun i j => .int (i ^ j.toNat)) ta tb) σ G M M2 (DD K (.int r)) := by
  obtain ⟨h, rfl⟩ := powO_of hc
  exact ev_pow h ha hb
theorem ev_dmO [Tb] {i j : Int} {r : Int × Int} (hc : dmO i j = some r) (ha : EvA (tCons ta (tCons tb tNil)) σ G M M1 (conP (DD K (.int i)) (conP (DD K (.int j)) nilP))) : Ev (tCB rDivmod (tCons ta (tCons tb tNil))) σ G M M1 (DD K (eR2 Dat.int Dat.int r)) := by
  obtain ⟨h, rfl⟩ := dmO_of hc
  exact ev_divmod h ha
theorem ev_ixLM [Tb] {xs : List β} {e : β → Dat} {i : Int} {x : β} (hi : atI xs i = some x) (ha : Ev ta σ G M M1 (DD K (.list (xs.map e)))) (hb : Ev tb σ G M1 M2 (DD K (.int i))) : Ev (tOp (rIxL K) ta tb) σ G M M2 (DD K (e x)) := ev_ixL (atI_map hi) ha hb
theorem ev_ixTM [Tb] {xs : List β} {e : β → Dat} {i : Int} {x : β} (hi : atI xs i = some x) (ha : Ev ta σ G M M1 (DD K (.tuple (xs.map e)))) (hb : Ev tb σ G M1 M2 (DD K (.int i))) : Ev (tOp (rIxT K) ta tb) σ G M M2 (DD K (e x)) := ev_ixT (atI_map hi) ha hb
theorem ev_ixOM [Tb] {xs : List β} {e : β → Dat} {i : Int} {x : β} {p : Addr} {vs : List V} (hi : atI xs i = some x) (hp : M2 p = some (.lst vs)) (hv : DqAll K G vs (xs.map e)) (ha : Ev ta σ G M M1 (OW p)) (hb : Ev tb σ G M1 M2 (DD K (.int i))) : Ev (tOp (rIxL K) ta tb) σ G M M2 (DD K (e x)) := ev_ixO ha hb hp hv (atI_map hi)
/-- an owned list read as a whole: it is lent -/
theorem ev_lenLM [Tb] {xs : List β} {e : β → Dat} (ha : EvA (tCons ta tNil) σ G M M1 (conP (DD K (.list (xs.map e))) nilP)) : Ev (tCB (rLen K) (tCons ta tNil)) σ G M M1 (DD K (.int (xs.length : Int))) := ev_is (ev_lenL ha) (by rw [List.length_map])
theorem ev_lenTM [Tb] {xs : List β} {e : β → Dat} (ha : EvA (tCons ta tNil) σ G M M1 (conP (DD K (.tuple (xs.map e))) nilP)) : Ev (tCB (rLen K) (tCons ta tNil)) σ G M M1 (DD K (.int (xs.length : Int))) := ev_is (ev_lenT ha) (by rw [List.length_map])
end
/-! ### the part that may be changed, kept -/
theorem up_ne {M : Hp} {p q : Addr} {o u : HO} (n : q ≠ p) (h : M q = some o) : (upd M p u) q = some o := (upd_ne n).trans h
theorem hB_draw {M0 M : Hp} {s : Addr} {o : HO} (hB : ∀ a u, a ≠ s → M0 a = some u → M a = some u) : ∀ a u, a ≠ s → M0 a = some u → (upd M s o) a = some u := fun a u h1 h2 => (upd_ne h1).trans (hB a u h1 h2)
theorem hB_own {M0 M : Hp} {s p : Addr} {o : HO} (hB : ∀ a u, a ≠ s → M0 a = some u → M a = some u) (h0 : M0 p = none) : ∀ a u, a ≠ s → M0 a = some u → (upd M p o) a = some u := fun a u h1 h2 => (upd_ne (ne_of_none h2 h0)).trans (hB a u h1 h2)
theorem sB_own {M0 M : Hp} {p : Addr} {o : HO} (hB : Same M0 M) (h0 : M0 p = none) : Same M0 (upd M p o) := fun a u h2 => (upd_ne (ne_of_none h2 h0)).trans (hB a u h2)
theorem hB_none {M0 M : Hp} {s p : Addr} {o : HO} (hB : ∀ a u, a ≠ s → M0 a = some u → M a = some u) (hs : M s = some o) (h : M p = none) : M0 p = none := by
  cases e : M0 p with
  | none => rfl
  | some u =>
    have n : p ≠ s := fun z => by rw [z, hs] at h; cases h
    rw [hB p u n e] at h
    cases h
theorem sB_none {M0 M : Hp} {p : Addr} (hB : Same M0 M) (h : M p = none) : M0 p = none := hB.free h
end Kx
end
section
set_option maxHeartbeats 2000000
theorem L2.Room.un65 {k : Nat} {A : PySem.Around} (r : L2.Room k A) : A.units + 65 < PySem.cLine := by have := r.un; omega
namespace Kx
open PySem L2
section
variable {K : PySem.W.Frag} {σ σ' : St} {G G' M M1 M2 M3 : Hp} {ta tb te tc : TE} {P P1 P2 : VP} {d e : Dat} {ds es : List Dat} {D : Ends} {H : Hp} {u : TS}
/-! ### a, b = e1, e2 -/
/-! the same where a tuple is made on the way -/
theorem tup_go [Tb] {i j : Nat} {v w : V} (k : Ok G M H) (h : ∀ G' H', Same G G' → Ok G' M H' → u D ((σ.set i (some v)).set j (some w)) H') (t : V) : [v, w].length ≤ sizeLine ∧ ∀ p, H p = none → gTup K 2 (gCons (gName i) (gCons (gName j) gNil)) (.ref p) σ (upd H p (.tup [v, w])) (u D) := by
  refine ⟨by show 2 ≤ sizeLine; decide, fun p hp => ?_⟩
  have sp : Same G (upd G p (.tup [v, w])) := Same.new (Same.none k.g hp)
  exact ⟨p, [v, w], rfl, .inl (.inl upd_same), rfl, v, [w], rfl, w, [], rfl, rfl, h _ _ sp (k.newG _ hp)⟩
theorem q_tupDD [Tb] {i j : Nat} {σ' : V → V → St} (ha : Ev ta σ G M M1 P1) (m1 : Mo P1) (hb : Ev tb σ G M1 M2 P2) (m2 : Mo P2) (ok : Ok G M H) (hσ : ∀ v w, (σ.set i (some v)).set j (some w) = σ' v w)
    (k : ∀ v w G' H', Same G G' → Ok G' M2 H' → P1 v G' → P2 w G' → u D (σ' v w) H') : tSeq (tAsg (tTup (tCons ta (tCons tb tNil))) (gTup K 2 (gCons (gName i) (gCons (gName j) gNil)))) u D σ H :=
  ha G H (Same.refl _) ok _ fun v G1 H1 s1 k1 hv => hb G1 H1 s1 k1 _ fun w G2 H2 s2 k2 hw => tup_go (K := K) k2 (fun G3 H3 s3 k3 => by
    rw [hσ]
    exact k v w G3 H3 ((s1.trans s2).trans s3) k3 (m1 _ _ _ (s2.trans s3) hv) (m2 _ _ _ s3 hw)) v
theorem q_nilU (h : u D σ H) : tNext { D with nx := u D } σ H := h
theorem orR_l {S R T : Type} {s : S} {f : S → Option T} {g : R → Option T} {r : Option T} (h : orR (.inl s) f g = r) : f s = r := h
end
end Kx
end
section
set_option maxHeartbeats 2000000
namespace Kx
open PySem L2
/-! ### enumerate of a tuple, zip of lists and tuples -/
def SqB (K : PySem.W.Frag) : Bool → Hp → Addr → List V → Prop
  | true => SqT K
  | false => SqL K
def IteT (K : PySem.W.Frag) (a : Addr) : It :=
  ⟨fun i H => ∃ (xs : List V) (x : V), SqT K H a xs ∧ xs[i]? = some x, fun i H v H' => ∃ T x, v = .ref T ∧ H T = none ∧ H' = upd H T (.tup [.int (i : Nat), x]) ∧ ∀ xs, SqT K H a xs → xs[i]? = some x, fun i H => ∃ xs : List V, SqT K H a xs ∧ xs.length = i⟩
def iEnumT (K : PySem.W.Frag) (ta : TA) : TI := fun σ H R => ta σ H fun vs H1 => ∃ a xs, vs = [.ref a] ∧ SqT K H1 a xs ∧ R (IteT K a) H1
def IterB : Bool → Heap → Addr → Addr → Nat → Prop
  | true => fun h it a i => h.IsTupleIter it a i
  | false => fun h it a i => h.IsListIter it a i
def SeqB : Bool → Heap → Addr → Array Value → Prop
  | true => fun h a its => h.IsTuple a its
  | false => fun h a its => h.IsList a its
theorem IterB.at {k : Bool} {h h' : Heap} {it a : Addr} {i : Nat} (x : IterB k h it a i) (e : ∀ o, h.get? it = some o → h'.get? it = some o) : IterB k h' it a i := by
  cases k with
  | true => exact Heap.IsTupleIter.at x e
  | false => exact Heap.IsListIter.at x e
theorem IterB.obj {k : Bool} {h : Heap} {it a : Addr} {i : Nat} (x : IterB k h it a i) : ∃ o, h.get? it = some o ∧ ∀ v, o.data ≠ .cell v := by
  cases k with
  | true =>
    obtain ⟨o, ho, _, hd⟩ := (show h.IsTupleIter it a i from x)
    exact ⟨o, ho, fun v q => by rw [hd] at q; cases q⟩
  | false =>
    obtain ⟨o, ho, _, hd⟩ := (show h.IsListIter it a i from x)
    exact ⟨o, ho, fun v q => by rw [hd] at q; cases q⟩
def itName : Bool → String
  | true => "tuple_iterator"
  | false => "list_iterator"
theorem begins_B (k : Bool) (a : Addr) (items : Array Value) : Begins (.ref a) { cls := .type (itName k), data := .fields #[.ref a, .int 0 0] } fun h => SeqB k h a items := by
  cases k with
  | true => exact begins_tuple a items
  | false => exact begins_list a items
theorem iterB_new {k : Bool} {h : Heap} {it a : Addr} (e : h.get? it = some { cls := .type (itName k), data := .fields #[.ref a, .int 0 0] }) : IterB k h it a 0 := by
  cases k with
  | true => exact ⟨_, e, rfl, rfl⟩
  | false => exact ⟨_, e, rfl, rfl⟩
theorem drawsB {prog : Program} {w : World} {A : Around} (k : Bool) (hh : A.handled = none) (it a : Addr) (hne : a ≠ it) (items : Array Value) : Draws prog w A it [it, a] items.size (fun i v => items[i]? = some v) (fun i h => IterB k h it a i ∧ SeqB k h a items) := by
  cases k with
  | true => exact Draws.tuple hh it a hne items
  | false => exact Draws.list hh it a hne items
section
variable {X : Cx} {pins : List (Addr × Obj)} {σ : St} {H : Hp} {s : Shared}
theorem seqB_of {k : Bool} {a : Addr} {xs : List V} (I : Inv X pins σ H s) (h : SqB X.K k H a xs) : ∃ its, Vals xs its ∧ SeqB k s.heap a its.toArray ∧ a < s.heap.objs.size := by
  cases k with
  | true =>
    obtain ⟨its, rv, p, _⟩ := I.tuple h
    obtain ⟨o, ho, _⟩ := id p
    exact ⟨its, rv, p, Heap.lt_size ho⟩
  | false =>
    obtain ⟨its, rv, p, _⟩ := I.list h
    exact ⟨its, rv, p.isList, p.lt⟩
end
theorem turn_enumT {P : Program} {w : World} {K : PySem.W.Frag} {elts : List Expr} {kk : Nat} {tpos : Pos} (a e it : Addr) :
    Turn P w K (.Tuple elts kk tpos) (IteT K a) [e, it] e (fun i h => (∃ old, IsEnum h e it ((i : Nat) : Int) old) ∧ IterB true h it a i ∧ e ≠ it ∧ a ≠ it ∧ a ≠ e) where
  mem := by simp
  obj := fun i h st b hb => by
    obtain ⟨⟨old, he⟩, hi, _⟩ := st
    have e' : b = e ∨ b = it := by simpa using hb
    rcases e' with z | z
    · rw [z]; exact ⟨_, he, fun v q => nomatch q⟩
    · rw [z]; exact hi.obj
  keep := fun i h h' st k => let ⟨⟨old, he⟩, hi, hne⟩ := st; ⟨⟨old, k e (by simp) _ he⟩, hi.at fun o q => k it (by simp) o q, hne⟩
  item := by
    intro X hP hw hK hc i pins s σ H E I hf st hg
    subst hP hw hK
    obtain ⟨⟨old, he⟩, hit, hne, hai, hae⟩ := st
    obtain ⟨xs, x, hq, hx⟩ := hg
    obtain ⟨its, rv, p, hz⟩ := seqB_of (k := true) I hq
    have hlen := rv.length
    have hil' : i < xs.length := (List.getElem?_eq_some_iff.mp hx).1
    have hel : e < s.heap.objs.size := Heap.lt_size he
    have hil : it < s.heap.objs.size := by obtain ⟨_, q, _⟩ := hit.obj; exact Heap.lt_size q
    refine wpAny_pyNext_enum_itemD (drawsB (A := X.A.in1) true (show X.A.in1.handled = none from I.ok.hd hc) it a hai its.toArray) he ⟨hit, p⟩ (by simp; omega) hne (by simp [hne, Ne.symm hae]) fun u h' tk hu ho hit' hT hsz hk => ?_
    obtain ⟨u', hu', ru⟩ := rv.get hx
    have eu : u = u' := by
      have : its.toArray[i]? = some u' := by simpa using hu'
      rw [hu] at this
      exact Option.some.inj this
    subst eu
    refine ⟨_, rfl, wpAny_letOwnedTupleGo_enum (s := { s with heap := h', toks := tk + 1 }) ho fun h'' he' sb => ?_⟩
    have hT2 : h''.get? s.heap.objs.size = some { cls := .type "tuple", data := .seq #[.int i tk, u] } := (sb.2 _ (Nat.ne_of_gt hel)).trans hT
    have new : ObjOk X.prog X.w (upd H s.heap.objs.size (.tup [.int (i : Nat), x])) h'' s.heap.objs.size (.tup [.int (i : Nat), x]) :=
      ⟨by show 2 ≤ sizeLine; decide, [.int i tk, u], .cons ⟨_, rfl⟩ (.cons ru .nil), ⟨_, hT2, rfl, _, rfl⟩⟩
    have I1 : Inv X pins σ (upd H s.heap.objs.size (.tup [.int (i : Nat), x])) { s with heap := h'', toks := tk + 1 } :=
      I.turnedNew (ch := [e, it]) (fun b ob hb q => (sb.2 b (fun z => hb (by simp [z]))).trans (hk b ob (fun z => hb (by simp [z])) (fun z => hb (by simp [z])) q)) hf (Nat.le_refl _) new
    refine ⟨.ref s.heap.objs.size, _, I1, rfl, ⟨_, x, rfl, I.hok.fresh (Nat.le_refl _), rfl, fun ys hy => by rw [I.tuple_inj hy hq]; exact hx⟩, ⟨⟨u, ?_⟩, hit'.1.at fun o q => (sb.2 it (Ne.symm hne)).trans q, hne, hai, hae⟩, fun b hb => ?_⟩
    · have e1 : ((i + 1 : Nat) : Int) = (i : Int) + 1 := by omega
      rw [e1]; exact he'
    · have hb' : b < s.heap.objs.size := by
        have e' : b = e ∨ b = it := by simpa using hb
        rcases e' with z | z
        · rw [z]; exact hel
        · rw [z]; exact hil
      rw [upd_ne (Nat.ne_of_lt hb')]
      exact (hf b hb).1
  done := by
    intro X hP hw hK hc i pins s σ H E I hf st hg
    subst hP hw hK
    obtain ⟨⟨old, he⟩, hit, hne, hai, hae⟩ := st
    obtain ⟨xs, hq, hx⟩ := hg
    obtain ⟨its, rv, p, hz⟩ := seqB_of (k := true) I hq
    obtain ⟨f0, f1, f2, f3, f4, f5⟩ := hf it (by simp)
    have hl := rv.length
    have en : its.toArray.size = i := by simp; omega
    exact wpAny_pyNext_enum_endD (drawsB (A := X.A.in1) true (show X.A.in1.handled = none from I.ok.hd hc) it a hai its.toArray) he (by rw [en]; exact ⟨hit, p⟩) fun h' eb => ⟨rfl, I.turned (t' := s.toks) (fun b o hb q => eb b o hb q) f0 f1 f3 f4 f5⟩
  self := fun A i s Q E st h => let ⟨⟨_, he⟩, _⟩ := st; wpAny_pyIter_enum he h
end Kx
namespace PySem
theorem meets_enumerate_newB1 {v : Value} {o : Obj} {H : Heap → Prop} (B : Begins v o H) :
    Meets (Builtin.«enumerate.__new__» ⟨[.type "enumerate", v], []⟩) (fun _ R s => H s.heap ∧
      R (.ok (.ret (.ref (s.heap.push o).objs.size))) { s with heap := (s.heap.push o).push { cls := .type "enumerate", data := .fields #[.none, .bool false, .ref s.heap.objs.size, rawInt 0, .none, .none] } }) :=
  .of_wp fun prog w A R s h => by
    obtain ⟨hp, g, d, tk, os⟩ := s; obtain ⟨h1, h⟩ := h
    have hsub := sub_enumerate
    have q1 : ∀ {A' : Around} {E : Value → Shared → Prop} {Q : Value → Shared → Prop}, Q (.ref hp.objs.size) ⟨hp.push o, g, d, tk, os⟩ → wpAny (model prog w) A' (pyIter v) Q E ⟨hp, g, d, tk, os⟩ :=
      fun q => B.iter prog w _ _ ⟨hp, g, d, tk, os⟩ _ h1 q
    wp_walk using q1
    refine wpAny_stack_any fun st => wpAny_pure ?_
    split
    · rename_i c _ _ _ _ _
      cases (c == Value.type "enumerate")
      · wp_walk using q1
        exact ⟨_, rfl, h⟩
      · wp_walk using q1
        exact ⟨_, rfl, h⟩
    · wp_walk using q1
      exact ⟨_, rfl, h⟩
theorem enum_begins1 {prog : Program} {w : World} {A : Around} {E : Value → Shared → Prop} {s : Shared} {v : Value} {o : Obj} {H : Heap → Prop} {Q : Value → Shared → Prop} (B : Begins v o H) (h1 : H s.heap)
    (h : ∀ h', IsEnum h' (s.heap.objs.size + 1) s.heap.objs.size 0 .none → h'.get? s.heap.objs.size = some o → h'.objs.size = s.heap.objs.size + 2 →
      (∀ b o, s.heap.get? b = some o → h'.get? b = some o) → Q (.ref (s.heap.objs.size + 1)) { s with heap := h' }) :
    wpAny (model prog w) A (call (.type "enumerate") [v]) Q E s := by
  refine callType_new F.called_enumerate (by decide) (F.typeCall_enumerate_1 _) (F.newCall_enumerate_1 _) (fun obj => F.args_object_init_2 obj _) F.entry_enumerate_new
    (meets_enumerate_newB1 B) ⟨h1, ?_⟩
  have hz : (s.heap.push o).objs.size = s.heap.objs.size + 1 := Heap.size_push ..
  show _ ∧ _
  rw [hz]
  have he : IsEnum ((s.heap.push o).push { cls := .type "enumerate", data := .fields #[.none, .bool false, .ref s.heap.objs.size, rawInt 0, .none, .none] }) (s.heap.objs.size + 1) s.heap.objs.size 0 .none := by
    have := Heap.get?_push_size (s.heap.push o) (o := { cls := .type "enumerate", data := .fields #[.none, .bool false, .ref s.heap.objs.size, rawInt 0, .none, .none] }) rfl
    rw [hz] at this; exact this
  refine ⟨⟨_, he, rfl⟩, h _ he (Heap.get?_push_of_some _ (Heap.get?_push_size _ B.free)) (by rw [Heap.size_push, hz]) fun b o x => Heap.get?_push_of_some _ (Heap.get?_push_of_some _ x)⟩
end PySem
namespace Kx
open PySem L2
theorem pi_enumT {X : Cx} {e : Expr} {ta : TA} {p pos tpos : Pos} {elts : List Expr} {kk : Nat} (hg : Gl X "enumerate") (hm : X.mg "enumerate" = none) (ha : PA X [e] ta) (hs : starEach [e] X.env = [(false, eval e X.env)] := by rfl) :
    PI X (.Tuple elts kk tpos) (.Call (.Name "enumerate" p) [e] [] pos) (iEnumT X.K ta) := by
  refine ⟨fun pins s σ H R I h => ?_⟩
  refine PyProof.Rows.Call_ (ld_blt I hg hm PyProof.Rows.boot_enumerate (PyProof.Rows.callWith_type1 (thn (ha.run pos pins s σ H _ I h) fun us s1 ⟨vs, H1, I1, r1, q1⟩ => ?_) hs rfl))
  obtain ⟨a, xs, ex, hq, q⟩ := q1
  subst ex
  cases r1 with
  | cons r rr =>
    cases rr
    cases r
    obtain ⟨its, rv, p', hz⟩ := seqB_of (k := true) I1 hq
    refine enum_begins1 (begins_B true a its.toArray) p' fun h' he hit hsz hk => wpAny_pyIter_enum he ?_
    have I2 : Inv X pins σ H1 { s1 with heap := h' } := I1.kept (t' := s1.toks) hk
    refine ⟨s1.heap.objs.size + 1, [s1.heap.objs.size + 1, s1.heap.objs.size], _, _, H1, rfl, I2, turn_enumT a (s1.heap.objs.size + 1) s1.heap.objs.size, ⟨⟨.none, he⟩, iterB_new hit, Nat.succ_ne_self _, Nat.ne_of_lt hz, Nat.ne_of_lt (Nat.lt_succ_of_lt hz)⟩, fun b hb => ?_, q⟩
    have e' : b = s1.heap.objs.size + 1 ∨ b = s1.heap.objs.size := by simpa using hb
    have hle : s1.heap.objs.size ≤ b := by
      rcases e' with z | z
      · rw [z]; exact Nat.le_add_right _ _
      · rw [z]; exact Nat.le_refl _
    exact I1.fpOk hle (I1.hok.fresh hle)
section
variable {K : PySem.W.Frag} {σ : St} {G G' M M1 M2 M3 : Hp} {ta tb te tc : TE} {P P1 P2 : VP} {d e : Dat} {ds es : List Dat}
def seqD : Bool → List Dat → Dat
  | true => .tuple
  | false => .list
theorem src_enumT [Tb] {ta : TA} (h : EvA ta σ G M M1 (conP (DD K (.tuple ds)) nilP)) : Src K (iEnumT K ta) σ G M M1 (enumD ds) := fun G0 H s k R q =>
  h G0 H s k _ fun vs G1 H1 s1 k1 hv => by
    obtain ⟨v, rfl, hw⟩ := one_of (R := nilP) hv
    obtain ⟨a, vs, rfl, h1, h2⟩ := dp_tuple hw
    refine ⟨a, vs, rfl, sqT_up k1.g h1, q _ G1 H1 s1 k1 ?_⟩
    have w : Walk (IteT K a) vs.length (fun H => SqT K H a vs) (YPair (fun i => some (.int (i : Nat))) (fun i => vs[i]?)) := by
      refine ⟨fun i _ hi q => ⟨vs, vs[i], q, by simp [hi]⟩, fun _ q => ⟨vs, q, rfl⟩, fun i H v H' _ q y => ?_⟩
      obtain ⟨T, x, h1, h2, h3, h4⟩ := y
      exact ⟨T, .int (i : Nat), x, h1, h2, h3, rfl, h4 vs q⟩
    refine walks_pair w (by simp [enumD, dpAll_len h2]) (fun H s => sqT_up s h1) fun i d x y hd hx hy => ?_
    cases hx
    unfold enumD at hd
    rw [List.getElem?_mapIdx] at hd
    cases e : ds[i]? with
    | none => rw [e] at hd; cases hd
    | some d' =>
      rw [e] at hd
      cases hd
      exact ⟨_, _, rfl, .int _, dqAll_at h2 hy e⟩
end
end Kx
end
section
set_option maxHeartbeats 2000000
namespace Kx
open PySem L2
section
variable {X : Cx} {K : PySem.W.Frag}
theorem ix_listK (h : X.K = K := by rfl) : IxR X (rIxL K) := h ▸ ix_list
theorem ix_tupK (h : X.K = K := by rfl) : IxR X (rIxT K) := h ▸ ix_tup
theorem sl_tupK (h : X.K = K := by rfl) : SlR X (rSlF K) := h ▸ sl_tupF
theorem cl_lenK (h : X.K = K := by rfl) : CallR X (.builtin "len") (rLen K) := h ▸ cl_len
theorem cl_tupleK (h : X.K = K := by rfl) : CallR X (.type "tuple") (rTupOf K) := h ▸ cl_tuple
theorem call_isiKK (h : X.K = K := by rfl) : CallR X (.builtin "isinstance") (rIsi K) := h ▸ call_isi
theorem cr_allK (hc : X.calm = true) (h : X.K = K := by rfl) : CallR X (.builtin "all") (rAll K) := h ▸ cr_all hc
theorem op_eqDK (hu : X.A.units + 64 < cLine) (h : X.K = K := by rfl) : OpR X (compareOp .Eq) (rEqD K) := h ▸ op_eqD hu
theorem op_neDK (hu : X.A.units + 64 < cLine) (h : X.K = K := by rfl) : OpR X (compareOp .NotEq) (rNeD K) := h ▸ op_neD hu
theorem pi_listK {tg l : Expr} {tl : TE} (hl : PE X l tl) (h : X.K = K := by rfl) : PI X tg l (iList K tl) := h ▸ pi_list hl
theorem pi_tupK {tg l : Expr} {tl : TE} (hl : PE X l tl) (h : X.K = K := by rfl) : PI X tg l (iTup K tl) := h ▸ pi_tup hl
theorem pi_enumK {e : Expr} {ta : TA} {p pos tpos : Pos} {elts : List Expr} {kk : Nat} (hg : Gl X "enumerate") (hm : X.mg "enumerate" = none) (ha : PA X [e] ta) (h : X.K = K := by rfl) (hs : starEach [e] X.env = [(false, eval e X.env)] := by rfl) :
    PI X (.Tuple elts kk tpos) (.Call (.Name "enumerate" p) [e] [] pos) (iEnum K ta) := h ▸ pi_enum hg hm ha hs
theorem pi_enumTK {e : Expr} {ta : TA} {p pos tpos : Pos} {elts : List Expr} {kk : Nat} (hg : Gl X "enumerate") (hm : X.mg "enumerate" = none) (ha : PA X [e] ta) (h : X.K = K := by rfl) (hs : starEach [e] X.env = [(false, eval e X.env)] := by rfl) :
    PI X (.Tuple elts kk tpos) (.Call (.Name "enumerate" p) [e] [] pos) (iEnumT K ta) := h ▸ pi_enumT hg hm ha hs
end
end Kx
end
section
set_option maxHeartbeats 2000000
namespace Kx
open PySem L2
/-! ### a call by names alone -/
structure KBw (K : PySem.W.Frag) (fd : FuncData) (ps ks : List Str) (g : {α : Type} → List α → List α) : Prop where
  to : ∀ (s : Shared) (ws : List Value), K.In s.heap → ws.length = ks.length → BindsTo s fd ⟨[], ks.zip ws⟩ (ps.zip (g ws))
  rel : ∀ {zs : List V} {ws : List Value}, Vals zs ws → Vals (g zs) (g ws)
theorem kbw_of {K : PySem.W.Frag} {x qual : Str} {st : Stmt} {f : Addr} {fd : FuncData} {ps ks : List Str} {g : {α : Type} → List α → List α} (F : Fun K x qual st f fd)
    (h : ∀ (kV doc pm : Value) (an : Option Addr) (cdv ct : Value) (ws : List Value), ws.length = ks.length → bindArgs (PySem.W.fnOf x qual (defArgs st) (defBody st) (defScope st) .none kV doc pm an cdv ct) ⟨[], ks.zip ws⟩ = pure (ps.zip (g ws)))
    (hr : ∀ {zs : List V} {ws : List Value}, Vals zs ws → Vals (g zs) (g ws)) : KBw K fd ps ks g := by
  obtain ⟨oc, od, kV, doc, pm, an, cdv, ct, osl, rfl, lk, hcd⟩ := F.ex
  exact ⟨fun s ws _ hl => .of_eq (h kV doc pm an cdv ct ws hl), hr⟩
section
variable {K : PySem.W.Frag} {σ : St} {G G' M M1 M2 M3 : Hp} {ta tb te tc : TE} {P P1 P2 : VP} {d e : Dat} {ds es : List Dat} {D : Ends} {H : Hp} {u : TS}
/-! ### a list or a tuple -/
theorem ix_seqK {X : Cx} (h : X.K = K := by rfl) : IxR X (rIx K) := h ▸ ix_seq
/-! ### what may be None, and isn't -/
theorem ev_unO [Tb] {β : Type} {e : β → Dat} {o : Option β} {x : β} (h : o = some x) (ha : Ev ta σ G M M1 (DD K (eO e o))) : Ev ta σ G M M1 (DD K (e x)) := by subst h; exact ha
/-! ### the script -/
def SCP (K : PySem.W.Frag) (ns : List Int) : VP := fun v G => ∃ a, v = .ref a ∧ SqL K G a (ns.map V.int)
theorem mo_scp {ns : List Int} : Mo (SCP K ns) := fun _ _ _ s ⟨a, e, h⟩ => ⟨a, e, s.seq h⟩
theorem ev_lenScr [Tb] {ns : List Int} (ha : EvA (tCons ta tNil) σ G M M1 (conP (SCP K ns) nilP)) : Ev (tCB (rLen K) (tCons ta tNil)) σ G M M1 (DD K (.int (ns.length : Int))) := ev_cb ha fun xs G0 H s k hx Q q => by
  obtain ⟨v, rfl, a, rfl, ha⟩ := one_of (R := nilP) hx
  refine ⟨a, _, rfl, .inl (k.g.seq ha), q _ G0 H (Same.refl _) k ?_⟩
  rw [List.length_map]
  exact .int _
theorem ev_ixScr [Tb] {ns : List Int} {i x : Int} (hi : atI ns i = some x) (ha : Ev ta σ G M M1 (SCP K ns)) (hb : Ev tb σ G M1 M2 (DD K (.int i))) : Ev (tOp (rIxL K) ta tb) σ G M M2 (DD K (.int x)) := ev_op mo_scp ha hb fun x' y G0 H s k hx hy Q q => by
  obtain ⟨a, rfl, ha⟩ := hx
  cases hy
  exact ⟨a, _, i, .int x, rfl, rfl, k.g.seq ha, atI_map hi, q _ G0 H (Same.refl _) k (.int _)⟩
/-! ### a def that makes a store -/
def spO [Tb] {α : Type} (args : α → List V → Hp → Prop) (m : α → Option Sto) : Sp := fun vs H Q _ =>
  ∃ (G M : Hp) (a : α) (z : Sto), Ok G M H ∧ args a vs G ∧ m a = some z ∧ ∀ p G' H', Same G G' → Ok G' (upd M p (sto z)) H' → M p = none → Q (.ref p) H'
theorem q_retL [Tb] (he : EvL K te σ G M M1 ds) (ok : Ok G M H) (k : ∀ p vs G' H', Same G G' → Ok G' (upd M1 p (.lst vs)) H' → M1 p = none → DqAll K G' vs ds → D.rt (.ref p) H') : tSeq (tRet te) u D σ H := he G H (Same.refl _) ok _ k
theorem vs_sto {G : Hp} {vs : List V} {x y z : Int} (h : DqAll K G vs [.int x, .int y, .int z]) : vs = [.int x, .int y, .int z] := by
  cases h with
  | cons a b => cases a; cases b with
    | cons a b => cases a; cases b with
      | cons a b => cases a; cases b; rfl
/-- f(g(..)): the store that g makes is handed on to f -/
theorem ev_open [Tb] {α ρ : Type} {ao : α → List V → Hp → Prop} {mo : α → Option Sto} {args : Unit → List V → Hp → Prop} {m : Unit → Sto → Option (ρ × Sto)} {res : ρ → VP} {E E' : XK} {t : TA} {a : α} {z : Sto} {r : ρ × Sto} (h1 : mo a = some z) (h2 : m () z = some r) (hn : ∀ G, args () [] G) (ha : EvA t σ G M M1 (ao a)) :
    Ev (tCall (spD args m res) [] E (tCons (tCall (spO ao mo) [] E' t) tNil)) σ G M M1 (res r.1) := fun G0 H s k Q q =>
  ha G0 H s k _ fun vs G1 H1 s1 k1 hv => by
    rw [List.append_nil]
    refine ⟨G1, M1, a, z, k1, hv, h1, fun p G2 H2 s2 k2 hp => ?_⟩
    refine ⟨G2, upd M1 p (sto z), p, z, r.2, (), r.1, [], rfl, k2, upd_same, hn G2, h2, fun v G3 H3 s3 k3 hr => ?_⟩
    rw [upd_upd] at k3
    exact q v G3 H3 ((s1.trans s2).trans s3) (k3.less (Same.new hp)) hr
end
end Kx
end
section
namespace Kx
open PySem L2
/-- one draw -/
def pullM (a : Int) (z : Sto) : Option (Int × Sto) :=
  cond (decide ((0 : Int) < z.1)) ((dmO z.1 a).bind fun t1 => some (t1.2, (t1.1, z.2.1, z.2.2 + 1)))
    ((modO z.2.1 40961).bind fun t1 => (mulO z.2.1 (t1 + 20011)).bind fun t2 => (mulO 50021 (z.2.2 + 1)).bind fun t3 => (modO (t2 + t3 + 3) 1000000433).bind fun t4 => (fdivO t4 48).bind fun t5 => (modO t5 a).bind fun t6 => some (t6, (z.1, t4, z.2.2 + 1)))
end Kx
namespace Kx
open PySem L2
theorem same_upd2 {M0 M : Hp} {p : Addr} {o : HO} (h : Same M0 M) : Same (upd M0 p o) (upd M p o) := fun a u e => by
  by_cases ha : a = p
  · subst ha; rw [upd_same] at e ⊢; exact e
  · rw [upd_ne ha] at e ⊢; exact h a u e
end Kx
end
section
set_option maxHeartbeats 2000000
namespace Kx
open PySem L2
end Kx
end
section
set_option maxHeartbeats 2000000
namespace Kx
open PySem L2
section
variable {K : PySem.W.Frag} {σ σ' : St} {G G' M M1 M2 M3 : Hp} {ta tb te tc : TE} {P P1 P2 : VP} {d e : Dat} {ds es : List Dat} {D : Ends} {H : Hp} {u : TS}
/-! ### several targets at once -/
def EvX [Tb] (ta : TA) (σ : St) (G M : Hp) (F : List V → Hp → Hp → Prop) : Prop :=
  ∀ G0 H, Same G G0 → Ok G0 M H → ∀ Q : List V → Hp → Prop, (∀ vs G' M' H', Same G0 G' → Ok G' M' H' → F vs G' M' → Q vs H') → ta σ H Q
theorem ex_nil [Tb] : EvX tNil σ G M fun vs _ M' => vs = [] ∧ M' = M := fun G0 H _ k Q q => q [] G0 M H (Same.refl _) k ⟨rfl, rfl⟩
theorem ex_L [Tb] {tr : TA} {R : Addr → List V → List V → Hp → Hp → Prop} (ha : EvL K ta σ G M M1 ds) (hr : ∀ p ws, M1 p = none → EvX tr σ G (upd M1 p (.lst ws)) (R p ws)) :
    EvX (tCons ta tr) σ G M fun vs G' M' => ∃ p ws r, vs = .ref p :: r ∧ M1 p = none ∧ DqAll K G' ws ds ∧ R p ws r G' M' := fun G0 H s k Q q =>
  ha G0 H s k _ fun p ws G1 H1 s1 k1 hp hd => hr p ws hp G1 H1 (s.trans s1) k1 _ fun xs G2 M2 H2 s2 k2 hy => q (.ref p :: xs) G2 M2 H2 (s1.trans s2) k2 ⟨p, ws, xs, rfl, hp, dpAll_up s2 _ hd, hy⟩
theorem q_parX [Tb] {i j : Nat} {ta : TA} {F : List V → Hp → Hp → Prop} (he : EvX ta σ G M F) (ok : Ok G M H) (k : ∀ vs G' M' H', Same G G' → Ok G' M' H' → F vs G' M' → ∃ v w, vs = [v, w] ∧ u D ((σ.set i (some v)).set j (some w)) H') : tSeq (tPar i j ta) u D σ H :=
  he G H (Same.refl _) ok _ fun vs G1 M1 H1 s1 k1 hv => k vs G1 M1 H1 s1 k1 hv
/-! the same where a tuple is made on the way -/
/-! ### things of any kind -/
def isT : Dat → Bool
  | .tuple _ => true
  | .rtup _ => true
  | _ => false
def isI : Dat → Bool
  | .int _ => true
  | .bool _ => true
  | _ => false
def isB : Dat → Bool
  | .bool _ => true
  | _ => false
def isS : Dat → Bool
  | .str _ => true
  | _ => false
/-- isinstance of a thing that is no instance of an own class -/
def isO (f : Dat → Bool) (d : Dat) : Option Bool := cond (isIns d) none (some (f d))
theorem isO_of {f : Dat → Bool} {b : Bool} (h : isO f d = some b) : isIns d = false ∧ f d = b := by
  unfold isO at h
  cases e : isIns d with
  | true => rw [e] at h; cases h
  | false => rw [e] at h; exact ⟨rfl, Option.some.inj h⟩
def IsC (n : String) (f : Dat → Bool) : Prop := ∀ d : Dat, isIns d = false → kitB (tyD d) n = some (f d)
theorem isc_T : IsC "tuple" isT := fun d h => by
  cases d with
  | none => exact (show kitB "NoneType" "tuple" = some false by decide +kernel)
  | bool _ => exact (show kitB "bool" "tuple" = some false by decide +kernel)
  | int _ => exact (show kitB "int" "tuple" = some false by decide +kernel)
  | str _ => exact (show kitB "str" "tuple" = some false by decide +kernel)
  | list _ => exact (show kitB "list" "tuple" = some false by decide +kernel)
  | tuple _ => exact (show kitB "tuple" "tuple" = some true by decide +kernel)
  | rtup _ => exact (show kitB "tuple" "tuple" = some true by decide +kernel)
  | dK _ _ => exact (show kitB "dict" "tuple" = some false by decide +kernel)
  | dT _ _ => exact (show kitB "dict" "tuple" = some false by decide +kernel)
  | ins _ _ _ => cases h
theorem isc_I : IsC "int" isI := fun d h => by
  cases d with
  | none => exact (show kitB "NoneType" "int" = some false by decide +kernel)
  | bool _ => exact (show kitB "bool" "int" = some true by decide +kernel)
  | int _ => exact (show kitB "int" "int" = some true by decide +kernel)
  | str _ => exact (show kitB "str" "int" = some false by decide +kernel)
  | list _ => exact (show kitB "list" "int" = some false by decide +kernel)
  | tuple _ => exact (show kitB "tuple" "int" = some false by decide +kernel)
  | rtup _ => exact (show kitB "tuple" "int" = some false by decide +kernel)
  | dK _ _ => exact (show kitB "dict" "int" = some false by decide +kernel)
  | dT _ _ => exact (show kitB "dict" "int" = some false by decide +kernel)
  | ins _ _ _ => cases h
theorem isc_B : IsC "bool" isB := fun d h => by
  cases d with
  | none => exact (show kitB "NoneType" "bool" = some false by decide +kernel)
  | bool _ => exact (show kitB "bool" "bool" = some true by decide +kernel)
  | int _ => exact (show kitB "int" "bool" = some false by decide +kernel)
  | str _ => exact (show kitB "str" "bool" = some false by decide +kernel)
  | list _ => exact (show kitB "list" "bool" = some false by decide +kernel)
  | tuple _ => exact (show kitB "tuple" "bool" = some false by decide +kernel)
  | rtup _ => exact (show kitB "tuple" "bool" = some false by decide +kernel)
  | dK _ _ => exact (show kitB "dict" "bool" = some false by decide +kernel)
  | dT _ _ => exact (show kitB "dict" "bool" = some false by decide +kernel)
  | ins _ _ _ => cases h
theorem isc_S : IsC "str" isS := fun d h => by
  cases d with
  | none => exact (show kitB "NoneType" "str" = some false by decide +kernel)
  | bool _ => exact (show kitB "bool" "str" = some false by decide +kernel)
  | int _ => exact (show kitB "int" "str" = some false by decide +kernel)
  | str _ => exact (show kitB "str" "str" = some true by decide +kernel)
  | list _ => exact (show kitB "list" "str" = some false by decide +kernel)
  | tuple _ => exact (show kitB "tuple" "str" = some false by decide +kernel)
  | rtup _ => exact (show kitB "tuple" "str" = some false by decide +kernel)
  | dK _ _ => exact (show kitB "dict" "str" = some false by decide +kernel)
  | dT _ _ => exact (show kitB "dict" "str" = some false by decide +kernel)
  | ins _ _ _ => cases h
theorem ev_isiD [Tb] {n : String} {f : Dat → Bool} {b : Bool} (hc : IsC n f) (h : isO f d = some b) (ha : EvA (tCons ta (tCons tb tNil)) σ G M M1 (conP (DD K d) (conP (CLS n) nilP))) : Ev (tCB (rIsi K) (tCons ta (tCons tb tNil))) σ G M M1 (DD K (.bool b)) := by
  obtain ⟨h1, h2⟩ := isO_of h
  exact ev_isi h1 (h2 ▸ hc d h1) ha
def lenD : Dat → Option Int
  | .tuple xs => some (xs.length : Int)
  | .list xs => some (xs.length : Int)
  | _ => none
theorem ev_lenD [Tb] {n : Int} (h : lenD d = some n) (ha : EvA (tCons ta tNil) σ G M M1 (conP (DD K d) nilP)) : Ev (tCB (rLen K) (tCons ta tNil)) σ G M M1 (DD K (.int n)) := by
  cases d with
  | tuple xs => cases h; exact ev_lenT ha
  | list xs => cases h; exact ev_lenL ha
  | _ => cases h
def atD : Dat → Int → Option Dat
  | .tuple xs, i => atI xs i
  | .list xs, i => atI xs i
  | _, _ => none
theorem ev_ixD [Tb] {i : Int} {x : Dat} (h : atD d i = some x) (ha : Ev ta σ G M M1 (DD K d)) (hb : Ev tb σ G M1 M2 (DD K (.int i))) : Ev (tOp (rIx K) ta tb) σ G M M2 (DD K x) := ev_op mo_dd ha hb fun v w G0 H s k hx hy Q q => by
  cases d with
  | tuple xs =>
    obtain ⟨a, vs, rfl, h1, h2⟩ := dp_tuple hx
    cases hy
    obtain ⟨v, h3, h4⟩ := atI_of h2 h
    exact .inr (.inl ⟨a, vs, i, v, rfl, rfl, sqT_up k.g h1, h3, q v G0 H (Same.refl _) k h4⟩)
  | list xs =>
    obtain ⟨a, vs, rfl, h1, h2⟩ := dp_list hx
    cases hy
    obtain ⟨v, h3, h4⟩ := atI_of h2 h
    exact .inl ⟨a, vs, i, v, rfl, rfl, .inl (.inl (k.g _ _ h1)), h3, q v G0 H (Same.refl _) k h4⟩
  | _ => cases h
def eqDO (d e : Dat) : Option Bool := (grd ((pur d = true ∧ pur e = true) ∧ (toPy d).depth ≤ 64 ∧ (toPy e).depth ≤ 64)).bind fun _ => some (PyData.eqv (toPy d) (toPy e))
theorem ev_neDO [Tb] {b : Bool} (h : eqDO d e = some b) (ha : Ev ta σ G M M1 (DD K d)) (hb : Ev tb σ G M1 M2 (DD K e)) : Ev (tOp (rNeD K) ta tb) σ G M M2 (DD K (.bool (!b))) := by
  obtain ⟨_, h1, h2⟩ := bs h
  cases h2
  have z := grd_of h1
  exact ev_neD z.1.1 z.1.2 z.2.1 z.2.2 ha hb
def intD : Dat → Option Int
  | .int i => some i
  | _ => none
def strD : Dat → Option Str
  | .str x => some x
  | _ => none
def tupD : Dat → Option (List Dat)
  | .tuple x => some x
  | _ => none
theorem ev_intD [Tb] {i : Int} (h : intD d = some i) (ha : Ev ta σ G M M1 (DD K d)) : Ev ta σ G M M1 (DD K (.int i)) := by
  cases d with
  | int j => cases h; exact ha
  | _ => cases h
theorem ev_strD [Tb] {i : Str} (h : strD d = some i) (ha : Ev ta σ G M M1 (DD K d)) : Ev ta σ G M M1 (DD K (.str i)) := by
  cases d with
  | str j => cases h; exact ha
  | _ => cases h
theorem ev_tupD [Tb] {i : List Dat} (h : tupD d = some i) (ha : Ev ta σ G M M1 (DD K d)) : Ev ta σ G M M1 (DD K (.tuple (i.map id))) := by
  rw [List.map_id]
  cases d with
  | tuple j => cases h; exact ha
  | _ => cases h
/-! ### least and greatest of a list of ints -/
end
end Kx
namespace Kx
open PySem L2
end Kx
end
section
set_option maxHeartbeats 2000000
namespace Kx
open PySem L2
/-! ### min(rows): a walk whose comparison reads the heap -/
end Kx
namespace Kx
open PySem L2
end Kx
namespace Kx
open PySem L2
end Kx
end
section
set_option maxHeartbeats 2000000
namespace Kx
open PySem L2
/-! ### texts -/
theorem sok_iff {z : Str} : sok z = true ↔ ∀ c ∈ z.cps.toList, c < 0x110000 := by
  unfold sok PyData.strOk
  rw [Array.all_eq_true']
  simp
theorem sok_app {a b : Str} (ha : sok a = true) (hb : sok b = true) : sok (a ++ b) = true := by
  rw [sok_iff] at *
  intro c hc
  have e : (a ++ b).cps.toList = a.cps.toList ++ b.cps.toList := by
    show (a.cps ++ b.cps).toList = _
    simp
  rw [e] at hc
  rcases List.mem_append.mp hc with h | h
  · exact ha c h
  · exact hb c h
def lenS (z : Str) : Option Int := (grd (z.length ≤ 16777216)).bind fun _ => some (z.length : Int)
def atS (z : Str) (i : Int) : Option Str := (grd (z.length ≤ 16777216)).bind fun _ => (atI z.cps.toList i).bind fun c => some ⟨#[c]⟩
def addS (a b : Str) : Option Str := (grd (a.length + b.length ≤ 16777216)).bind fun _ => some (a ++ b)
def inSign (x z : Str) : Option Bool := match x.cps.toList with
  | [c] => some (decide (c ∈ z.cps.toList))
  | _ => none
def sLt (a b : Str) : Bool := decide (a.cps.toList < b.cps.toList)
section
variable {K : PySem.W.Frag} {σ σ' : St} {G G' M M1 M2 M3 : Hp} {ta tb te tc : TE} {P P1 P2 : VP} {d e : Dat} {ds es : List Dat} {D : Ends} {H : Hp} {u : TS}
theorem dq_str {G : Hp} {v : V} {z : Str} (h : Dq K G v (.str z)) : v = .str z ∧ sok z = true := by
  cases h with
  | str h => exact ⟨rfl, h⟩
def rLenS : List V → Hp → VK → Prop := fun xs H Q => ∃ z, xs = [.str z] ∧ z.length ≤ sizeLine ∧ Q (.int z.length) H
theorem ev_lenS [Tb] {z : Str} {n : Int} (h : lenS z = some n) (ha : EvA (tCons ta tNil) σ G M M1 (conP (DD K (.str z)) nilP)) : Ev (tCB rLenS (tCons ta tNil)) σ G M M1 (DD K (.int n)) := ev_cb ha fun xs G0 H s k hx Q q => by
  obtain ⟨v, rfl, hv⟩ := one_of (R := nilP) hx
  obtain ⟨rfl, _⟩ := dq_str hv
  obtain ⟨_, h1, h2⟩ := bs h
  cases h2
  exact ⟨z, rfl, szl (grd_of h1), q _ G0 H (Same.refl _) k (.int _)⟩
theorem ev_ixS [Tb] {z y : Str} {i : Int} (h : atS z i = some y) (ha : Ev ta σ G M M1 (DD K (.str z))) (hb : Ev tb σ G M1 M2 (DD K (.int i))) : Ev (tOp rIxS ta tb) σ G M M2 (DD K (.str y)) := ev_op mo_dd ha hb fun v w G0 H s k hx hy Q q => by
  obtain ⟨rfl, hz⟩ := dq_str hx
  cases hy
  obtain ⟨_, h1, h2⟩ := bs h
  obtain ⟨c, h3, h4⟩ := bs h2
  cases h4
  refine ⟨z, i, c, rfl, rfl, szl (grd_of h1), h3, q _ G0 H (Same.refl _) k (.str (sok_sign hz ?_))⟩
  unfold atI at h3
  obtain ⟨j, _, h5⟩ := bs h3
  exact List.mem_of_getElem? h5
theorem ev_addS [Tb] {a b c : Str} (h : addS a b = some c) (ha : Ev ta σ G M M1 (DD K (.str a))) (hb : Ev tb σ G M1 M2 (DD K (.str b))) : Ev (tOp (fun x y H Q => ∃ i j, x = V.str i ∧ y = .str j ∧ i.length + j.length ≤ sizeLine ∧ Q (.str (i ++ j)) H) ta tb) σ G M M2 (DD K (.str c)) := ev_op mo_dd ha hb fun v w G0 H s k hx hy Q q => by
  obtain ⟨rfl, h1⟩ := dq_str hx
  obtain ⟨rfl, h2⟩ := dq_str hy
  obtain ⟨_, h3, h4⟩ := bs h
  cases h4
  exact ⟨a, b, rfl, rfl, szl (grd_of h3), q _ G0 H (Same.refl _) k (.str (sok_app h1 h2))⟩
theorem inSign_of {x z : Str} {b : Bool} (h : inSign x z = some b) : ∃ c, x = ⟨#[c]⟩ ∧ b = decide (c ∈ z.cps.toList) := by
  unfold inSign at h
  split at h
  · next c e =>
    refine ⟨c, ?_, (Option.some.inj h).symm⟩
    cases x with
    | mk cps =>
      congr 1
      apply Array.toList_inj.mp
      exact e
  · cases h
theorem ev_inSign [Tb] {x z : Str} {b : Bool} (h : inSign x z = some b) (ha : Ev ta σ G M M1 (DD K (.str x))) (hb : Ev tb σ G M1 M2 (DD K (.str z))) : Ev (tOp (fun x y H Q => ∃ (c : Nat) (z : Str), x = V.str ⟨#[c]⟩ ∧ y = .str z ∧ Q (.bl (decide (c ∈ z.cps.toList))) H) ta tb) σ G M M2 (DD K (.bool b)) := ev_op mo_dd ha hb fun v w G0 H s k hx hy Q q => by
  obtain ⟨rfl, _⟩ := dq_str hx
  obtain ⟨rfl, _⟩ := dq_str hy
  obtain ⟨c, rfl, rfl⟩ := inSign_of h
  exact ⟨c, z, rfl, rfl, q _ G0 H (Same.refl _) k (.bl _)⟩
theorem ev_leS [Tb] {a b : Str} (ha : Ev ta σ G M M1 (DD K (.str a))) (hb : Ev tb σ G M1 M2 (DD K (.str b))) : Ev (tOp (fun x y H Q => ∃ i j, x = V.str i ∧ y = .str j ∧ Q (.bl (!decide (j.cps.toList < i.cps.toList))) H) ta tb) σ G M M2 (DD K (.bool (!sLt b a))) := ev_op mo_dd ha hb fun v w G0 H s k hx hy Q q => by
  obtain ⟨rfl, _⟩ := dq_str hx
  obtain ⟨rfl, _⟩ := dq_str hy
  exact ⟨a, b, rfl, rfl, q _ G0 H (Same.refl _) k (.bl _)⟩
theorem ev_ltS [Tb] {a b : Str} (ha : Ev ta σ G M M1 (DD K (.str a))) (hb : Ev tb σ G M1 M2 (DD K (.str b))) : Ev (tOp (fun x y H Q => ∃ i j, x = V.str i ∧ y = .str j ∧ Q (.bl (decide (i.cps.toList < j.cps.toList))) H) ta tb) σ G M M2 (DD K (.bool (sLt a b))) := ev_op mo_dd ha hb fun v w G0 H s k hx hy Q q => by
  obtain ⟨rfl, _⟩ := dq_str hx
  obtain ⟨rfl, _⟩ := dq_str hy
  exact ⟨a, b, rfl, rfl, q _ G0 H (Same.refl _) k (.bl _)⟩
theorem cl_lenS {X : Cx} : CallR X (.builtin "len") rLenS := call_len_str
/-! ### a text among texts -/
theorem strs_flat : ∀ (xs : List Str), (xs.map V.str).all flatV = true
  | [] => rfl
  | x :: xs => by
    rw [List.map_cons, List.all_cons, strs_flat xs]; rfl
theorem inV_strs (x : Str) : ∀ (xs : List Str), inV (.str x) (xs.map V.str) = memB x xs
  | [] => by simp [inV, memB]
  | y :: ys => by
    have ih := inV_strs x ys
    unfold inV at ih ⊢
    rw [List.map_cons, List.any_cons, ih]
    have e : eqV (.str y) (.str x) = decide (y = x) := by unfold eqV; exact beq_dec y x
    rw [e]
    unfold memB
    by_cases h : x = y
    · simp [h]
    · simp [h, Ne.symm h]
theorem op_inSK {X : Cx} (h : X.K = K := by rfl) : OpR X (compareOp .In) (rIn K false) := h ▸ op_in_seq
theorem ev_inS [Tb] {x : Str} {xs : List Str} {k : Bool} (ha : Ev ta σ G M M1 (DD K (.str x))) (hb : Ev tb σ G M1 M2 (DD K (seqD k (xs.map Dat.str)))) : Ev (tOp (rIn K false) ta tb) σ G M M2 (DD K (.bool (memB x xs))) := ev_op mo_dd ha hb fun v w G0 H s kk hx hy Q q => by
  obtain ⟨rfl, _⟩ := dq_str hx
  cases k with
  | true =>
    obtain ⟨a, vs, rfl, h1, h2⟩ := dp_tuple (show Dq K G0 w (.tuple (xs.map Dat.str)) from hy)
    rw [dpAll_strs h2] at h1
    refine ⟨a, _, rfl, .inr (sqT_up kk.g h1), rfl, strs_flat xs, ?_⟩
    rw [if_neg (by decide), inV_strs]
    exact q _ G0 H (Same.refl _) kk (.bl _)
  | false =>
    obtain ⟨a, vs, rfl, h1, h2⟩ := dp_list (show Dq K G0 w (.list (xs.map Dat.str)) from hy)
    rw [dpAll_strs h2] at h1
    refine ⟨a, _, rfl, .inl (.inl (.inl (kk.g _ _ h1))), rfl, strs_flat xs, ?_⟩
    rw [if_neg (by decide), inV_strs]
    exact q _ G0 H (Same.refl _) kk (.bl _)
end
end Kx
end
section
set_option maxHeartbeats 2000000
namespace Kx
open PySem L2
/-! ### the order of texts -/
theorem sLt_irr (a : Str) : sLt a a = false := decide_eq_false (List.lt_irrefl _)
theorem sLt_trans {a b c : Str} (h1 : sLt a b = true) (h2 : sLt b c = true) : sLt a c = true := decide_eq_true (List.lt_trans (of_decide_eq_true h1) (of_decide_eq_true h2))
theorem str_ext {a b : Str} (h : a.cps.toList = b.cps.toList) : a = b := by
  cases a with
  | mk x =>
    cases b with
    | mk y =>
      congr 1
      exact Array.toList_inj.mp h
theorem sLt_tri {a b : Str} (h1 : sLt a b = false) (h2 : sLt b a = false) : a = b := by
  have l1 : ¬ a.cps.toList < b.cps.toList := of_decide_eq_false h1
  have l2 : ¬ b.cps.toList < a.cps.toList := of_decide_eq_false h2
  exact str_ext (List.le_antisymm (List.not_lt.mp l2) (List.not_lt.mp l1))
def sLe (a b : Str) : Bool := !sLt b a
theorem sLe_trans (a b c : Str) (h1 : sLe a b = true) (h2 : sLe b c = true) : sLe a c = true := by
  unfold sLe at *
  cases e : sLt c a with
  | false => rfl
  | true =>
    cases e1 : sLt b a with
    | true => rw [e1] at h1; cases h1
    | false =>
      cases e2 : sLt a b with
      | true => have := sLt_trans e e2; rw [this] at h2; cases h2
      | false => rw [sLt_tri e2 e1] at e; rw [e] at h2; cases h2
theorem sLe_total (a b : Str) : (sLe a b || sLe b a) = true := by
  unfold sLe
  cases e : sLt b a with
  | false => rfl
  | true =>
    cases e2 : sLt a b with
    | false => rfl
    | true => have := sLt_trans e e2; rw [sLt_irr] at this; cases this
theorem sLe_anti {a b : Str} (h1 : sLe a b = true) (h2 : sLe b a = true) : a = b := by
  unfold sLe at *
  exact sLt_tri (by simpa using h2) (by simpa using h1)
/-- two rows in order with the same items are one -/
theorem perm_sorted {α : Type} {le : α → α → Prop} (anti : ∀ a b, le a b → le b a → a = b) : ∀ {l m : List α}, l.Perm m → l.Pairwise le → m.Pairwise le → l = m
  | [], m, p, _, _ => by rw [List.nil_perm.mp p]
  | x :: l, [], p, _, _ => by have := p.length_eq; simp at this
  | x :: l, y :: m, p, h1, h2 => by
    have e : x = y := by
      have hx : x ∈ y :: m := p.mem_iff.mp List.mem_cons_self
      have hy : y ∈ x :: l := p.mem_iff.mpr List.mem_cons_self
      rcases List.mem_cons.mp hx with e | hx
      · exact e
      · rcases List.mem_cons.mp hy with e | hy
        · exact e.symm
        · exact anti _ _ (List.rel_of_pairwise_cons h1 hy) (List.rel_of_pairwise_cons h2 hx)
    subst e
    rw [perm_sorted anti ((List.perm_cons x).mp p) (List.pairwise_cons.mp h1).2 (List.pairwise_cons.mp h2).2]
def srt (xs : List Str) : List Str := xs.mergeSort sLe
def sortS (xs : List Str) : Option (List Str) := (grd (xs.length < 64)).bind fun _ => some (srt xs)
theorem srt_perm (xs : List Str) : (srt xs).Perm xs := List.mergeSort_perm _ _
theorem srt_sorted (xs : List Str) : (srt xs).Pairwise fun a b => sLe a b = true := List.pairwise_mergeSort sLe_trans sLe_total xs
theorem rising_pairwise : ∀ {p : Str} {l : List Str}, PyProof.Rows.risingS p l = true → (p :: l).Pairwise fun a b => sLe a b = true
  | p, [], _ => by simp
  | p, x :: r, h => by
    unfold PyProof.Rows.risingS at h
    rw [Bool.and_eq_true] at h
    have ih := rising_pairwise h.2
    have e : sLe p x = true := by
      unfold sLe sLt
      rw [← PyProof.Rows.ltCps_eq]
      exact h.1
    refine List.pairwise_cons.mpr ⟨fun y hy => ?_, ih⟩
    rcases List.mem_cons.mp hy with e2 | hy
    · rw [e2]; exact e
    · exact sLe_trans _ _ _ e (List.rel_of_pairwise_cons ih hy)
theorem srt_is {xs ys : List Str} (p : ys.Perm xs) (h : PyProof.Rows.sortedS ys = true) : ys = srt xs := by
  refine perm_sorted (le := fun a b => sLe a b = true) (fun a b => sLe_anti) (p.trans (srt_perm xs).symm) ?_ (srt_sorted xs)
  cases ys with
  | nil => exact .nil
  | cons y l => exact rising_pairwise h
section
variable {K : PySem.W.Frag} {σ σ' : St} {G G' M M1 M2 M3 : Hp} {ta tb te tc : TE} {P P1 P2 : VP} {d e : Dat} {ds es : List Dat} {D : Ends} {H : Hp} {u : TS}
theorem cr_sortedSK {X : Cx} (h : X.K = K := by rfl) : CallR X (.builtin "sorted") (rSortedS K) := h ▸ cr_sortedS
theorem dqAll_strs {G : Hp} : ∀ {xs : List Str} , (∀ x ∈ xs, sok x = true) → DqAll K G (xs.map V.str) (xs.map Dat.str)
  | [], _ => .nil
  | x :: xs, h => .cons (.str (h x List.mem_cons_self)) (dqAll_strs fun y hy => h y (List.mem_cons_of_mem _ hy))
theorem strs_sok {G : Hp} : ∀ {xs : List Str} {vs : List V}, DqAll K G vs (xs.map Dat.str) → ∀ x ∈ xs, sok x = true
  | [], _, _, x, hx => by simp at hx
  | y :: ys, _, .cons a b, x, hx => by
    rcases List.mem_cons.mp hx with e | hx
    · rw [e]; exact (dq_str a).2
    · exact strs_sok b x hx
theorem el_sortedS [Tb] {xs ys : List Str} (h : sortS xs = some ys) (ha : EvA (tCons ta tNil) σ G M M1 (conP (DD K (.list (xs.map Dat.str))) nilP)) : EvL K (tCB (rSortedS K) (tCons ta tNil)) σ G M M1 (ys.map Dat.str) := el_cb ha fun vs G0 H s k hx Q q => by
  obtain ⟨v, rfl, hv⟩ := one_of (R := nilP) hx
  obtain ⟨a, ws, rfl, h1, h2⟩ := dp_list hv
  obtain ⟨_, h3, h4⟩ := bs h
  cases h4
  have so := strs_sok h2
  rw [dpAll_strs h2] at h1
  refine ⟨a, xs, rfl, .inl (.inl (k.g _ _ h1)), grd_of h3, fun zs p pz sz hp => ?_⟩
  have e := srt_is pz sz
  subst e
  exact newL (Same.refl _) k (dqAll_strs fun x hx => so x ((srt_perm xs).mem_iff.mp hx)) q p hp
end
end Kx
end
section
set_option maxHeartbeats 2000000
namespace Kx
open PySem L2 PySem.Spec PyProof.Rows
/-! ### a dict filled by a comprehension: keys of either kind -/
theorem dictSet2 {X : Cx} {pins : List (Addr × Obj)} {σ : L2.St} {H H' : Hp} {s : Shared} {E : Value → Shared → Prop} {D : Addr} {y v : V} {u r : Value} {Q : Unit → Shared → Prop} (hu : X.A.units + 1 < cLine) (I : Inv X pins σ H s) (g : DPut H D y v H') (ry : RelV y u) (rv : RelV v r)
    (h : ∀ s', Inv X pins σ H' s' → Q () s') : wpAny (model X.prog X.w) X.A (dictSet D u r) Q E s := by
  rcases g with ⟨kvs, k, e, rfl, l, rfl⟩ | ⟨kvs, k, b, e, rfl, eb, l, rfl⟩
  · exact d_dictSet I e l ry rv h
  · cases (show u = Value.ref b from ry)
    obtain ⟨z, hd, xs, rel, dd⟩ := dt_of I.hok e
    have hz : xs.length ≤ sizeLine := by rw [← Paired.length rel]; exact z
    have hl : (putK kvs k v).length ≤ sizeLine := by have := length_putK kvs k v; omega
    refine wpAny_dictSet_heap (hsz := hz) (show (tupleKind (mixKind X.prog X.w)).room X.A from Nat.lt_of_succ_lt hu) (key_of I.hok eb) dd fun g1 dd1 hs => h _ ?_
    obtain ⟨q, es, ep, hq, h2, h3, h4, _, h5⟩ := dd1
    refine d_write I (by rw [e]; exact True.intro) hs ⟨q, hq⟩ ⟨hl, hd, _, (rel.put k eb rv).keeps fun c ys ec => ?_, q, es, ep, hq, h2, h3, h4, h5⟩
    rw [upd_ne (ne_of ec e (fun z => nomatch z))]
    exact ec
/-- the empty one, by its kind -/
def d0 : Bool → HO
  | true => .dT []
  | false => .dK []
def tDcB (kd : Bool) (wi : TI) (g : TG) (tt : TT) (tk tv : TE) (vs : List Nat) : TE := fun σ H Q => wi σ H fun J H1 => ∀ D, H1 D = none → ∃ W : Nat → Nat → Hp → Prop, (∃ m, W 0 m (upd H1 D (d0 kd))) ∧ ∀ i m H, W i m H →
  (J.stop i H ∧ Q (.ref D) H) ∨ (J.go i H ∧ ∃ Nx : Hp → Prop, (∀ H', Nx H' → ∃ m', m' < m ∧ W (i + 1) m' H') ∧ ∀ x H', J.yld i H x H' → g x (wipe σ vs) H' fun σ2 H2 => wipe σ2 vs = wipe σ vs ∧ tt σ2 H2 fun b H3 =>
    if b = true then tk σ2 H3 fun y H4 => tv σ2 H4 fun z H5 => ∃ H6, DPut H5 D y z H6 ∧ Nx H6 else Nx H3)
section
variable {X : Cx}
theorem pe_dcB (kd : Bool) {kx vx tg iter : Expr} {ifs : List Expr} {scope : Scope} {own : List (Str × Nat)} {pos : Pos} {wi : TI} {g : TG} {tt : TT} {tk tv : TE} (hu : X.A.units + 1 < cLine) (hc : X.calm = true) (hN : X.N.Nodup) (hi : PI X tg iter wi) (ok : BlkOk X.N X.env.scope scope own)
    (hg : ∀ (s : Shared) (H : Hp) (C : Addr) (cl : List (Str × Addr)) (fp : List Addr), PG (X.blk s H scope (compEnvC scope cl C X.env) fp) tg g) (ht : ∀ (s : Shared) (H : Hp) (C : Addr) (cl : List (Str × Addr)) (fp : List Addr), PTs (X.blk s H scope (compEnvC scope cl C X.env) fp) ifs tt)
    (hk : ∀ (s : Shared) (H : Hp) (C : Addr) (cl : List (Str × Addr)) (fp : List Addr), PE (X.blk s H scope (compEnvC scope cl C X.env) fp) kx tk)
    (he : ∀ (s : Shared) (H : Hp) (C : Addr) (cl : List (Str × Addr)) (fp : List Addr), PE (X.blk s H scope (compEnvC scope cl C X.env) fp) vx tv) (hs : ∀ x, foldedSetIterable iter X.env x = pure x := by intro _; rfl) :
    PE X (.DictComp kx vx [⟨tg, iter, ifs, 0⟩] scope pos) (tDcB kd wi g tt tk tv (own.map (·.2))) := by
  refine ⟨fun pins s σ H Q I hq => ?_⟩
  rw [arm_eval_DictComp]
  have cells : ∀ y ∈ scope.names, y.2 = .free → ∃ c, X.env.cells.lookup y.1 = some c := fun y hy e => (ok.free y hy e).elim (fun k => I.ok.has _ (.inl k)) (fun k => I.ok.has _ (.inr k))
  refine wpAny_comprehension_free (use := none) rfl hs (closure_ok cells) ok.kind (fun y hy e => by rw [ok.uniq y hy, e]) (thn (hi.run pins s σ H _ I hq) fun xv s1 hx => thn hx fun itv s2 h2 => ?_)
  obtain ⟨it, fp, tn, J, H2, rfl, I2, T, st2, f2, q⟩ := h2
  refine wpAny_newObj_type (newEnv_comp ?_)
  generalize hD : s2.heap.objs.size = D
  obtain ⟨W, ⟨m0, w0⟩, turn⟩ := q D (I2.hok.fresh (Nat.le_of_eq hD))
  generalize hs3 : ({ s2 with heap := s2.heap.push { cls := .type "dict", data := .dict #[] } } : Shared) = s3
  have h3 : s3.heap = s2.heap.push { cls := .type "dict", data := .dict #[] } := by rw [← hs3]
  have I3 : Inv X pins σ (upd H2 D (d0 kd)) s3 := by
    rw [← hs3]
    refine I2.laid (t' := s2.toks) (fun b o e => Heap.get?_push_of_some _ e) (Nat.le_of_eq hD) ?_
    rw [← hD]
    cases kd with
    | true => exact dt_empty s2.heap I2.big
    | false => exact dk_empty s2.heap I2.big
  have f3 : ∀ b ∈ fp, FpOk X pins (upd H2 D (d0 kd)) b ∧ b < s3.heap.objs.size := fun b hb => by
    obtain ⟨o, e, _⟩ := T.obj _ _ st2 b hb
    have lt := Heap.lt_size e
    refine ⟨⟨?_, (f2 b hb).2⟩, by rw [h3, Heap.size_push]; exact Nat.lt_succ_of_lt lt⟩
    rw [upd_ne (by rw [← hD]; exact Nat.ne_of_lt lt)]
    exact (f2 b hb).1
  have st3 : tn 0 s3.heap := T.keep _ _ _ st2 fun b _ o e => by rw [h3]; exact Heap.get?_push_of_some _ e
  have I4 := block_start I3 ok hN f3
  have pg := hg s3 (upd H2 D (d0 kd)) s3.heap.objs.size (cellsFrom (s3.heap.objs.size + 1) scope.names (cloFrom X.env.cells scope.names [])) fp
  have pt := ht s3 (upd H2 D (d0 kd)) s3.heap.objs.size (cellsFrom (s3.heap.objs.size + 1) scope.names (cloFrom X.env.cells scope.names [])) fp
  have pk := hk s3 (upd H2 D (d0 kd)) s3.heap.objs.size (cellsFrom (s3.heap.objs.size + 1) scope.names (cloFrom X.env.cells scope.names [])) fp
  have pe := he s3 (upd H2 D (d0 kd)) s3.heap.objs.size (cellsFrom (s3.heap.objs.size + 1) scope.names (cloFrom X.env.cells scope.names [])) fp
  show codeAny _ _ (.compStart (.DictComp kx vx [⟨tg, iter, ifs, 0⟩] scope pos) 0 (.ref it) (.ref D) (compEnvC scope (cellsFrom (s3.heap.objs.size + 1) scope.names (cloFrom X.env.cells scope.names [])) s3.heap.objs.size X.env)) (compPost (model X.prog X.w) X.A X.xe none (EP X pins σ Q) (.ref D) s3.heap.objs.size) { s3 with heap := pushCells (s3.heap.push { cls := .type "dict", data := .dict #[] }) scope.names }
  have nfp : ∀ b ∈ fp, (upd H2 D (d0 kd)) b = none := fun b hb => (f3 b hb).1.1
  generalize hce : compEnvC scope (cellsFrom (s3.heap.objs.size + 1) scope.names (cloFrom X.env.cells scope.names [])) s3.heap.objs.size X.env = ce at I4 pg pt pk pe ⊢
  have cL : ce.locals = s3.heap.objs.size := by subst hce; rfl
  generalize hH3 : upd H2 D (d0 kd) = H3 at I3 I4 pg pt pk pe w0 nfp f3
  generalize hs4 : ({ s3 with heap := pushCells (s3.heap.push { cls := .type "dict", data := .dict #[] }) scope.names } : Shared) = s4 at I4 ⊢
  have st4 : tn 0 s4.heap := T.keep _ _ _ st3 fun b _ o e => by rw [← hs4]; exact pushCells_keeps _ _ _ _ (Heap.get?_push_of_some _ e)
  have stat : ∀ {σ1 : L2.St} {H1 : Hp} {s' : Shared}, Inv (X.blk s3 H3 scope ce fp) [] σ1 H1 s' → (∀ b ∈ fp, H1 b = none) → ∀ b ∈ fp, FpOk (X.blk s3 H3 scope ce fp) [] H1 b := fun I1 hn b hb =>
    ⟨hn b hb, (I1.ok.exf b hb).1, I1.ok.exfs b hb, .inl hb, fun x c e => (I1.ok.exf b hb).2 x c e, fun p hp => absurd (show p ∈ ([] : List (Addr × Obj)) ++ [] from hp) (by simp)⟩
  have loop : codeAny (model X.prog X.w) X.A (.compLoop (.DictComp kx vx [⟨tg, iter, ifs, 0⟩] scope pos) 0 (.ref it) (.ref D) ce) (compPost (model X.prog X.w) X.A X.xe none (EP X pins σ Q) (.ref D) s3.heap.objs.size) s4 := by
    refine compLoop_anyD (fun n s' => ∃ i H1, Inv (X.blk s3 H3 scope ce fp) [] (wipe σ (own.map (·.2))) H1 s' ∧ tn i s'.heap ∧ (∀ b ∈ fp, H1 b = none) ∧ W i n H1) ?_ m0 ⟨0, H3, I4, st4, nfp, w0⟩
    rintro n s5 ⟨i, H5, I5, st5, n5, w5⟩
    rcases turn i n H5 w5 with ⟨stop, qq⟩ | ⟨go, Nx, hNx, step⟩
    · refine thnF (T.done (X.blk s3 H3 scope ce fp) rfl rfl rfl hc i [] s5 _ H5 (fun _ _ => False) I5 (stat I5 n5) st5 stop) fun r s6 ⟨hr, I6⟩ => ?_
      subst hr
      have I7 : Inv X pins σ H5 s6 := I3.call' (ch := fp) I6.os I6.base I6.hok I6.bare fun b hb => ⟨(f3 b hb).1.2.2.2.1, (f3 b hb).1.2.1, (f3 b hb).1.2.2.2.2.1, (f3 b hb).1.2.2.2.2.2⟩
      have nC : H5 s3.heap.objs.size = none := by
        have z : H5 ce.locals = none := I6.free
        rw [cL] at z
        exact z
      obtain ⟨m, hn, _⟩ := I6.loc
      have hn : s6.heap.Ns ce.locals m := hn
      rw [cL] at hn
      obtain ⟨a0, a1, a2, a3, a4, a5⟩ := I3.fpOk (Nat.le_refl _) nC
      exact ⟨m, hn, fun g2 sb => ⟨.ref D, H5, I7.turned (t' := s6.toks) (fun b o hb e => (sb.2 b hb).trans e) a0 a1 a3 a4 a5, rfl, qq⟩⟩
    · refine thnF (T.item (X.blk s3 H3 scope ce fp) rfl rfl rfl hc i [] s5 _ H5 (fun _ _ => False) I5 (stat I5 n5) st5 go) fun r s6 ⟨u, hr, h6⟩ => ?_
      subst hr
      refine thnF h6 fun _ s7 ⟨x, H7, I7, r7, y7, st7, n7⟩ => ?_
      refine thnF (pg.run _ s7 _ H7 x u _ (I7.pinned (stat I7 n7) (T.obj _ _ st7)) r7 (step x H7 y7)) fun _ s8 ⟨σ8, H8, I8, hw8, q8⟩ => ?_
      refine thnF (pt.run _ s8 σ8 H8 _ I8 q8) fun b s9 ⟨H9, I9, q9⟩ => ?_
      have fin : ∀ {s' : Shared} {H1 : Hp}, Inv (X.blk s3 H3 scope ce fp) ([] ++ pinsAt fp s7.heap) σ8 H1 s' → Nx H1 → ∃ m, m < n ∧ ∃ i H1, Inv (X.blk s3 H3 scope ce fp) [] (wipe σ (own.map (·.2))) H1 s' ∧ tn i s'.heap ∧ (∀ b ∈ fp, H1 b = none) ∧ W i m H1 := fun {s' H1} I1 nx => by
        obtain ⟨m1, hm, w1⟩ := hNx H1 nx
        have pin1 : ∀ b ∈ fp, ∀ o, s7.heap.get? b = some o → s'.heap.get? b = some o ∧ H1 b = none := fun b hb o e =>
          let z := I1.pin (b, o) (List.mem_append_right _ (List.mem_append_right _ (mem_pinsAt hb e)))
          ⟨z.1, z.2.1⟩
        refine ⟨m1, hm, i + 1, H1, (I1.unpinned (pins := [])).weak (by rw [← hw8, wipe_length]) (fun j v e => by rw [← hw8] at e; exact (wipe_some e).1), T.keep _ _ _ st7 fun b hb o e => (pin1 b hb o e).1, fun b hb => ?_, w1⟩
        obtain ⟨o, e, _⟩ := T.obj _ _ st7 b hb
        exact (pin1 b hb o e).2
      cases b with
      | false =>
        simp only [Bool.false_eq_true, if_false] at q9 ⊢
        exact fin I9 q9
      | true =>
        simp only [if_true] at q9 ⊢
        refine thnF (pk.run _ s9 σ8 H9 _ I9 q9) fun z s10 ⟨yk, H10, I10, r10, q10⟩ => ?_
        refine thnF (pe.run _ s10 σ8 H10 _ I10 q10) fun z2 s11 ⟨yv, H11, I11, r11, H6, put, nx⟩ => ?_
        exact dictSet2 (X := X.blk s3 H3 scope ce fp) hu I11 put r10 r11 fun s12 I12 => fin I12 nx
  exact codeAny_compStart_dict loop (T.self X.A 0 _ _ _ st4 loop)
end
end Kx
end
section
set_option maxHeartbeats 2000000
namespace Kx
open PySem L2 PySem.Spec PyProof.Rows
/-! ### dict(xs) of pairs: a tuple of pairs by texts; a list of pairs by tuples of texts -/
section
variable {X : Cx} {K : PySem.W.Frag}
theorem isTuple_of {h : Heap} {a : Addr} {its : Array Value} (x : IsTup h a its) : h.IsTuple a its := by
  obtain ⟨o, h1, h2, n, h3⟩ := x
  exact ⟨o, h1, h2, n, h3⟩
def rDictT (K : PySem.W.Frag) : List V → Hp → VK → Prop := fun xs H Q => ∃ (a : Addr) (ps : List Addr) (kvs : List (Key × V)), xs = [.ref a] ∧ (TupG K H a (ps.map V.ref) ∨ SqL K H a (ps.map V.ref)) ∧ Paired (fun p kv => SqT K H p [kV kv.1, kv.2]) ps kvs ∧
    ∀ p, H p = none → Q (.ref p) (upd H p (.dK (mergeK [] kvs)))
theorem cl_dictT (hcalm : X.calm = true) : CallR X (.type "dict") (rDictT X.K) := by
  intro pins s σ H xs us Q I r q
  obtain ⟨a, ps, kvs, ex, hq | hq, hp, q⟩ := q
  rotate_left
  · exact call_dictP hcalm pins s σ H xs us Q I r ⟨a, ps, kvs, ex, hq, hp, q⟩
  subst ex
  obtain ⟨u, eu, rx⟩ := vals1 r
  subst eu
  cases rx
  obtain ⟨its, rv, _, hz⟩ := I.tuple hq.sq
  have ei := refs_at rv
  subst ei
  have ob : ∃ o n, s.heap.get? a = some o ∧ o.cls = .type "tuple" ∧ o.dict = none ∧ o.data = .seq (ps.map Value.ref).toArray n := by
    rcases hq with ⟨o, e, hd⟩ | ⟨o, its, n, e, hc, hd, h4, _, h6⟩
    · obtain ⟨e1, _, its, r1, o2, e2, hc, n, h3⟩ := I.hok a _ e
      rw [e1] at e2
      cases e2
      rw [refs_at r1] at h3
      exact ⟨o, n, e1, hc, hd, h3⟩
    · have e6 := refs_at h6
      exact ⟨o, n, I.kIn a o e, hc, hd, by rw [h4, ← e6]⟩
  rw [List.length_map] at hz
  obtain ⟨prs, rel, hl, hpr⟩ := pairs_of I hp
  let Ts : Nat → Addr := fun j => ps.getD j 0
  have ks : ∀ {l : List (Key × Value)}, (∀ (j : Nat) (q : Key × Value), l[j]? = some q → ∃ (b : Addr) (u : Value), IsTup s.heap b #[u, q.2] ∧ keyIs q.1 u = true) → True := fun _ => trivial
  -- the keys' values
  have hex : ∃ us : List Value, us.length = prs.length ∧ ∀ (j : Nat) (q : Key × Value), prs[j]? = some q → ∃ b u, ps[j]? = some b ∧ us[j]? = some u ∧ IsTup s.heap b #[u, q.2] ∧ keyIs q.1 u = true := by
    clear rel
    have : ∀ (prs : List (Key × Value)) (ps : List Addr), (∀ (j : Nat) (q : Key × Value), prs[j]? = some q → ∃ (b : Addr) (u : Value), ps[j]? = some b ∧ IsTup s.heap b #[u, q.2] ∧ keyIs q.1 u = true) → ∃ us : List Value, us.length = prs.length ∧ ∀ (j : Nat) (q : Key × Value), prs[j]? = some q → ∃ b u, ps[j]? = some b ∧ us[j]? = some u ∧ IsTup s.heap b #[u, q.2] ∧ keyIs q.1 u = true := by
      intro prs
      induction prs with
      | nil => intro ps _; exact ⟨[], rfl, fun j q e => by simp at e⟩
      | cons x prs ih =>
        intro ps h
        obtain ⟨us, hl, hu⟩ := ih ps.tail fun j q e => by
          obtain ⟨b, u, e1, e2⟩ := h (j + 1) q (by simpa using e)
          refine ⟨b, u, ?_, e2⟩
          cases ps with
          | nil => simp at e1
          | cons _ _ => simpa using e1
        obtain ⟨b, u, e1, e2⟩ := h 0 x rfl
        refine ⟨u :: us, by rw [List.length_cons, List.length_cons, hl], fun j q e => ?_⟩
        cases j with
        | zero =>
          cases (Option.some.inj e : x = q)
          exact ⟨b, u, e1, rfl, e2⟩
        | succ j =>
          obtain ⟨b', u', f1, f2, f3⟩ := hu j q (by simpa using e)
          refine ⟨b', u', ?_, by simpa using f2, f3⟩
          cases ps with
          | nil => simp at f1
          | cons _ _ => simpa using f1
    exact this prs ps hpr
  obtain ⟨us, hul, hus⟩ := hex
  obtain ⟨o, n, o1, o2, o3, o4⟩ := ob
  refine PySem.call_dict_pairs (knd := mixKind X.prog X.w) (kvs := prs) (PairArg.tuple a (ps.map Value.ref).toArray Ts (us.zip (prs.map (·.2)))) (I.ok.hd hcalm) ⟨⟨o, n, o1, o2, o3, o4⟩, ?_, fun j k v e => ?_⟩ ⟨by simp [hul], fun i key v hr => ?_⟩ (by simp [hul, hl]; exact hz) fun h' tk dd k => ?_
  · simp [hl, hul]
  · rw [List.getElem?_zip_eq_some] at e
    obtain ⟨e1, e2⟩ := e
    rw [List.getElem?_map] at e2
    obtain ⟨x, hx, e3⟩ := Option.map_eq_some_iff.mp e2
    obtain ⟨b, u, f1, f2, f3, f4⟩ := hus j x hx
    rw [e1] at f2
    cases f2
    subst e3
    have hb : Ts j = b := by show ps.getD j 0 = b; rw [List.getD_eq_getElem?_getD, f1]; rfl
    rw [hb]
    exact ⟨by simp [f1], .inl (isTuple_of f3)⟩
  · have hr : (us.zip (prs.map (·.2)))[i]? = some (key, v) := hr
    rw [List.getElem?_zip_eq_some] at hr
    obtain ⟨e1, e2⟩ := hr
    rw [List.getElem?_map] at e2
    obtain ⟨x, hx, e3⟩ := Option.map_eq_some_iff.mp e2
    obtain ⟨b, u, f1, f2, f3, f4⟩ := hus i x hx
    rw [e1] at f2
    cases f2
    subst e3
    exact ⟨x.1, hx, f4⟩
  · have k : ∀ b o, s.heap.get? b = some o → h'.get? b = some o := fun b o e => k b o (by simp) e
    have hm : (s.heap.objs.size == sysModules) = false := beq_eq_false_iff_ne.mpr (Nat.ne_of_gt I.big)
    have hlen : (mergeK [] kvs).length ≤ sizeLine := by
      refine Nat.le_trans (length_mergeK kvs []) ?_
      rw [List.length_nil, Nat.zero_add, rel.length, hl]
      exact hz
    exact ⟨.ref s.heap.objs.size, upd H s.heap.objs.size (.dK (mergeK [] kvs)), I.laid (t' := tk) k (Nat.le_refl _) (show ObjOk X.prog X.w _ _ _ (.dK (mergeK [] kvs)) from ⟨hlen, hm, merged [] prs, KV.merge rel .nil, dd⟩), rfl, q _ (I.hok.fresh (Nat.le_refl _))⟩
end
end Kx
end
section
set_option maxHeartbeats 2000000
namespace Kx
open PySem L2
/-! ### tables: the mirror of dicts -/
section
variable {α β : Type} [DecidableEq α]
def getA (xs : List (α × β)) (k : α) : Option β := (xs.find? fun x => decide (x.1 = k)).map (·.2)
def putA (xs : List (α × β)) (k : α) (v : β) : List (α × β) := if (xs.any fun x => decide (x.1 = k)) = true then xs.map (fun x => if x.1 = k then (x.1, v) else x) else xs ++ [(k, v)]
def mergeA (xs more : List (α × β)) : List (α × β) := more.foldl (fun acc x => putA acc x.1 x.2) xs
def dictO (xs : List (α × β)) : Option (List (α × β)) := do
  grd (xs.length ≤ 16777216)
  some (mergeA [] xs)
theorem getA_pos {p : α × β} {r : List (α × β)} {k : α} (e : p.1 = k) : getA (p :: r) k = some p.2 := by simp [getA, List.find?_cons, e]
theorem getA_neg {p : α × β} {r : List (α × β)} {k : α} (e : ¬ p.1 = k) : getA (p :: r) k = getA r k := by simp [getA, List.find?_cons, e]
theorem putA_len (xs : List (α × β)) (k : α) (v : β) : (putA xs k v).length ≤ xs.length + 1 := by
  unfold putA
  split
  · rw [List.length_map]; omega
  · rw [List.length_append, List.length_cons, List.length_nil]; omega
theorem putA_keys {p : α → Prop} {xs : List (α × β)} {k : α} {v : β} (h : ∀ x ∈ xs, p x.1) (hk : p k) : ∀ x ∈ putA xs k v, p x.1 := by
  unfold putA
  split
  · intro x hx
    obtain ⟨y, hy, e⟩ := List.mem_map.mp hx
    by_cases e2 : y.1 = k
    · rw [if_pos e2] at e; rw [← e]; exact h y hy
    · rw [if_neg e2] at e; rw [← e]; exact h y hy
  · intro x hx
    rcases List.mem_append.mp hx with hx | hx
    · exact h x hx
    · rw [List.mem_singleton.mp hx]; exact hk
end
/-! ### tables in the heap -/
section
variable {α β κ : Type} [DecidableEq α] [DecidableEq κ] {K : PySem.W.Frag} {G G' : Hp} {f : α → κ} {e : β → Dat}
inductive KRel (K : PySem.W.Frag) (G : Hp) (f : α → κ) (e : β → Dat) : List (κ × V) → List (α × β) → Prop
  | nil : KRel K G f e [] []
  | cons {k : α} {v : V} {b : β} {kvs : List (κ × V)} {xs : List (α × β)} : Dq K G v (e b) → KRel K G f e kvs xs → KRel K G f e ((f k, v) :: kvs) ((k, b) :: xs)
theorem KRel.up (s : Same G G') {kvs : List (κ × V)} {xs : List (α × β)} (h : KRel K G f e kvs xs) : KRel K G' f e kvs xs := by
  induction h with
  | nil => exact .nil
  | cons a _ ih => exact .cons (dp_up s _ a) ih
theorem KRel.len {kvs : List (κ × V)} {xs : List (α × β)} (h : KRel K G f e kvs xs) : kvs.length = xs.length := by
  induction h with
  | nil => rfl
  | cons a _ ih => rw [List.length_cons, List.length_cons, ih]
theorem KRel.of : ∀ {kvs : List (κ × V)} {xs : List (α × β)}, kvs.map (·.1) = (xs.map fun x => f x.1) → DqAll K G (kvs.map (·.2)) (xs.map fun x => e x.2) → KRel K G f e kvs xs
  | [], [], _, _ => .nil
  | [], _ :: _, h, _ => by cases h
  | _ :: _, [], h, _ => by cases h
  | (k, v) :: kvs, (a, b) :: xs, h, hd => by
    cases hd with
    | cons h1 h2 =>
      rw [List.map_cons, List.map_cons] at h
      obtain ⟨e1, e2⟩ := List.cons.inj h
      cases (show k = f a from e1)
      exact .cons h1 (KRel.of e2 h2)
theorem KRel.keys {kvs : List (κ × V)} {xs : List (α × β)} (h : KRel K G f e kvs xs) : kvs.map (·.1) = xs.map fun x => f x.1 := by
  induction h with
  | nil => rfl
  | cons a _ ih => rw [List.map_cons, List.map_cons, ih]
theorem KRel.vals {kvs : List (κ × V)} {xs : List (α × β)} (h : KRel K G f e kvs xs) : DqAll K G (kvs.map (·.2)) (xs.map fun x => e x.2) := by
  induction h with
  | nil => exact .nil
  | cons a _ ih => exact .cons a ih
theorem KRel.get (inj : ∀ a b : α, f a = f b → a = b) {kvs : List (κ × V)} {xs : List (α × β)} (h : KRel K G f e kvs xs) (k : α) : (getA xs k = none ∧ valV kvs (f k) = none) ∨ ∃ b v, getA xs k = some b ∧ valV kvs (f k) = some v ∧ Dq K G v (e b) := by
  induction h with
  | nil => exact .inl ⟨rfl, rfl⟩
  | @cons k' v b kvs xs a _ ih =>
    by_cases q : k' = k
    · subst q
      exact .inr ⟨b, v, getA_pos (p := (k', b)) rfl, valV_pos (p := (f k', v)) rfl, a⟩
    · rw [getA_neg (p := (k', b)) q, valV_neg (p := (f k', v)) fun z => q (inj _ _ z)]
      exact ih
theorem KRel.any (inj : ∀ a b : α, f a = f b → a = b) {kvs : List (κ × V)} {xs : List (α × β)} (h : KRel K G f e kvs xs) (k : α) : (kvs.any fun kv => decide (kv.1 = f k)) = xs.any fun x => decide (x.1 = k) := by
  induction h with
  | nil => rfl
  | @cons k' v b kvs xs a _ ih =>
    rw [List.any_cons, List.any_cons, ih]
    by_cases q : k' = k
    · subst q; simp
    · have q2 : ¬ f k' = f k := fun z => q (inj _ _ z)
      simp [q, q2]
theorem KRel.put (inj : ∀ a b : α, f a = f b → a = b) {kvs : List (κ × V)} {xs : List (α × β)} (h : KRel K G f e kvs xs) (k : α) {v : V} {b : β} (hv : Dq K G v (e b)) : KRel K G f e (putK kvs (f k) v) (putA xs k b) := by
  unfold putK putA
  rw [h.any inj k]
  split
  · next hh =>
    clear hh
    induction h with
    | nil => exact .nil
    | @cons k' v' b' kvs xs a _ ih =>
      rw [List.map_cons, List.map_cons]
      by_cases q : k' = k
      · subst q
        rw [if_pos rfl, if_pos rfl]
        exact .cons hv ih
      · rw [if_neg (show ¬ (f k', v').1 = f k from fun z => q (inj _ _ z)), if_neg (show ¬ (k', b').1 = k from q)]
        exact .cons a ih
  · next hh =>
    clear hh
    induction h with
    | nil => exact .cons hv .nil
    | cons a _ ih => exact .cons a ih
end
def kS (x : Str) : Key := .inr x
def kP (x : Str × Str) : List Key := [.inr x.1, .inr x.2]
theorem kS_inj (a b : Str) (h : kS a = kS b) : a = b := by unfold kS at h; exact Sum.inr.inj h
theorem kP_inj (a b : Str × Str) (h : kP a = kP b) : a = b := by
  unfold kP at h
  obtain ⟨h1, h2⟩ := List.cons.inj h
  obtain ⟨h2, _⟩ := List.cons.inj h2
  exact Prod.ext (Sum.inr.inj h1) (Sum.inr.inj h2)
def okS (x : Str) : Prop := sok x = true
def okP (x : Str × Str) : Prop := sok x.1 = true ∧ sok x.2 = true
/-- dicts by texts, by pairs of texts -/
def eDS {β : Type} (e : β → Dat) (xs : List (Str × β)) : Dat := .dK (xs.map fun x => kS x.1) (xs.map fun x => e x.2)
def eDP {β : Type} (e : β → Dat) (xs : List ((Str × Str) × β)) : Dat := .dT (xs.map fun x => kP x.1) (xs.map fun x => e x.2)
section
variable {β : Type} {K : PySem.W.Frag} {σ σ' : St} {G G' M M1 M2 M3 : Hp} {ta tb te tc tk tv : TE} {P P1 P2 : VP} {d : Dat} {ds es : List Dat} {D : Ends} {H : Hp} {u : TS} {e : β → Dat}
theorem eDS_of {a : Addr} {kvs : List (Key × V)} {xs : List (Str × β)} (h : G a = some (.dK kvs)) (r : KRel K G kS e kvs xs) (ok : ∀ x ∈ xs, okS x.1) : Dq K G (.ref a) (eDS e xs) :=
  .dK (.inl h) r.keys (List.all_eq_true.mpr fun k hk => by obtain ⟨x, hx, rfl⟩ := List.mem_map.mp hk; exact ok x hx) r.vals
theorem eDP_of {a : Addr} {kvs : List (List Key × V)} {xs : List ((Str × Str) × β)} (h : G a = some (.dT kvs)) (r : KRel K G kP e kvs xs) (ok : ∀ x ∈ xs, okP x.1) : Dq K G (.ref a) (eDP e xs) :=
  .dT (.inl h) r.keys (List.all_eq_true.mpr fun k hk => by
    obtain ⟨x, hx, rfl⟩ := List.mem_map.mp hk
    refine List.all_eq_true.mpr fun y hy => ?_
    have h2 := ok x hx
    unfold kP at hy
    rcases List.mem_cons.mp hy with rfl | hy
    · exact h2.1
    · rw [List.mem_singleton.mp hy]; exact h2.2) r.vals
/-- a key that is a pair of texts -/
theorem key_pair {v : V} {k : Str × Str} (h : Dq K G v (.rtup [.str k.1, .str k.2])) : ∃ b, v = .ref b ∧ G b = some (.tup ((kP k).map kV)) := by
  obtain ⟨b, vs, rfl, h1, h2⟩ := dp_rtup h
  cases h2 with
  | cons a h2 =>
    cases h2 with
    | cons b' h2 =>
      cases h2; cases a; cases b'
      exact ⟨b, rfl, h1⟩
/-! ### looking up -/
def getD' {α β : Type} [DecidableEq α] (xs : List (α × β)) (k : α) (z : β) : β := (getA xs k).getD z
theorem ev_rtup [Tb] {t : TA} (ha : EvA t σ G M M1 (allP K ds)) (hl : ds.length ≤ sizeLine := by simp [sizeLine_eq]) : Ev (tTup t) σ G M M1 (DD K (.rtup ds)) := fun G0 H s k Q q =>
  ha G0 H s k _ fun xs G1 H1 s1 k1 hx => ⟨by rw [dpAll_len hx]; exact hl, newR s1 k1 hx q⟩
/-! ### a dict of one's own by texts -/
def KOk (K : PySem.W.Frag) (G : Hp) (e : β → Dat) (kvs : List (Key × V)) (xs : List (Str × β)) : Prop := KRel K G kS e kvs xs ∧ ∀ x ∈ xs, okS x.1
theorem KOk.up {kvs : List (Key × V)} {xs : List (Str × β)} (s : Same G G') (h : KOk K G e kvs xs) : KOk K G' e kvs xs := ⟨h.1.up s, h.2⟩
theorem KOk.nil : KOk K G e [] [] := ⟨.nil, fun x hx => nomatch hx⟩
end
end Kx
end
section
set_option maxHeartbeats 2000000
namespace Kx
open PySem L2
theorem mergeA_take {α β : Type} [DecidableEq α] {ys : List (α × β)} {i : Nat} {y : α × β} (h : ys[i]? = some y) : mergeA [] (ys.take (i + 1)) = putA (mergeA [] (ys.take i)) y.1 y.2 := by
  unfold mergeA
  rw [List.take_add_one, h, List.foldl_append]
  rfl
theorem mergeA_len {α β : Type} [DecidableEq α] : ∀ (more xs : List (α × β)), (mergeA xs more).length ≤ xs.length + more.length
  | [], xs => by show xs.length ≤ xs.length + 0; omega
  | p :: r, xs => by
    have h1 := mergeA_len r (putA xs p.1 p.2)
    have h2 := putA_len xs p.1 p.2
    show (mergeA (putA xs p.1 p.2) r).length ≤ _
    rw [List.length_cons]; omega
theorem mergeA_keys {α β : Type} [DecidableEq α] {p : α → Prop} : ∀ (more xs : List (α × β)), (∀ x ∈ xs, p x.1) → (∀ x ∈ more, p x.1) → ∀ x ∈ mergeA xs more, p x.1
  | [], xs, h, _ => h
  | y :: r, xs, h, hm => mergeA_keys r (putA xs y.1 y.2) (putA_keys h (hm y List.mem_cons_self)) fun x hx => hm x (List.mem_cons_of_mem _ hx)
section
variable {β : Type} {K : PySem.W.Frag} {σ σ' : St} {G G' M M1 M2 M3 : Hp} {ta tb te tc tk tv : TE} {P P1 P2 : VP} {d : Dat} {ds es : List Dat} {D : Ends} {H : Hp} {u : TS} {e : β → Dat}
theorem KRel.mergeS : ∀ {more : List (Key × V)} {ms : List (Str × β)} {kvs : List (Key × V)} {xs : List (Str × β)}, KRel K G kS e more ms → KRel K G kS e kvs xs → KRel K G kS e (mergeK kvs more) (mergeA xs ms) := by
  intro more ms kvs xs r
  induction r generalizing kvs xs with
  | nil => intro q; exact q
  | cons a _ ih => intro q; exact ih (q.put kS_inj _ a)
/-- pairs (text, thing) -/
theorem prsS_of : ∀ {xs : List (Str × β)} {vs : List V}, DqAll K G vs (xs.map (eP2 Dat.str e)) → ∃ ps kvs, vs = ps.map V.ref ∧ Paired (fun p kv => SqT K G p [kV kv.1, kv.2]) ps kvs ∧ KRel K G kS e kvs xs ∧ ∀ x ∈ xs, okS x.1
  | [], _, h => by cases h; exact ⟨[], [], rfl, .nil, .nil, fun x hx => nomatch hx⟩
  | x :: xs, _, h => by
    cases h with
    | cons a b =>
      obtain ⟨ps, kvs, rfl, h1, h2, h3⟩ := prsS_of b
      obtain ⟨p, ws, rfl, h4, h5⟩ := dp_tuple a
      cases h5 with
      | cons h5 h6 =>
        cases h6 with
        | cons h6 h7 =>
          cases h7
          have sk : okS x.1 := by cases h5 with | str h => exact h
          cases h5
          refine ⟨p :: ps, (kS x.1, _) :: kvs, rfl, .cons h4 h1, .cons h6 h2, fun y hy => ?_⟩
          rcases List.mem_cons.mp hy with rfl | hy
          · exact sk
          · exact h3 y hy
theorem paired_up {α γ : Type} {R S : α → γ → Prop} {xs : List α} {ys : List γ} (h : Paired R xs ys) (f : ∀ a b, R a b → S a b) : Paired S xs ys := by
  induction h with
  | nil => exact .nil
  | cons a _ ih => exact .cons (f _ _ a) ih
theorem ev_dictT [Tb] {xs ys : List (Str × β)} (hy : dictO xs = some ys) (ha : EvA (tCons ta tNil) σ G M M1 (conP (DD K (.tuple (xs.map (eP2 Dat.str e)))) nilP)) : Ev (tCB (rDictT K) (tCons ta tNil)) σ G M M1 (DD K (eDS e ys)) := ev_cb ha fun vs G0 H s k hx Q q => by
  obtain ⟨v, rfl, hv⟩ := one_of (R := nilP) hx
  obtain ⟨_, h1, h2⟩ := bs hy
  cases h2
  cases hv with
  | tup a b =>
    obtain ⟨ps, kvs, rfl, p1, p2, p3⟩ := prsS_of b
    refine ⟨_, ps, kvs, rfl, .inl (a.up k.g), paired_up p1 fun _ _ z => sqT_up k.g z, fun p hp => ?_⟩
    have gn := Same.none k.g hp
    have s1 : Same G0 (upd G0 p (.dK (mergeK [] kvs))) := Same.new gn
    exact q _ _ _ s1 (k.newG _ hp) (eDS_of upd_same (((KRel.mergeS p2 .nil).up s1)) (mergeA_keys xs [] (fun x hx => nomatch hx) p3))
/-- {(a, b): v for ..} -/
def dcO {α γ : Type} [DecidableEq γ] (f : α → Option (γ × β)) (xs : List α) : Option (List (γ × β)) := do
  let ys ← lcO f xs
  some (mergeA [] ys)
theorem ev_dcP [Tb] {α : Type} {ea : α → Dat} {f : α → Option ((Str × Str) × β)} {xs : List α} {zs : List ((Str × Str) × β)} {wi : TI} {g : TG} {vs : List Nat} (src : Src K wi σ G M M1 (xs.map ea)) (hf : dcO f xs = some zs)
    (hs : ∀ (x : α) (y : (Str × Str) × β) (Mx G1 : Hp) (v : V), f x = some y → Same M1 Mx → Same G G1 → Dq K G1 v (ea x) → Tg g v (wipe σ vs) G1 fun σ2 => wipe σ2 vs = wipe σ vs ∧ Ev tk σ2 G1 Mx Mx (DD K (.rtup [.str y.1.1, .str y.1.2])) ∧ Ev tv σ2 G1 Mx Mx (DD K (e y.2))) :
    Ev (tDcB true wi g tYes tk tv vs) σ G M M1 (DD K (eDP e zs)) := by
  intro G0 H s k Q q
  obtain ⟨ys, h0, h1⟩ := bs hf
  cases h1
  obtain ⟨_, h1, h2⟩ := bs h0
  have hl := mapO_len h2
  have hz := szl (grd_of h1)
  refine src G0 H s k _ fun J G1 H1 s1 k1 w => ?_
  obtain ⟨Y, Gd, w, hGd, hY⟩ := w
  intro D hD
  have mD : M1 D = none := Same.none k1.m hD
  rw [List.length_map] at w
  let Pv : Nat → Hp → Prop := fun i H => ∃ G2 kvs, Same G1 G2 ∧ Ok G2 (upd M1 D (.dT kvs)) H ∧ KRel K G2 kP e kvs (mergeA [] (ys.take i)) ∧ ∀ x ∈ mergeA [] (ys.take i), okP x.1
  refine ⟨fun i m H => m = xs.length - i ∧ i ≤ xs.length ∧ Pv i H, ⟨xs.length, by simp, Nat.zero_le _, G1, [], Same.refl _, k1.newM _ hD, .nil, fun x hx => nomatch hx⟩, ?_⟩
  rintro i m H2 ⟨rfl, hi, G2, kvs, s2, k2, r2, o2⟩
  have qg := hGd H2 (s2.trans k2.g)
  by_cases hlt : i < xs.length
  · refine .inr ⟨w.goes i H2 hlt qg, Pv (i + 1), fun H' p' => ⟨xs.length - (i + 1), by omega, rfl, hlt, p'⟩, fun x H3 y => ?_⟩
    have y := w.yields i H2 x H3 hlt qg y
    obtain ⟨a, ha⟩ : ∃ a, xs[i]? = some a := ⟨xs[i], List.getElem?_eq_getElem hlt⟩
    obtain ⟨b, hb⟩ : ∃ b, ys[i]? = some b := ⟨ys[i]'(by omega), List.getElem?_eq_getElem (by omega)⟩
    obtain ⟨G3, s3, k3, hx⟩ := hY i (ea a) H2 x H3 G2 _ (by rw [List.getElem?_map, ha]; rfl) s2 k2 y
    refine hs a b (upd M1 D (.dT kvs)) G3 x (mapO_get h2 ha hb) (Same.new mD) (((s.trans s1).trans s2).trans s3) hx H3 _ k3.g ?_
    rintro σ2 ⟨hw, ek, ev⟩
    refine ⟨hw, ?_⟩
    simp only [tYes, if_true]
    refine ek G3 H3 (Same.refl _) k3 _ fun kv G4 H4 s4 k4 hk => ev G4 H4 s4 k4 _ fun vv G5 H5 s5 k5 hv => ?_
    obtain ⟨c, rfl, hc⟩ := key_pair (k := b.1) hk
    have ok : okP b.1 := by
      cases hk with
      | rtup _ z =>
        cases z with
        | cons z1 z2 =>
          cases z2 with
          | cons z2 _ => exact ⟨(dq_str z1).2, (dq_str z2).2⟩
    have s25 := (s3.trans s4).trans s5
    have hlen : (mergeA [] (ys.take i)).length < sizeLine := by
      have := mergeA_len (ys.take i) []
      rw [List.length_nil, List.length_take] at this
      rw [sizeLine_eq] at hz ⊢
      omega
    refine ⟨_, DPut.t (k5.m _ _ upd_same) ((s5.trans k5.g) _ _ hc) (by rw [r2.len]; exact hlen), G5, putK kvs (kP b.1) vv, s2.trans s25, ?_, ?_⟩
    · have := k5.chg (p := D) (u := .dT kvs) (.dT (putK kvs (kP b.1) vv)) upd_same
      rw [upd_upd] at this
      exact this
    · rw [mergeA_take hb]
      exact ⟨(r2.up s25).put kP_inj _ hv, putA_keys o2 ok⟩
  · have e : i = xs.length := by omega
    subst e
    refine .inl ⟨w.stops H2 qg, ?_⟩
    rw [← hl, List.take_length] at r2 o2
    exact q _ (upd G2 D (.dT kvs)) H2 ((s1.trans s2).trans (Same.new k2.gp)) (k2.frz mD) (eDP_of upd_same (r2.up (Same.new k2.gp)) o2)
end
end Kx
end
section
set_option maxHeartbeats 2000000
namespace Kx
open PySem L2
/-! ### instances -/
def fldIx : List Str → Str → Option Nat
  | [], _ => none
  | n :: ns, f => if n = f then some 0 else (fldIx ns f).map (· + 1)
theorem fldIx_lookup {f : Str} : ∀ {fs : List (Str × V)} {i : Nat}, fldIx (fs.map (·.1)) f = some i → fs.lookup f = (fs.map (·.2))[i]?
  | [], _, h => by cases h
  | (n, v) :: fs, i, h => by
    rw [List.map_cons] at h
    unfold fldIx at h
    rw [List.lookup_cons]
    by_cases e : n = f
    · rw [if_pos e] at h
      cases h
      rw [show (f == n) = true from beq_iff_eq.mpr e.symm]
      rfl
    · rw [if_neg e] at h
      obtain ⟨j, hj, rfl⟩ := Option.map_eq_some_iff.mp h
      rw [show (f == n) = false from beq_eq_false_iff_ne.mpr fun z => e z.symm]
      exact fldIx_lookup hj
theorem fldIx_none {f : Str} : ∀ {fs : List (Str × V)}, fldIx (fs.map (·.1)) f = none → fs.lookup f = none ∧ ∀ v, putF f v fs = fs ++ [(f, v)]
  | [], _ => ⟨rfl, fun _ => rfl⟩
  | (n, v) :: fs, h => by
    rw [List.map_cons] at h
    unfold fldIx at h
    by_cases e : n = f
    · rw [if_pos e] at h
      cases h
    · rw [if_neg e] at h
      obtain ⟨h1, h2⟩ := fldIx_none (Option.map_eq_none_iff.mp h)
      refine ⟨?_, fun w => ?_⟩
      · rw [List.lookup_cons, show (f == n) = false from beq_eq_false_iff_ne.mpr fun z => e z.symm]
        exact h1
      · unfold putF
        rw [if_neg e, h2 w]
        rfl
section
variable {K : PySem.W.Frag} {σ σ' : St} {G G' M M1 M2 M3 : Hp} {ta tb te tc : TE} {P P1 P2 : VP} {d : Dat} {ds es : List Dat} {D : Ends} {H : Hp} {u : TS} {C : Addr} {cn : Str} {ns : List Str}
theorem dq_ins {v : V} (h : Dq K G v (.ins cn ns ds)) : ∃ a dx fs, v = .ref a ∧ G a = some (.ins (clsAt K cn) dx fs) ∧ fs.map (·.1) = ns ∧ DqAll K G (fs.map (·.2)) ds := by
  cases h with
  | ins a b c => exact ⟨_, _, _, rfl, a, b, c⟩
theorem ev_fld [Tb] {f : Str} {i : Nat} (c : Cls K (clsAt K cn)) (n : NoAttr K (clsAt K cn) f) (hl : fldIx ns f = some i) (hd : ds[i]? = some d) (h : Ev te σ G M M1 (DD K (.ins cn ns ds))) : Ev (tFld K te f) σ G M M1 (DD K d) := fun G0 H s k Q q =>
  h G0 H s k _ fun x G1 H1 s1 k1 hx => by
    obtain ⟨a, dx, fs, rfl, h1, h2, h3⟩ := dq_ins hx
    subst h2
    obtain ⟨v, h4, h5⟩ := dpAll_get h3 hd
    exact ⟨a, clsAt K cn, dx, fs, v, rfl, k1.g _ _ h1, c, n, (fldIx_lookup hl).trans h4, q v G1 H1 s1 k1 h5⟩
/-- the promise of __init__: the object that is being made may be changed, then has these fields -/
def spI [Tb] {α ρ : Type} (K : PySem.W.Frag) (C : Addr) (ns : List Str) (fl : ρ → List Dat) (args : α → List V → Hp → Prop) (m : α → Option ρ) : Sp := fun vs H Q _ =>
  ∃ (G M : Hp) (x dx : Addr) (ws : List V) (a : α) (r : ρ), vs = .ref x :: ws ∧ Ok G (upd M x (.ins C dx [])) H ∧ M x = none ∧ args a ws G ∧ m a = some r ∧
    ∀ fs G' H', Same G G' → Ok G' (upd M x (.ins C dx fs)) H' → fs.map (·.1) = ns → DqAll K G' (fs.map (·.2)) (fl r) → Q .non H'
theorem ev_make [Tb] {α ρ : Type} {fl : ρ → List Dat} {args : α → List V → Hp → Prop} {m : α → Option ρ} {E : XK} {t : TA} {a : α} {r : ρ} (hm : m a = some r) (ha : EvA t σ G M M1 (args a)) : Ev (tMake (clsAt K cn) (spI K (clsAt K cn) ns fl args m) [] E t) σ G M M1 (DD K (.ins cn ns (fl r))) := fun G0 H s k Q q =>
  ha G0 H s k _ fun vs G1 H1 s1 k1 hv x dx hx hdx hne => by
    rw [List.append_nil]
    have h2 : Ok G1 M1 (upd H1 dx (.own x)) := ⟨k1.g.trans (Same.new hdx), k1.m.trans (Same.new hdx), k1.d, k1.mu, tb_new k1.tb hdx⟩
    have hx2 : (upd H1 dx (.own x)) x = none := by rw [upd_ne (fun z => hne z.symm)]; exact hx
    refine ⟨G1, M1, x, dx, vs, a, r, rfl, h2.newM _ hx2, Same.none k1.m hx, hv, hm, fun fs G2 H2 s2 k2 e1 e2 => ⟨rfl, ?_⟩⟩
    exact q _ (upd G2 x (.ins (clsAt K cn) dx fs)) H2 ((s1.trans s2).trans (Same.new k2.gp)) (k2.frz (Same.none k1.m hx)) (.ins upd_same e1 (dpAll_up (Same.new k2.gp) _ e2))
/-- self.f = e, f a new field -/
theorem q_fld [Tb] {f : Str} {x dx : Addr} {fs : List (Str × V)} {M0 : Hp} (c : Cls K C) (n : NoAttr K C f) (he : Ev te σ G (upd M0 x (.ins C dx fs)) (upd M0 x (.ins C dx fs)) (DD K d)) (ho : Ev ta σ G (upd M0 x (.ins C dx fs)) (upd M0 x (.ins C dx fs)) (OW x)) (hk : fs.map (·.1) = ns) (hl : fldIx ns f = none) (hz : ns.length < 1000) (ok : Ok G (upd M0 x (.ins C dx fs)) H)
    (k : ∀ v G' H', Same G G' → Ok G' (upd M0 x (.ins C dx (fs ++ [(f, v)]))) H' → Dq K G' v d → u D σ H') : tSeq (sFld K ta te f) u D σ H :=
  he G H (Same.refl _) ok _ fun v G1 H1 s1 k1 hv => ho G1 H1 s1 k1 _ fun y G2 H2 s2 k2 hy => by
    cases hy
    subst hk
    refine ⟨x, C, dx, fs, rfl, k2.m _ _ upd_same, c, n, by rw [List.length_map] at hz; exact hz, ?_⟩
    rw [(fldIx_none hl).2 v]
    have := k2.chg (p := x) (u := .ins C dx fs) (.ins C dx (fs ++ [(f, v)])) upd_same
    rw [upd_upd] at this
    exact k v G2 _ (s1.trans s2) this (dp_up s2 _ hv)
/-- isinstance(x, C), C the class of x -/
abbrev CLX (C : Addr) : VP := fun v _ => v = .ref C
end
/-! ### a def with one default -/
structure FunT (K : PySem.W.Frag) (x qual : Str) (st : Stmt) (E f : Addr) (fd : FuncData) : Prop where
  ex : FunD K x qual (defArgs st) (defBody st) (defScope st) [.ref E] [] f fd
theorem funT_mk {K : PySem.W.Frag} {x qual : Str} {st : Stmt} {f T E : Addr} {oc cT : Value} {od an dT : Option Addr} {osl slT : Array (Option Value)} {kV doc pm cdv ct : Value} {nT : Nat} (l : K.lookup f = some ⟨oc, od, .func (PySem.W.fnOf x qual (defArgs st) (defBody st) (defScope st) (.ref T) kV doc pm an cdv ct), osl⟩)
    (lT : K.lookup T = some ⟨cT, dT, .seq #[.ref E] nT, slT⟩) (c : PySem.W.codeIn K cdv qual = true) (k : PySem.W.keepIn K (.ref f) = true) : FunT K x qual st E f (PySem.W.fnOf x qual (defArgs st) (defBody st) (defScope st) (.ref T) kV doc pm an cdv ct) :=
  ⟨⟨⟨oc, od, _, kV, doc, pm, an, cdv, ct, osl, rfl, l, c, .inr ⟨by simp, T, _, [.ref E], nT, rfl, lT, rfl, .cons rfl .nil⟩, .inl rfl⟩, k⟩⟩
end Kx
end
section
set_option maxHeartbeats 2000000
namespace Kx
open PySem L2 PySem.Spec PyProof.Rows
end Kx
end
section
set_option maxHeartbeats 2000000
namespace PyProof.Rows
open PySem PySem.Spec
end PyProof.Rows
namespace Kx
open PySem L2 PySem.Spec
section
variable {X : Cx} {K : PySem.W.Frag}
/-! order of data -/
def rLeD (K : PySem.W.Frag) : R2 := fun x y H Q => ∃ d e, Dp K H x d ∧ Dp K H y e ∧ PySem.W.alike d e = true ∧ d ≠ .none ∧ min d.depth e.depth ≤ 64 ∧ Q (.bl (!PySem.W.dataLt e d)) H
theorem op_leD (hu : X.A.units + 64 < cLine) (hK : X.K = K := by rfl) : OpR X (compareOp .LtE) (rLeD K) := by
  subst hK
  intro pins s σ H x y v u Q I rx ry h
  obtain ⟨d, e, hd, he, al, hn, hm, q⟩ := h
  obtain ⟨as, r1⟩ := Dp.reads I d x v hd rx
  obtain ⟨bs, r2⟩ := Dp.reads I e y u he ry
  exact PySem.W.le_data r1 r2 al hn (by omega) ⟨.bl _, H, I, rfl, q⟩
end
section
variable {β : Type} {K : PySem.W.Frag} {σ σ' : L2.St} {G G' M M1 M2 M3 : Hp} {ta tb te tc : TE} {P P1 P2 : VP} {d : Dat} {ds es : List Dat} {e : β → Dat}
/-- pairs of texts in their order -/
def ltP (a b : Str × Str) : Bool := if a.1 = b.1 then sLt a.2 b.2 else sLt a.1 b.1
theorem lex_str (a b : Str) : PyProof.Rows.lexLt PyProof.Rows.itemOrd [Sum.inr a.cps.toList] [Sum.inr b.cps.toList] = sLt a b := by
  have := PySem.W.dataLt_str a b
  unfold PySem.W.dataLt at this
  simp only [PySem.W.keyToks] at this
  exact this
theorem dataLt_pair (a b : Str × Str) : PySem.W.dataLt (.tuple [.str a.1, .str a.2]) (.tuple [.str b.1, .str b.2]) = ltP a b := by
  rw [PySem.W.dataLt_tuple]
  simp only [PySem.W.keyToksAll, PySem.W.keyToks, List.cons_append, List.nil_append]
  rw [PyProof.Rows.lex_self]
  unfold ltP
  by_cases h1 : a.1 = b.1
  · rw [if_pos h1, h1, PyProof.Rows.lex_self, PyProof.Rows.lex_self]
    by_cases h2 : a.2 = b.2
    · rw [h2, PyProof.Rows.lex_self, PyProof.Rows.lex_self, sLt_irr]
      rfl
    · rw [PySem.W.lex_atom (fun z => h2 (str_ext (Sum.inr.inj z))), lex_str]
  · rw [if_neg h1, PySem.W.lex_atom (fun z => h1 (str_ext (Sum.inr.inj z))), lex_str]
theorem ev_leP [Tb] {a b : Str × Str} (ha : Ev ta σ G M M1 (DD K (.tuple [.str a.1, .str a.2]))) (hb : Ev tb σ G M1 M2 (DD K (.tuple [.str b.1, .str b.2]))) : Ev (tOp (rLeD K) ta tb) σ G M M2 (DD K (.bool (!ltP b a))) := ev_op mo_dd ha hb fun x y G0 H s k hx hy Q q => by
  have e : ∀ c : Str × Str, toPy (.tuple [.str c.1, .str c.2]) = .tuple [.str c.1, .str c.2] := fun c => by rw [toPy_tuple]; simp [toPy]
  have p : ∀ c : Str × Str, pur (.tuple [.str c.1, .str c.2]) = true := fun c => by simp [pur, purs]
  have h1 := dq_dp _ (p a) (dp_up k.g _ hx)
  have h2 := dq_dp _ (p b) (dp_up k.g _ hy)
  rw [e] at h1 h2
  refine ⟨_, _, h1, h2, by simp [PySem.W.alike, PySem.W.alikeAll], by simp, by simp [PyData.depth, PyData.depthAll], ?_⟩
  rw [dataLt_pair]
  exact q _ G0 H (Same.refl _) k (.bl _)
end
end Kx
end
section
set_option maxHeartbeats 2000000
namespace Kx
open PySem L2
section
variable {K : PySem.W.Frag} {σ σ' : St} {G G' M M1 M2 M3 : Hp} {ta tb te tc : TE} {P P1 P2 : VP} {d : Dat} {ds es : List Dat} {C : Addr} {cn : Str} {ns : List Str}
theorem mo_clx : Mo (CLX C) := fun _ _ _ _ h => h
theorem ev_clx [Tb] : Ev (tC (.ref C)) σ G M M (CLX C) := fun G0 H _ k Q q => q _ G0 H (Same.refl _) k rfl
/-- isinstance(x, C), x an instance of a class of one's own -/
theorem ev_isiX [Tb] {C' : Addr} {b : Bool} (c : ClsOk K (clsAt K cn)) (hb : PySem.W.kitOne K (.ref (clsAt K cn)) (.ref C') = some b) (ha : EvA (tCons ta (tCons tb tNil)) σ G M M1 (conP (DD K (.ins cn ns ds)) (conP (CLX C') nilP))) : Ev (tCB (rIsi K) (tCons ta (tCons tb tNil))) σ G M M1 (DD K (.bool b)) := ev_cb ha fun xs G0 H s k hx Q q => by
  obtain ⟨v, w, rfl, hv, hw⟩ := two_of hx
  cases hw
  exact ⟨v, _, _, _, b, rfl, .own C', tyx_of k.g (fun C1 n1 x1 e => by cases e; exact c) (fun _ _ e => by cases e) hv, hb, q _ G0 H (Same.refl _) k (.bl _)⟩
/-! ### comprehensions with two fors -/
end
end Kx
end
section
set_option maxHeartbeats 2000000
namespace Kx
open PySem L2
/-- a text's signs -/
def signs (z : Str) : List Str := z.cps.toList.map fun c => ⟨#[c]⟩
theorem signs_map {z : Str} : (z.cps.toList.map fun c => Dat.str ⟨#[c]⟩) = (signs z).map Dat.str := by
  unfold signs
  rw [List.map_map]
  rfl
section
variable {X : Cx} {K : PySem.W.Frag}
theorem pe_fldK {e : Expr} {ta : TE} {f : Str} {pos : Pos} (he : PE X e ta) (hb : attributeBase e f X.env (eval e X.env) = eval e X.env := by rfl) (h : X.K = K := by rfl) : PE X (.Attribute e f pos) (tFld K ta f) := h ▸ pe_fld he hb
theorem cl_dictTK (hcalm : X.calm = true) (h : X.K = K := by rfl) : CallR X (.type "dict") (rDictT K) := h ▸ cl_dictT hcalm
end
section
variable {β : Type} {K : PySem.W.Frag} {σ σ' : St} {G G' M M1 M2 M3 : Hp} {ta tb te tc : TE} {P P1 P2 : VP} {d : Dat} {ds es : List Dat} {D : Ends} {H : Hp} {u : TS} {e : β → Dat}
/-- what is one's own stands still from here on -/
theorem k_frz [Tb] {M0 : Hp} {p : Addr} {o : HO} (ok : Ok G M H) (hp : M p = some o) (h0 : M0 p = none) (hB : Same M0 M) (k : ∀ G', Same G G' → G' p = some o → Ok G' M0 H → u D σ H) : u D σ H :=
  k (upd G p o) (Same.new (ok.d _ _ hp)) upd_same (ok.giveL hp h0 hB)
end
end Kx
end
section
set_option maxHeartbeats 2000000
namespace Kx
open PySem L2
/-- all places are told: the default fills nothing -/
theorem FunT.binds3 {K : PySem.W.Frag} {x qual : Str} {st : Stmt} {E0 f : Addr} {fd : FuncData} {ps : List Str} (F : FunT K x qual st E0 f fd)
    (h : ∀ (T : Addr) (kV doc pm : Value) (an : Option Addr) (cdv ct : Value) (us its : List Value), us.length = ps.length → its.length = 1 →
      ∃ k, bindArgs (PySem.W.fnOf x qual (defArgs st) (defBody st) (defScope st) (.ref T) kV doc pm an cdv ct) ⟨us, []⟩ = seqItems? (.ref T) >>= k ∧ k (some its.toArray) = pure (ps.zip us)) : Binds K fd ps [] := by
  obtain ⟨ds, r, b⟩ := F.ex.binds1 (ps := ps) ps.length 1 (by simp) (by simp) fun T kV doc pm an cdv ct us its hl hi => by
    obtain ⟨k, h1, h2⟩ := h T kV doc pm an cdv ct us its hl hi
    refine ⟨k, h1, ?_⟩
    have : its.drop 1 = [] := by
      rw [List.drop_eq_nil_iff]
      have := hi
      simp at this
      omega
    rw [this, List.append_nil]
    exact h2
  cases r
  exact b
theorem kit_self {K : PySem.W.Frag} {t : Value} : PySem.W.kitOne K t t = some true := by
  unfold PySem.W.kitOne
  simp
end Kx
end
section
set_option maxHeartbeats 2000000
namespace Kx
open PySem L2
end Kx
end
section
set_option maxHeartbeats 2000000
namespace Kx
open PySem L2
section
variable {β : Type} {K : PySem.W.Frag} {σ σ' : St} {G G' M M1 M2 M3 : Hp} {ta tb te tc tk tv : TE} {P P1 P2 : VP} {d : Dat} {ds es : List Dat} {D : Ends} {H : Hp} {u : TS} {e : β → Dat}
/-! ### a dict of one's own by pairs of texts -/
def KOkP (K : PySem.W.Frag) (G : Hp) (e : β → Dat) (kvs : List (List Key × V)) (xs : List ((Str × Str) × β)) : Prop := KRel K G kP e kvs xs ∧ ∀ x ∈ xs, okP x.1
theorem KOkP.up {kvs : List (List Key × V)} {xs : List ((Str × Str) × β)} (s : Same G G') (h : KOkP K G e kvs xs) : KOkP K G' e kvs xs := ⟨h.1.up s, h.2⟩
theorem KOkP.nil : KOkP K G e [] [] := ⟨.nil, fun x hx => (nomatch hx)⟩
end
end Kx
end
section
set_option maxHeartbeats 2000000
namespace Kx
open PySem L2
/-! ### a dict is locked for a statement -/
end Kx
end
section
set_option maxHeartbeats 2000000
namespace Kx
open PySem L2 PySem.Spec PyProof.Rows
/-! ### for (k, v) in d.items(), d a locked dict by tuples -/
end Kx
end
section
set_option maxHeartbeats 2000000
namespace Kx
open PySem L2
end Kx
end
section
set_option maxHeartbeats 2000000
namespace Kx
open PySem L2 PySem.Spec PyProof.Rows
/-! ### promises where no repr is under way: repr of data can be told -/
/-- as FnOk, asked only where no guard is known to be under way -/
structure FnOkG (P : Program) (w : World) (K : PySem.W.Frag) (mg : Str → Option Value) (base : Heap) (CX : CXT) (k : Nat) (f : Addr) (fd : FuncData) (ps : List Str) (sp : Sp) : Prop where
  len : ∀ vs H Q E, sp vs H Q E → vs.length = ps.length
  run : ∀ (A : Around) (out : List Env) (s : Shared) (H : Hp) (ar : Args) (us : List Value) (vs : List V) (Q : VK) (E : XK), A.guards = some [] → Room k A → Env0 P w K mg base A out s H → BindsTo s fd ar (ps.zip us) → Vals vs us →
    sp vs H Q E → codeAny (model P w) A (.call (.ref f) ar) (CR CX out P w H s Q E) s
section
variable {P : Program} {w : World} {K : PySem.W.Frag} {mg : Str → Option Value} {base : Heap} {CX : CXT} {k : Nat} {f : Addr} {fd : FuncData} {ps : List Str} {sp : Sp}
/-- the rule for a def of the text, its body with the guards known -/
theorem okG {x qual : Str} {st : Stmt} {N : List Str} (F : Fun K x qual st f fd) (S : FnScope N ps (defScope st)) (len : ∀ vs H Q E, sp vs H Q E → vs.length = ps.length)
    (hb : ∀ (cdv : Value) (A : Around) (out : List Env) (s : Shared) (H : Hp) (vs : List V) (Q : VK) (E : XK), Room k (A.deeper (envOfC qual (defScope st) s.heap.objs.size f cdv)) → (A.deeper (envOfC qual (defScope st) s.heap.objs.size f cdv)).guards = some [] → sp vs H Q E →
      ∃ t, PSs (cxOf CX0 P w K mg base N qual (defScope st) f cdv A out s H E).nox (defBody st) t ∧ t { nx := fun _ H' => Q .non H', rt := Q } (start N vs) H) : FnOkG P w K mg base CX0 (k + 1) f fd ps sp := by
  obtain ⟨oc, od, kV, doc, pm, an, cdv, ct, osl, rfl, lk, hcd⟩ := F.ex
  refine ⟨len, fun A out s H ar us vs Q E hgd hr en hbt rel hsp => ?_⟩
  have old : ∀ b o, base.get? b = some o → s.heap.get? b = some o := fun b o e => (en.bs b o e).1
  have kin : K.In s.heap := en.mod.kin.keeps old
  obtain ⟨t, ht, hq⟩ := hb cdv A out s H vs Q E (hr.deeper _) (by show A.guards = some []; exact hgd) hsp
  refine codeAny_call_function hr.depth (kin _ _ lk) rfl S.co S.gen rfl (PySem.W.codeRec_of kin hcd) (hbt _ _ _ _ (wpAny_newFunctionEnv_cells S.kind (fun ⟨n, v⟩ hy => ?_) fun env he s1 x => ?_))
  · rcases S.par n (List.of_mem_zip hy).1 with c | c
    · exact .inl c
    · exact .inr ⟨c, PySem.W.cellsFrom_some _ _ _ (.inl c)⟩
  · subst he
    refine ⟨(en.mod.nolimit.keeps old).keeps x.toInCall.keep, codeAny_func ?_⟩
    refine wpAny_mono (ht.nox.run [] s1 (start N vs) H _ (inv_start S hr.hd en (len _ _ _ _ hsp) rel x) hq) (fun fl s' hs => ?_) fun _ _ hs => hs
    cases fl with
    | ret u => exact (fun ⟨v, _, H', J, rv, q⟩ => ⟨v, H', J.os, J.bare, J.base, J.hok, rv, q⟩) hs
    | next => exact (fun ⟨_, H', J, q⟩ => ⟨V.non, H', J.os, J.bare, J.base, J.hok, rfl, q⟩) hs
    | brk => exact (fun ⟨_, _, _, q⟩ => q.elim) hs
    | cont => exact (fun ⟨_, _, _, q⟩ => q.elim) hs
end
section
variable {X : Cx} {CX : CXT} {k : Nat} {f : Addr} {fd : FuncData} {ps : List Str} {sp : Sp} {dvs : List V} {ds : List Value} {E : XK} {x : Str} {p pos : Pos} {e : Expr} {es : List Expr} {t : TA}
theorem pe_callG (F : FnOkG X.prog X.w X.K X.mg X.base CX k f fd ps sp) (hgd : X.A.guards = some []) (hr : Room k X.A) (hg : Gl X x) (hm : X.mg x = some (.ref f)) (hk : PySem.W.keepIn X.K (.ref f) = true) (hb : Binds X.K fd ps ds) (hd : Vals dvs ds) (hx : Passes CX X E)
    (ha : PA X (e :: es) t) (hdb : (x == ("__debug__" : Str)) = false := by decide) (he : starEach (e :: es) X.env = (false, eval e X.env) :: starEach es X.env := by rfl) (hpl : (backTo pos (starEach es X.env)).any (·.1) = false := by rfl) :
    PE X (.Call (.Name x p) (e :: es) [] pos) (tCall sp dvs E t) := by
  refine ⟨fun pins s σ H Q I h => wpAny_Call_Name_kw (ld_glob I hg hm ?_ hdb)⟩
  refine PySem.W.callWith_K (h₀ := X.base) I.ok.mod.kin hk (thn (ha.run pos pins s σ H _ I h) fun us s1 ⟨vs, H1, J, r, q⟩ => ⟨J.kIn, ?_⟩) he hpl
  have rr : Vals (vs ++ dvs) (us ++ ds) := r.append hd
  refine wpAny_call (codeAny_mono (F.run X.A X.stack s1 H1 ⟨us, []⟩ (us ++ ds) (vs ++ dvs) Q E hgd hr J.env0 (hb s1 us J.kIn (by rw [← rr.length]; exact F.len _ _ _ _ q)) rr q) fun rs s' hq => ?_)
  cases rs with
  | error e => exact hx pins σ H1 s1 e s' J hq
  | ok fl =>
    cases fl with
    | ret u => exact J.after hq
    | next => exact hq.elim
    | brk => exact hq.elim
    | cont => exact hq.elim
end
end Kx
end
section
set_option maxHeartbeats 2000000
namespace Kx
open PySem L2 PySem.Spec PyProof.Rows
/-! ### repr of data -/
/-- the signs of a text are signs -/
def sgn (x : Str) : Prop := ∀ c ∈ x.cps.toList, c < 0x110000
theorem sgn_sok {x : Str} : sgn x ↔ sok x = true := by
  unfold sgn sok PyData.strOk
  rw [Array.all_eq_true']
  simp
theorem sgn_app {x y : Str} (h : sgn x) (h2 : sgn y) : sgn (x ++ y) := fun c hc => by
  have e : (x ++ y).cps.toList = x.cps.toList ++ y.cps.toList := by
    show (x.cps ++ y.cps).toList = _
    simp
  rw [e] at hc
  rcases List.mem_append.mp hc with h' | h'
  · exact h c h'
  · exact h2 c h'
theorem sgn_ofString (s : String) : sgn (Str.ofString s) := fun c hc => by
  rw [Str.ofString_eq_toList] at hc
  obtain ⟨ch, _, rfl⟩ := List.mem_map.mp (by simpa using hc)
  have := ch.valid
  unfold UInt32.isValidChar Nat.isValidChar at this
  show ch.val.toNat < _
  omega
theorem sgn_hex (n : Nat) : ∀ c ∈ (Nat.toDigits 16 n).map Char.toNat, c < 0x110000 := fun c hc => by
  obtain ⟨ch, _, rfl⟩ := List.mem_map.mp hc
  have := ch.valid
  unfold UInt32.isValidChar Nat.isValidChar at this
  show ch.val.toNat < _
  omega
theorem sgn_char {q c : Nat} (hc : c < 0x110000) : ∀ x ∈ Builtin.Str.reprChar q c, x < 0x110000 := by
  have hx : ∀ (n : Nat), ∀ x ∈ List.replicate n 48 ++ (Nat.toDigits 16 c).map Char.toNat, x < 0x110000 := fun n x hx => by
    rcases List.mem_append.mp hx with h | h
    · rw [(List.mem_replicate.mp h).2]; decide
    · exact sgn_hex c x h
  unfold Builtin.Str.reprChar
  dsimp only
  intro x h
  repeat' split at h
  all_goals first
    | (simp at h; rcases h with h | h <;> omega)
    | (simp at h; omega)
    | (rcases List.mem_append.mp h with h | h
       · (simp at h; rcases h with h | h <;> omega)
       · exact hx _ x h)
theorem sgn_repr {x : Str} (h : sgn x) : sgn (reprText x) := by
  have hq : reprQuote x < 0x110000 := by unfold reprQuote; split <;> decide
  have key : ∀ (l : List Nat) (acc : Array Nat), (∀ c ∈ l, c < 0x110000) → (∀ c ∈ acc.toList, c < 0x110000) → ∀ c ∈ (l.foldl (fun out c => out ++ (Builtin.Str.reprChar (reprQuote x) c).toArray) acc).toList, c < 0x110000 := by
    intro l
    induction l with
    | nil => intro acc _ h2; exact h2
    | cons d l ih =>
      intro acc h1 h2
      refine ih _ (fun c hc => h1 c (List.mem_cons_of_mem _ hc)) fun c hc => ?_
      rw [Array.toList_append] at hc
      rcases List.mem_append.mp hc with h' | h'
      · exact h2 c h'
      · exact sgn_char (h1 d List.mem_cons_self) c h'
  intro c hc
  unfold reprText at hc
  rw [← Array.foldl_toList] at hc
  rw [Array.toList_push] at hc
  rcases List.mem_append.mp hc with h' | h'
  · exact key _ _ h (fun c hc => by simp at hc; omega) c h'
  · simp at h'; omega
theorem sgn_join {sep : Str} (hs : sgn sep) : ∀ ts : List Str, (∀ t ∈ ts, sgn t) → sgn (Str.join sep ts)
  | [], _ => by
    unfold Str.join
    intro c hc
    simp [Str.empty] at hc
  | [x], h => by
    unfold Str.join
    exact h x List.mem_cons_self
  | x :: y :: r, h => by
    unfold Str.join
    exact sgn_app (sgn_app (h x List.mem_cons_self) hs) (sgn_join hs (y :: r) fun t ht => h t (List.mem_cons_of_mem _ ht))
mutual
theorem sgn_shown : ∀ d : PyData, d.canLay0 = true → sgn d.shown
  | .none, _ => by unfold PyData.shown; exact sgn_ofString _
  | .bool b, _ => by unfold PyData.shown; split <;> exact sgn_ofString _
  | .int i, _ => by unfold PyData.shown; exact sgn_ofString _
  | .str x, h => by
    rw [PyData.shown_str]
    exact sgn_repr (sgn_sok.mpr (by simpa [PyData.canLay0] using h))
  | .list xs, h => by
    rw [PyData.shown_list]
    exact sgn_app (sgn_app (sgn_ofString _) (sgn_join (sgn_ofString _) _ (sgn_shownAll xs (by simpa [PyData.canLay0] using h)))) (sgn_ofString _)
  | .tuple xs, h => by
    rw [PyData.shown_tuple]
    exact sgn_app (sgn_app (sgn_ofString _) (sgn_join (sgn_ofString _) _ (sgn_shownAll xs (by simpa [PyData.canLay0] using h)))) (sgn_ofString _)
  | .dict kvs, h => by simp [PyData.canLay0] at h
theorem sgn_shownAll : ∀ ds : List PyData, PyData.canLayAll0 ds = true → ∀ t ∈ PyData.shownAll ds, sgn t
  | [], _ => by unfold PyData.shownAll; intro t ht; cases ht
  | d :: ds, h => by
    have h2 : d.canLay0 = true ∧ PyData.canLayAll0 ds = true := by simpa [PyData.canLayAll0] using h
    unfold PyData.shownAll
    intro t ht
    rcases List.mem_cons.mp ht with rfl | ht
    · exact sgn_shown d h2.1
    · exact sgn_shownAll ds h2.2 t ht
end
/-- what can be shown here -/
def repOk (d : PyData) : Bool := decide (d.weight ≤ 100000) && d.intsShort 40 && d.showable && decide (d.depth ≤ 50)
def reprO (d : PyData) : Option Str := if repOk d then some d.shown else none
theorem reprO_of {d : PyData} {x : Str} (h : reprO d = some x) : repOk d = true ∧ x = d.shown := by
  unfold reprO at h
  split at h
  · next e => cases h; exact ⟨e, rfl⟩
  · cases h
theorem rep_fits {d : PyData} (h : repOk d = true) (hl : d.canLay0 = true) : d.shown.length ≤ sizeLine := by
  simp [repOk] at h
  have h2 := PyData.shown_le 40 (by decide) d (PyData.leavesShort_of_canLay0 40 d hl h.1.1.2)
  have h3 := h.1.1.1
  rw [sizeLine_eq]
  omega
def rRepr (K : PySem.W.Frag) : List V → Hp → VK → Prop := fun xs H Q => ∃ (a : Addr) (d : PyData), xs = [.ref a] ∧ Dp K H (.ref a) d ∧ d.canLay0 = true ∧ repOk d = true ∧ Q (.str d.shown) H
theorem cl_repr {X : Cx} {K : PySem.W.Frag} (hg : X.A.guards = some []) (hu : X.A.units + 64 < cLine) (hK : X.K = K) : CallR X (.builtin "repr") (rRepr K) := by
  subst hK
  intro pins s σ H xs us Q I r h
  obtain ⟨a, d, rfl, hd, hl, hk, q⟩ := h
  cases r with
  | cons r1 r2 =>
    cases r2
    obtain ⟨as, hr⟩ := Dp.reads I d _ _ hd r1
    obtain rfl := r1
    have h1 := rep_fits hk hl
    simp [repOk] at hk
    exact repr_of_reads' hr hk.1.2 (PyData.noDict_hsm (PyData.hasDict_of_canLay _ hl)) hg (by have := hk.2; omega) (fun _ _ e => e) (fun h' u tk kp => ⟨.str _, H, I.kept kp, ⟨_, rfl⟩, q⟩) h1
section
variable {K : PySem.W.Frag} {σ : L2.St} {G M M1 : Hp} {ta : TE} {d : Dat}
def seqB : Dat → Bool
  | .list _ => true
  | .tuple _ => true
  | .rtup _ => true
  | _ => false
theorem seq_ref {v : V} (hs : seqB d = true) (h : Dq K G v d) : ∃ a, v = .ref a := by
  cases h <;> first | exact ⟨_, rfl⟩ | (simp [seqB] at hs)
theorem ev_repr [Tb] {x : Str} (p : pur d = true) (hs : seqB d = true) (hx : reprO (toPy d) = some x) (ha : EvA (tCons ta tNil) σ G M M1 (conP (DD K d) nilP)) : Ev (tCB (rRepr K) (tCons ta tNil)) σ G M M1 (DD K (.str x)) := fun G0 H s k Q q =>
  ha G0 H s k _ fun vs G1 H1 s1 k1 hv => by
    obtain ⟨v, ws, rfl, hv, rfl⟩ := hv
    obtain ⟨a, rfl⟩ := seq_ref hs hv
    obtain ⟨h1, rfl⟩ := reprO_of hx
    have hl := dq_lay d p hv
    exact ⟨a, toPy d, rfl, dq_dp d p (dp_up k1.g d hv), hl, h1, q _ G1 H1 s1 k1 (.str (sgn_sok.mp (sgn_shown _ hl)))⟩
end
/-! ### the law's end, from a promise that asks for no guards -/
end Kx
end
section
set_option maxHeartbeats 2000000
namespace Kx
open PySem L2
/-! ### the default of a def, an empty tuple of the text's own -/
/-! ### a list of things of two kinds -/
end Kx
end
section
set_option maxHeartbeats 2000000
namespace Kx
open PySem L2 PySem.Spec PyProof.Rows
/-! ### a tuple so many times -/
/-! ### what may be changed stands still from here on -/
theorem k_del [Tb] {G M H : Hp} {p : Addr} {o : HO} {C : Prop} (ok : Ok G M H) (hp : M p = some o) (k : ∀ G' M', Same G G' → G' p = some o → (∀ a, a ≠ p → M' a = M a) → Ok G' M' H → C) : C := by
  have gp : G p = none := ok.d p o hp
  refine k (upd G p o) (fun a => if a = p then none else M a) (Same.new gp) upd_same (fun a ha => if_neg ha) ⟨fun a u e => ?_, fun a u e => ?_, fun a u e => ?_, fun a u e => ?_, tb_G ok.tb (ok.mu p o hp).nt.noTbl⟩
  · by_cases ha : a = p
    · subst ha; rw [upd_same] at e; cases e; exact ok.m _ _ hp
    · rw [upd_ne ha] at e; exact ok.g a u e
  · by_cases ha : a = p
    · have z := (if_pos ha).symm.trans e; cases z
    · exact ok.m a u ((if_neg ha).symm.trans e)
  · by_cases ha : a = p
    · have z := (if_pos ha).symm.trans e; cases z
    · rw [upd_ne ha]; exact ok.d a u ((if_neg ha).symm.trans e)
  · by_cases ha : a = p
    · have z := (if_pos ha).symm.trans e; cases z
    · exact ok.mu a u ((if_neg ha).symm.trans e)
theorem sB_del {M0 M M' : Hp} {p : Addr} (hM : ∀ a, a ≠ p → M' a = M a) (h0 : M0 p = none) (hB : Same M0 M) : Same M0 M' := fun a u e => (hM a (ne_of_none e h0)).trans (hB a u e)
end Kx
end
section
set_option maxHeartbeats 2000000
namespace Kx
open PySem L2
/-! ### a dict locked for an expression -/
end Kx
end
section
set_option maxHeartbeats 2000000
namespace Kx
open PySem L2
/-! ### zip of three, lists and tuples -/
end Kx
end
section
set_option maxHeartbeats 2000000
namespace Kx
open PySem L2
end Kx
end
section
set_option maxHeartbeats 2000000
namespace Kx
open PySem L2
end Kx
end
section
set_option maxHeartbeats 2000000
namespace Kx
open PySem L2 PySem.Spec PyProof.Rows
/-! ### zip of 4: next -/
end Kx
end
section
set_option maxHeartbeats 2000000
namespace Kx
open PySem L2
end Kx
end
section
set_option maxHeartbeats 2000000
namespace Kx
open PySem L2
section
variable {α : Type} [DecidableEq α] {K : PySem.W.Frag} {σ : L2.St} {G M M1 M2 H : Hp} {ta tb te : TE} {e : α → Dat} {n : Nat} {d1 d2 d : Dat} {ds es : List Dat}
/-! ### x in l, l a list of one's own -/
/-! ### l.index(x) -/
def idxE (x : α) : List α → Option Nat
  | [] => none
  | y :: ys => if y = x then some 0 else (idxE x ys).map (· + 1)
theorem idxE_of {x : α} : ∀ {xs : List α} {j : Nat}, idxE x xs = some j → xs[j]? = some x ∧ ∀ m, m < j → xs[m]? ≠ some x
  | [], _, h => by cases h
  | y :: ys, j, h => by
    unfold idxE at h
    by_cases e : y = x
    · rw [if_pos e] at h
      cases h
      exact ⟨by simp [e], fun m hm => absurd hm (Nat.not_lt_zero _)⟩
    · rw [if_neg e] at h
      obtain ⟨i, hi, rfl⟩ := Option.map_eq_some_iff.mp h
      obtain ⟨h1, h2⟩ := idxE_of hi
      refine ⟨by simpa using h1, fun m hm => ?_⟩
      cases m with
      | zero => simpa using e
      | succ m => simpa using h2 m (by omega)
theorem mt_indexDK {X : Cx} (hu : X.A.units + 65 < cLine) (h : X.K = K := by rfl) : MtR X "list.index" (rIndexD K) := h ▸ mt_indexD hu
theorem ev_indexD [Tb] {x : α} {xs : List α} {j : Nat} (hj : idxE x xs = some j) (h : EqE e n) (hn : n ≤ 62) (ho : Ev ta σ G M M1 (DD K (eL e xs))) (ha : EvA (tCons tb tNil) σ G M1 M2 (conP (DD K (e x)) nilP)) : Ev (tBM K "list" (rIndexD K) ta (tCons tb tNil)) σ G M M2 (DD K (.int (j : Int))) := fun G0 H s k Q q =>
  ho G0 H s k _ fun v G1 H1 s1 k1 hx => by
    have hx0 := hx
    cases hx with
    | @lst a vs _ hl hd =>
      refine ⟨.inl ⟨rfl, _, .inl (.inl (k1.g _ _ hl))⟩, ha G1 H1 (s.trans s1) k1 _ fun ws G2 H2 s2 k2 hv => ?_⟩
      obtain ⟨y, rfl, hw⟩ := one_of (R := nilP) hv
      obtain ⟨i1, i2⟩ := idxE_of hj
      have e0 : toPy (eL e xs) = .list (xs.map fun z => toPy (e z)) := by
        show toPy (.list (xs.map e)) = _
        rw [toPy_list, List.map_map]
        rfl
      have hdp := dq_dp _ ((eqe_L h).pur xs) (dp_up (s2.trans k2.g) _ hx0)
      have hsh := shp_of (n := 0) ((eqe_L h).pur xs) (Nat.le_trans ((eqe_L h).dep xs) (by omega)) hx0
      rw [e0] at hdp hsh
      refine ⟨a, y, toPy (e x), xs.map fun z => toPy (e z), j, toPy (e x), rfl, rfl, hdp, dq_dp _ (h.pur x) (dp_up k2.g _ hw), hsh, shp_of (n := 0) (h.pur x) (Nat.le_trans (h.dep x) (by omega)) hw, by rw [List.getElem?_map, i1]; rfl, by rw [h.eqv]; exact decide_eq_true rfl, fun m z hm hz => ?_, q _ G2 H2 (s1.trans s2) k2 (.int _)⟩
      rw [List.getElem?_map] at hz
      obtain ⟨z', hz', rfl⟩ := Option.map_eq_some_iff.mp hz
      rw [h.eqv]
      exact decide_eq_false fun q => i2 m hm (by rw [hz', q])
end
/-! ### a list of two things of unlike kinds -/
abbrev ePL3 {α β γ : Type} (e1 : α → Dat) (e2 : β → Dat) (e3 : γ → Dat) (p : α × β × γ) : Dat := .list [e1 p.1, e2 p.2.1, e3 p.2.2]
section
variable {K : PySem.W.Frag} {σ : L2.St} {G H : Hp}
theorem pg_lstK {X : Cx} {pos : Pos} {es : List Expr} {k : Nat} {t : TGs} {n : Nat} (hc : X.calm = true) (h : PGs X es t) (hK : X.K = K := by rfl)
    (hn : (assignEach es X.env).length = n := by rfl) (hst : (assignEach es X.env).findIdx? (·.1) = none := by rfl) : PG X (.Tuple es k pos) (gLst K n t) := hK ▸ pg_lst hc h hn hst
theorem gl3 {g1 g2 g3 : TG} {v : V} {Q : L2.St → Hp → Prop} {d1 d2 d3 : Dat} (hv : Dq K G v (.list [d1, d2, d3])) (s : Same G H) (h : ∀ v1 v2 v3, Dq K G v1 d1 → Dq K G v2 d2 → Dq K G v3 d3 → g1 v1 σ H fun σ1 H1 => g2 v2 σ1 H1 fun σ2 H2 => g3 v3 σ2 H2 Q) : gLst K 3 (gCons g1 (gCons g2 (gCons g3 gNil))) v σ H Q := by
  obtain ⟨a, vs, rfl, h1, h2⟩ := dp_list hv
  cases h2 with
  | cons a1 b1 =>
    cases b1 with
    | cons a2 b2 =>
      cases b2 with
      | cons a3 b3 =>
        cases b3
        refine ⟨a, _, rfl, .inl (.inl (s _ _ h1)), rfl, _, _, rfl, ?_⟩
        rw [gTwo_eq]
        exact h _ _ _ a1 a2 a3
end
end Kx
end
section
set_option maxHeartbeats 2000000
namespace Kx
open PySem L2 PySem.Spec PyProof.Rows PySem.W
/-! ### sorted(d), d a dict by pairs of texts -/
end Kx
end
section
set_option maxHeartbeats 2000000
namespace Kx
open PySem L2 PySem.Spec PyProof.Rows
/-! ### min and max of two texts -/
end Kx
end
section
set_option maxHeartbeats 2000000
namespace Kx
open PySem L2
/-! ### the walk over a list or a tuple -/
end Kx
end
section
set_option maxHeartbeats 2000000
namespace Kx
open PySem L2 PySem.Spec PyProof.Rows
/-! ### {k: v for .. for ..}; turned from HandS.Comp (two fors of a list) and HandS.DictComp -/
end Kx
end
section
set_option maxHeartbeats 2000000
namespace Kx
open PySem L2
end Kx
end
section
set_option maxHeartbeats 2000000
namespace Kx
open PySem L2
end Kx
end
section
set_option maxHeartbeats 2000000
namespace Kx
open PySem L2
end Kx
end
section
set_option maxHeartbeats 2000000
namespace Kx
open PySem L2
section
variable {K : PySem.W.Frag} {σ σ' : St} {G G' M M1 M2 M3 H : Hp} {ta tb te tc : TE} {ds : List Dat} {u : TS} {D : Ends}
/-- xs += ys -/
theorem ip_ext {X : Cx} : PIp X .Add rExt2 := fun pins s σ H x y v u Q I rx ry h => iop_ext pins s σ H x y v u Q I rx ry h
theorem q_augExt [Tb] {i : Nat} {p : Addr} {vs : List V} (hx : σ[i]? = some (some (.ref p))) (he : Ev te σ G M M1 (DD K (.list ds))) (hp : M1 p = some (.lst vs)) (hl : vs.length + ds.length ≤ sizeLine) (hσ : σ.set i (some (.ref p)) = σ) (ok : Ok G M H)
    (k : ∀ ws G' H', Same G G' → Ok G' (upd M1 p (.lst (vs ++ ws))) H' → DqAll K G' ws ds → u D σ H') : tSeq (tAug i te rExt2) u D σ H :=
  ⟨.ref p, hx, he G H (Same.refl _) ok _ fun v G1 H1 s1 k1 hv => by
    obtain ⟨a, ws, rfl, h1, h2⟩ := dp_list hv
    refine ⟨p, a, vs, ws, rfl, rfl, k1.m _ _ hp, k1.g _ _ h1, by rw [dpAll_len h2]; exact hl, ?_⟩
    show u D (σ.set i (some (.ref p))) _
    rw [hσ]
    exact k ws G1 _ s1 (k1.chg _ hp) h2⟩
end
end Kx
end
section
set_option maxHeartbeats 2000000
namespace Kx
open PySem L2
section
variable {K : PySem.W.Frag} {σ σ' : St} {G G' M M1 M2 M3 : Hp} {ta tb te tc : TE} {P P1 P2 : VP} {d : Dat} {ds es : List Dat} {D : Ends} {H : Hp} {u : TS} {C : Addr} {cn : Str} {ns : List Str}
/-! ### things of any kind, instances among them -/
/-- an own class that is none of Python's -/
structure ClsNo (K : PySem.W.Frag) (C : Addr) : Prop where
  t : PySem.W.mroIn K C (.type "tuple") = some false
  i : PySem.W.mroIn K C (.type "int") = some false
  b : PySem.W.mroIn K C (.type "bool") = some false
  s : PySem.W.mroIn K C (.type "str") = some false
  l : PySem.W.mroIn K C (.type "list") = some false
theorem kit_no {n : String} (hm : PySem.W.kitMeta n = true) (h : PySem.W.mroIn K C (.type n) = some false) : PySem.W.kitOne K (.ref C) (.type n) = some false := by
  unfold PySem.W.kitOne
  rw [if_neg (by intro z; cases z)]
  show (if PySem.W.kitMeta n = true then PySem.W.subIn K (.ref C) (.type n) else none) = _
  rw [if_pos hm]
  exact h
def isO1 (c : Str) (f : Dat → Bool) : Dat → Option Bool
  | .ins c' ns xs => cond (decide (c' = c)) (some (f (.ins c' ns xs))) none
  | d => isO f d
theorem ev_isiD1 [Tb] {n : String} {f : Dat → Bool} {b : Bool} (hc : IsC n f) (hn : ∀ c ns xs, f (.ins c ns xs) = false) (co : ClsOk K (clsAt K cn)) (no : PySem.W.kitOne K (.ref (clsAt K cn)) (.type n) = some false) (h : isO1 cn f d = some b) (ha : EvA (tCons ta (tCons tb tNil)) σ G M M1 (conP (DD K d) (conP (CLS n) nilP))) : Ev (tCB (rIsi K) (tCons ta (tCons tb tNil))) σ G M M1 (DD K (.bool b)) := by
  cases d with
  | ins c' ns xs =>
    have h : cond (decide (c' = cn)) (some (f (.ins c' ns xs))) none = some b := h
    by_cases e : c' = cn
    · subst e
      rw [decide_eq_true rfl, cond_true, hn] at h
      cases h
      exact ev_cb ha fun xs G0 H s k hx Q q => by
        obtain ⟨v, w, rfl, hv, hw⟩ := two_of hx
        cases hw
        exact ⟨v, _, _, _, false, rfl, .ty n, tyx_of k.g (fun C1 n1 x1 e => by cases e; exact co) (fun _ _ e => by cases e) hv, no, q _ G0 H (Same.refl _) k (.bl _)⟩
    · rw [decide_eq_false e, cond_false] at h
      cases h
  | _ => exact ev_isiD hc h ha
theorem isn_T : ∀ c ns xs, isT (.ins c ns xs) = false := fun _ _ _ => rfl
theorem isn_I : ∀ c ns xs, isI (.ins c ns xs) = false := fun _ _ _ => rfl
theorem isn_B : ∀ c ns xs, isB (.ins c ns xs) = false := fun _ _ _ => rfl
theorem isn_S : ∀ c ns xs, isS (.ins c ns xs) = false := fun _ _ _ => rfl
theorem kn_T (h : ClsNo K C) : PySem.W.kitOne K (.ref C) (.type "tuple") = some false := kit_no (by decide +kernel) h.t
theorem kn_I (h : ClsNo K C) : PySem.W.kitOne K (.ref C) (.type "int") = some false := kit_no (by decide +kernel) h.i
theorem kn_B (h : ClsNo K C) : PySem.W.kitOne K (.ref C) (.type "bool") = some false := kit_no (by decide +kernel) h.b
theorem kn_S (h : ClsNo K C) : PySem.W.kitOne K (.ref C) (.type "str") = some false := kit_no (by decide +kernel) h.s
/-! ### methods of texts -/
def joinO (a : Str) (ys : List Str) : Option Str := (grd ((ys.map (·.length)).sum + ys.length * a.length ≤ 16777216 ∧ sok (Txt.join a ys) = true)).bind fun _ => some (Txt.join a ys)
abbrev rJoinS (K : PySem.W.Frag) : V → List V → Hp → VK → Prop := fun x xs H Q => ∃ a p, ∃ ys : List Str, x = .str a ∧ xs = [.ref p] ∧ (SqL K H p (ys.map V.str) ∨ SqT K H p (ys.map V.str)) ∧ (ys.map (·.length)).sum + ys.length * a.length ≤ 16777216 ∧ Q (.str (Txt.join a ys)) H
theorem mt_joinK {X : Cx} (hK : X.K = K) : MtR X "str.join" (rJoinS K) := by subst hK; exact mt_join
def strIO (i : Int) : Option Str := (grd (i.natAbs.log2 < 1920 ∧ sok (toString i : Str) = true)).bind fun _ => some (toString i : Str)
theorem ev_strI [Tb] {i : Int} {y : Str} (h : strIO i = some y) (ha : EvA (tCons ta tNil) σ G M M1 (conP (DD K (.int i)) nilP)) : Ev (tCB (fun xs H Q => ∃ i, xs = [.int i] ∧ i.natAbs.log2 < 1920 ∧ Q (.str (toString i)) H) (tCons ta tNil)) σ G M M1 (DD K (.str y)) := ev_cb ha fun xs G0 H s k hx Q q => by
  obtain ⟨v, rfl, hv⟩ := one_of (R := nilP) hx
  cases hv
  obtain ⟨_, h1, h2⟩ := bs h
  cases h2
  have z := grd_of h1
  exact ⟨i, rfl, z.1, q _ G0 H (Same.refl _) k (.str z.2)⟩
end
end Kx
end
section
set_option maxHeartbeats 2000000
namespace Kx
open PySem L2
/-! ### defs that raise -/
/-- an exception: its class's name, its own field if it has one -/
abbrev Ex := Str × Option (Str × Dat)
section
variable {K : PySem.W.Frag} {σ σ' : St} {G G' M M1 M2 M3 : Hp} {ta tb te tc : TE} {P P1 P2 : VP} {D : Ends} {H : Hp} {u : TS} {E : XK}
/-- what is known of an exception's own dict -/
def ExcD (K : PySem.W.Frag) (G : Hp) (d : Option Addr) (x : Ex) : Prop := match x.2 with
  | none => d = none
  | some (f, y) => ∃ (dd : Addr) (v : V), d = some dd ∧ G dd = some (.xd [(f, v)]) ∧ Dq K G v y
theorem ExcD.up {d : Option Addr} {x : Ex} (s : Same G G') (h : ExcD K G d x) : ExcD K G' d x := by
  obtain ⟨c, o⟩ := x
  cases o with
  | none => exact h
  | some y =>
    obtain ⟨f, y⟩ := y
    obtain ⟨dd, v, h1, h2, h3⟩ := h
    exact ⟨dd, v, h1, s _ _ h2, dp_up s y h3⟩
/-- the promise of a def that may raise -/
def spX [Tb] {α ρ : Type} (K : PySem.W.Frag) (args : α → List V → Hp → Prop) (m : α → Option (ρ ⊕ Ex)) (res : ρ → VP) : Sp := fun vs H Q E =>
  ∃ (G M : Hp) (a : α) (r : ρ ⊕ Ex), Ok G M H ∧ args a vs G ∧ m a = some r ∧ (∀ y, r = .inl y → ∀ v G' H', Same G G' → Ok G' M H' → res y v G' → Q v H') ∧
    ∀ x, r = .inr x → ∀ d G' H', Same G G' → Ok G' M H' → ExcD K G' d x → E (.ref (clsAt K x.1)) d H'
/-- a value, or an exception that goes by E -/
def EvR [Tb] {ρ : Type} (K : PySem.W.Frag) (te : TE) (σ : St) (G M M1 : Hp) (E : XK) (r : ρ ⊕ Ex) (res : ρ → VP) : Prop := ∀ G0 H, Same G G0 → Ok G0 M H → ∀ Q : VK,
  (∀ y, r = .inl y → ∀ v G1 H1, Same G0 G1 → Ok G1 M1 H1 → res y v G1 → Q v H1) → (∀ x, r = .inr x → ∀ d G1 H1, Same G0 G1 → Ok G1 M1 H1 → ExcD K G1 d x → E (.ref (clsAt K x.1)) d H1) → te σ H Q
theorem q_setX [Tb] {ρ : Type} {i : Nat} {σ' : V → St} {r : ρ ⊕ Ex} {res : ρ → VP} (he : EvR K te σ G M M1 E r res) (ok : Ok G M H) (hσ : ∀ v, σ.set i (some v) = σ' v) (k : ∀ y, r = .inl y → ∀ v G' H', Same G G' → Ok G' M1 H' → res y v G' → u D (σ' v) H')
    (kx : ∀ x, r = .inr x → ∀ d G' H', Same G G' → Ok G' M1 H' → ExcD K G' d x → E (.ref (clsAt K x.1)) d H') : tSeq (tAsg te (gName i)) u D σ H :=
  he G H (Same.refl _) ok _ (fun y e v G1 H1 s1 k1 hv => by
    have := k y e v G1 H1 s1 k1 hv
    rw [← hσ] at this
    exact this) kx
/-! isinstance(x, C) of a thing -/
end
end Kx
end
section
set_option maxHeartbeats 2000000
namespace Kx
open PySem L2
/-! ### exceptions with a field: class C(B): def __init__(self, f): B.__init__(self, '..'); self.f = f -/
/-- the promise of such an __init__ -/
def spE (C : Addr) (f : Str) : Sp := fun vs H Q _ => ∃ (H1 : Hp) (a : Addr) (y : V), vs = [.ref a, y] ∧ H = upd H1 a (exo a C none) ∧ H1 a = none ∧ ∀ d, H1 d = none → d ≠ a → Q .non (upd (upd H d (exd d [(f, y)])) a (exo a C (some d)))
section
variable {K : PySem.W.Frag} {σ σ' : St} {G G' M M1 M2 M3 : Hp} {ta tb te tc : TE} {D : Ends} {H : Hp} {u : TS} {E : XK}
/-- raise C(e) -/
theorem q_raise1 [Tb] {C : Addr} {f : Str} {y : Dat} {c : Str} (hC : C = clsAt K c) (he : EvA (tCons te tNil) σ G M M1 (conP (DD K y) nilP)) (ok : Ok G M H) (k : ∀ d G' H', Same G G' → Ok G' M1 H' → ExcD K G' d (c, some (f, y)) → E (.ref C) d H') :
    tSeq (fun _ σ H => tMkO C (spE C f) [] (tCons te tNil) σ H fun cls d H' => (fun cls d (_ : St) H => E cls d H) cls d σ H') u D σ H := by
  unfold tSeq tMkO
  refine he G H (Same.refl _) ok _ fun vs G1 H1 s1 k1 hv => ?_
  · obtain ⟨v, ws, rfl, hv, rfl⟩ := hv
    refine ⟨by simp, fun a ha => ⟨H1, a, v, rfl, rfl, ha, fun d hd hne => ⟨rfl, d, [(f, v)], upd_same, ?_, hd, ?_⟩⟩⟩
    · rw [upd_ne hne, upd_same]
    · have e : upd (del (upd (upd (upd H1 a (exo a C none)) d (exd d [(f, v)])) a (exo a C (some d))) a) d (.xd [(f, v)]) = upd H1 d (.xd [(f, v)]) := by
        funext b
        by_cases h1 : b = d
        · rw [h1, upd_same, upd_same]
        · rw [upd_ne h1, upd_ne h1]
          by_cases h2 : b = a
          · rw [h2, del_same, ha]
          · rw [del_ne h2, upd_ne h2, upd_ne h1, upd_ne h2]
      rw [e]
      have hd1 : G1 d = none := Same.none k1.g hd
      exact k (some d) (upd G1 d (.xd [(f, v)])) _ (s1.trans (Same.new hd1)) (k1.newG _ hd) ⟨d, v, rfl, upd_same, dp_up (Same.new hd1) _ hv⟩
end
end Kx
end
section
set_option maxHeartbeats 2000000
namespace Kx
open PySem L2
/-- a value, or an exception -/
def orX {ρ T : Type} (r : ρ ⊕ Ex) (f : ρ → Option T) (g : Ex → Option T) : Option T := match r with
  | .inl y => f y
  | .inr x => g x
theorem orX_l {ρ T : Type} {y : ρ} {f : ρ → Option T} {g : Ex → Option T} {r : Option T} (h : orX (.inl y) f g = r) : f y = r := h
theorem orX_r {ρ T : Type} {x : Ex} {f : ρ → Option T} {g : Ex → Option T} {r : Option T} (h : orX (.inr x : ρ ⊕ Ex) f g = r) : g x = r := h
end Kx
end
section
set_option maxHeartbeats 2000000
namespace Kx
open PySem PySem.Spec PyProof.Rows L2
/-! ### defs called with the exception that is handled -/
/-- the promise of a def whose first argument is the handled exception: its class and its own dict are known -/
structure FnE (P : Program) (w : World) (K : PySem.W.Frag) (mg : Str → Option Value) (base : Heap) (CX : CXT) (k : Nat) (f : Addr) (fd : FuncData) (ps : List Str) (sp : Addr → Value → Option Addr → Sp) : Prop where
  len : ∀ e cls d vs H Q E, sp e cls d vs H Q E → vs.length = ps.length
  run : ∀ (A : Around) (outer : List Env) (s : Shared) (H : Hp) (args : Args) (us : List Value) (vs : List V) (Q : VK) (E : XK) (p : Addr × Obj) (cls : Value) (d : Option Addr), A.guards = some [] → L2H.RoomH k A → L2H.Hot1 A p → Zc cls d p.2 → L2H.PinOk outer H s p → Env0 P w K mg base A outer s H → BindsTo s fd args (ps.zip us) → Vals vs us → sp p.1 cls d vs H Q E →
    codeAny (model P w) A (.call (.ref f) args) (CR CX outer P w H s Q E) s
theorem fn_ofE {CX : CXT} {P : Program} {w : World} {K : PySem.W.Frag} {mg : Str → Option Value} {base : Heap} {k : Nat} {f : Addr} {name qual : Str} {params : Arguments} {body : List Stmt} {scope : Scope} {dV kV doc pm cdv ct oc : Value} {an od : Option Addr}
    {osl : Array (Option Value)} {N ps : List Str} {sp : Addr → Value → Option Addr → Sp} (lk : K.lookup f = some ⟨oc, od, .func (PySem.W.fnOf name qual params body scope dV kV doc pm an cdv ct), osl⟩) (hcd : PySem.W.codeIn K cdv qual = true) (S : FnScope N ps scope)
    (len : ∀ e cls d vs H Q E, sp e cls d vs H Q E → vs.length = ps.length)
    (hbody : ∀ (A : Around) (outer : List Env) (s : Shared) (H : Hp) (vs : List V) (Q : VK) (E : XK) (p : Addr × Obj) (cls : Value) (d : Option Addr), (A.deeper (envOfC qual scope s.heap.objs.size f cdv)).guards = some [] → L2H.Hot1 A p → Zc cls d p.2 → L2H.RoomH k (A.deeper (envOfC qual scope s.heap.objs.size f cdv)) → sp p.1 cls d vs H Q E →
      ∃ t, PSs (L2H.cxH CX P w K mg base N qual scope f cdv A outer s H E p) body t ∧ t { nx := fun _ H' => Q .non H', rt := Q } (L2.start N vs) H) :
    FnE P w K mg base CX (k + 1) f (PySem.W.fnOf name qual params body scope dV kV doc pm an cdv ct) ps sp := by
  refine ⟨len, fun A outer s H args us vs Q E p cls d hgd hr hot hz hpin e0 hb r hsp => ?_⟩
  have hl := len _ _ _ _ _ _ _ hsp
  have KX : K.In s.heap := e0.mod.kin.keeps fun b o e => (e0.bs b o e).1
  have lim : s.heap.NoLimit := e0.mod.nolimit.keeps fun b o e => (e0.bs b o e).1
  have hkind : ∀ y ∈ ps.zip us, scope.names.lookup y.1 = some .local ∨ (scope.names.lookup y.1 = some .cell ∧ ((cellsFrom (s.heap.objs.size + 1) scope.names []).lookup y.1).isSome = true) := fun ⟨n, v⟩ hy => by
    rcases S.par n (List.of_mem_zip hy).1 with q | q
    · exact .inl q
    · exact .inr ⟨q, PySem.W.cellsFrom_some _ _ _ (.inl q)⟩
  refine codeAny_call_function hr.depth (KX _ _ lk) rfl S.co S.gen rfl (PySem.W.codeRec_of KX hcd) (hb _ _ _ _ ?_)
  refine wpAny_newFunctionEnv_cells S.kind hkind fun env he s1 x => ?_
  subst he
  refine ⟨lim.keeps x.toInCall.keep, codeAny_func ?_⟩
  obtain ⟨t, ht, hq⟩ := hbody A outer s H vs Q E p cls d (by show A.guards = some []; exact hgd) hot hz (hr.deeper _) hsp
  have I : Inv (L2H.cxH CX P w K mg base N qual scope f cdv A outer s H E p) [] (L2.start N vs) H s1 := L2H.inv_startH S hpin e0 hl r x
  refine wpAny_mono (ht.run [] s1 (L2.start N vs) H _ I hq) (fun fl s' hs => ?_) fun e s' hs => hs
  have fin : ∀ {σ' : L2.St} {H' : Hp} {v : V} {u : Value}, Inv (L2H.cxH CX P w K mg base N qual scope f cdv A outer s H E p) [] σ' H' s' → RelV v u → Q v H' → CE outer P w H s Q u s' :=
    fun {σ' H' v u} J rv q => ⟨v, H', J.os, J.bare, J.base, J.hok, rv, q⟩
  cases fl with
  | ret u =>
    obtain ⟨v, σ', H', J, rv, q⟩ := hs
    exact fin J rv q
  | next =>
    obtain ⟨σ', H', J, q⟩ := hs
    exact fin (v := V.non) (u := Value.none) J rfl q
  | brk =>
    obtain ⟨_, _, _, q⟩ := hs
    exact False.elim q
  | cont =>
    obtain ⟨_, _, _, q⟩ := hs
    exact False.elim q
section
variable {X : Cx} {CX : CXT} {k : Nat} {f C : Addr} {fd : FuncData} {ps : List Str} {sp : Addr → Value → Option Addr → Sp} {E : L2.St → XK} {x m : Str} {q pos apos : Pos} {e o : Expr} {es : List Expr} {ta : TE} {t : TA} {p : Addr × Obj} {cls : Value} {d : Option Addr}
theorem run_fnE {pins : List (Addr × Obj)} {σ : L2.St} {H : Hp} {s : Shared} {Q : VK} {us : List Value} {vs : List V} (F : FnE X.prog X.w X.K X.mg X.base CX k f fd ps sp) (hgd : X.A.guards = some []) (hr : L2H.RoomH k X.A) (hot : L2H.Hot1 X.A p) (hz : Zc cls d p.2) (hp : p ∈ X.pn) (hb : Binds X.K fd ps []) (hx : PassesAt CX X σ (E σ))
    (I : Inv X pins σ H s) (r : Vals vs us) (h : sp p.1 cls d vs H Q (E σ)) : wpAny (model X.prog X.w) X.A (call (.ref f) us) (EP X pins σ Q) X.xe s := by
  have hl : us.length = ps.length := by rw [← r.length]; exact F.len _ _ _ _ _ _ _ h
  have b := hb s us I.kIn (by rw [List.append_nil]; exact hl)
  rw [List.append_nil] at b
  have P1 := I.pin p (List.mem_append_left _ hp)
  have hpin : L2H.PinOk X.stack H s p := ⟨P1.1, P1.2.1, fun hm => (List.mem_cons.mp (I.stkSub p.1 hm)).elim P1.2.2.1 P1.2.2.2.1, P1.2.2.2.2⟩
  refine wpAny_call (codeAny_mono (F.run X.A X.stack s H ⟨us, []⟩ us vs Q (E σ) p cls d hgd hr hot hz hpin I.env0 b r h) fun r s' hq => ?_)
  cases r with
  | error e => exact hx pins H s e s' I hq
  | ok fl =>
    cases fl with
    | ret u => exact I.after hq
    | next => exact False.elim hq
    | brk => exact False.elim hq
    | cont => exact False.elim hq
theorem pe_callE (F : FnE X.prog X.w X.K X.mg X.base CX k f fd ps sp) (hgd : X.A.guards = some []) (hr : L2H.RoomH k X.A) (hot : L2H.Hot1 X.A p) (hz : Zc cls d p.2) (hp : p ∈ X.pn) (hg : Gl X x) (hm : X.mg x = some (.ref f)) (hk : PySem.W.keepIn X.K (.ref f) = true) (hb : Binds X.K fd ps []) (hx : ∀ σ, PassesAt CX X σ (E σ))
    (ha : PA X (e :: es) t) (hdb : (x == ("__debug__" : Str)) = false := by decide) (he : starEach (e :: es) X.env = (false, eval e X.env) :: starEach es X.env := by rfl) (hpl : (backTo pos (starEach es X.env)).any (·.1) = false := by rfl) :
    PE X (.Call (.Name x q) (e :: es) [] pos) (tCallS (sp p.1 cls d) E t) := by
  refine ⟨fun pins s σ H Q I h => ?_⟩
  refine wpAny_Call_Name_kw (ld_glob I hg hm ?_ hdb)
  refine PySem.W.callWith_K (h₀ := X.base) I.ok.mod.kin hk (thn (ha.run pos pins s σ H _ I h) fun us s1 ⟨vs, H1, I1, r, q⟩ => ⟨I1.kIn, ?_⟩) he hpl
  exact run_fnE F hgd hr hot hz hp hb (hx σ) I1 r q
/-! isinstance(e, c), e.f: e an exception that is pinned -/
/-- its own dict, if it has one, is tracked -/
def DictAt (H : Hp) (d : Option Addr) : Prop := d = none ∨ ∃ (dd : Addr) (fs : List (Str × V)), d = some dd ∧ H dd = some (.xd fs)
def rIsP (K : PySem.W.Frag) (D a : Addr) (d : Option Addr) : List V → Hp → VK → Prop := fun xs H Q => ∃ (c : V) (cv : Value) (b : Bool), xs = [.ref a, c] ∧ DictAt H d ∧ (∀ u, RelV c u → u = cv) ∧ PySem.W.kitOne K (.ref D) cv = some b ∧ Q (.bl b) H
theorem call_isP {D : Addr} (hp : p ∈ X.pn) (T : ExcC X.K D) (hz : Zc (.ref D) d p.2) (hf : ∃ vs, p.2.data = .fields vs) : CallR X (.builtin "isinstance") (rIsP X.K D p.1 d) := by
  intro pins s σ H xs us Q I r h
  obtain ⟨c, cv, b, rfl, hD, hcv, e, q⟩ := h
  cases r with
  | cons rx rr =>
    cases rr with
    | cons rt rr =>
      cases rr
      cases rx
      have ec := hcv _ rt
      subst ec
      obtain ⟨hget, _⟩ := I.pin p (List.mem_append.mpr (.inl hp))
      obtain ⟨vs, hv⟩ := hf
      obtain ⟨cd, hcl, _⟩ := PySem.W.any_some T.hd
      have hcl' : (PySem.W.clsIn X.K D).isSome = true := by rw [hcl]; rfl
      have go : ∀ {od : Option Obj}, PySem.W.InstAt s.heap p.1 p.2 D od → _ := fun {od} J =>
        PySem.W.kia_one (prog := X.prog) (w := X.w) (A := X.A) (E := X.xe) (Q := EP X pins σ Q) (PySem.W.kitx_exc (x := p.1) (ox := p.2) (od := od) hcl' T.hg T.hk T.hs T.ha T.hn T.ht T.hm) I.kIn J e (fun z => nomatch z) fun tk => ⟨.bl b, H, I.kept (t' := tk) fun _ _ z => z, rfl, q⟩
      rcases hD with rfl | ⟨dd, fs, rfl, hH⟩
      · refine go (od := none) ?_
        obtain ⟨a, oc, od, oda, osl⟩ := p
        obtain ⟨h1, h2⟩ := hz
        dsimp only at h1 h2 hv
        subst h1 h2 hv
        exact ⟨hget, rfl, rfl, trivial⟩
      · have hx : ObjOk X.prog X.w H s.heap dd (.xd fs) := I.hok dd _ hH
        obtain ⟨mA, hns, hr⟩ := hx
        obtain ⟨od, ho, hl⟩ := lookIn_ns hns
        exact go (od := some od) ⟨hget, hz.1, by unfold PySem.W.notCls; rw [hv] <;> rfl, by rw [hz.2]; exact ho⟩
/-- e.f -/
def tXP (a : Addr) (d : Option Addr) (f : Str) (te : TE) : TE := fun σ H Q => te σ H fun x H1 => x = .ref a ∧ ∃ (dd : Addr) (fs : List (Str × V)) (v : V), d = some dd ∧ H1 dd = some (.xd fs) ∧ fs.lookup f = some v ∧ Q v H1
theorem pe_xfP {D : Addr} {te : TE} {n : Str} (hp : p ∈ X.pn) (T : XfC X.K D) (hno : PySem.W.findIn X.K (.ref D) n = some none) (hz : Zc (.ref D) d p.2) (hf : ∃ vs, p.2.data = .fields vs) (he : PE X e te)
    (hb : attributeBase e n X.env (eval e X.env) = eval e X.env := by rfl) : PE X (.Attribute e n pos) (tXP p.1 d n te) := by
  refine ⟨fun pins s σ H Q I h => ?_⟩
  refine attr_of hb (thn (he.run pins s σ H _ I h) fun u s1 hh => ?_)
  obtain ⟨x, H1, I1, rx, ex, dd, fs, v, ed, ea, l, q⟩ := hh
  subst ex
  obtain rfl : u = Value.ref p.1 := rx
  subst ed
  obtain ⟨ha, _⟩ := I1.pin p (List.mem_append_left _ hp)
  obtain ⟨vs, hd⟩ := hf
  have hx : ObjOk X.prog X.w H1 s1.heap dd (.xd fs) := I1.hok dd _ ea
  obtain ⟨mA, hns, hr⟩ := hx
  obtain ⟨od, ho, hl⟩ := lookIn_ns hns
  obtain ⟨u, hu, ru⟩ := RelO.some_of (v := v) (o := mA n) (by rw [← l]; exact hr n)
  have J : PySem.W.InstAt s1.heap p.1 p.2 D (some od) := ⟨ha, hz.1, by unfold PySem.W.notCls; rw [hd] <;> rfl, by rw [hz.2]; exact ho⟩
  exact HandSPX.exc_get I1.kIn J T.ga T.gg T.exC (PySem.W.findObj_own T.hdC hno rfl (by rw [hl, hu])) (handed_of ru) ⟨v, H1, I1.tok _, ru, q⟩
end
end Kx
end
section
set_option maxHeartbeats 2000000
namespace Kx
open PySem PySem.Spec PyProof.Rows L2
/-! ### exceptions whose context is None: L2N's air, so that a suite that catches one is hot -/
section
variable {P : Program} {w : World} {K : PySem.W.Frag} {mg : Str → Option Value} {base : Heap}
/-- as Fun.okX, in L2N's air -/
theorem okXN {x qual : Str} {st : Stmt} {f : Addr} {fd : FuncData} {N ps : List Str} {k : Nat} {sp : Sp} (F : L2.Fun K x qual st f fd) (S : FnScope N ps (defScope st)) (len : ∀ vs H Q E, sp vs H Q E → vs.length = ps.length)
    (hbody : ∀ (cdv : Value) (A : Around) (outer : List Env) (s : Shared) (H : Hp) (vs : List V) (Q : VK) (E : XK), Room k (A.deeper (envOfC qual (defScope st) s.heap.objs.size f cdv)) → sp vs H Q E →
      ∃ t, PSs (cxOf (L2N.CX P w) P w K mg base N qual (defScope st) f cdv A outer s H E) (defBody st) t ∧ t { nx := fun _ H' => Q .non H', rt := Q } (start N vs) H) : FnOk P w K mg base (L2N.CX P w) (k + 1) f fd ps sp := by
  obtain ⟨oc, od, kV, doc, pm, an, cdv, ct, osl, rfl, lk, hcd⟩ := F.ex
  exact fn_of lk hcd S len fun A outer s H vs Q E hr hsp => hbody cdv A outer s H vs Q E hr hsp
end
section
variable {X : Cx} {W : WX}
theorem takes0N : L2N.Takes X (fun _ _ _ _ => False) := fun _ _ x => by
  obtain ⟨_, _, _, _, _, _, _, _, _, _, _, _, _, _, _, _, z⟩ := x
  exact z.elim
end
/-- the suite's exception is hot -/
theorem hot_of {X : Cx} {a : Addr} {oe : Obj} {cls : Value} {d : Option Addr} {pn : List (Addr × Obj)} (hz : L2N.Zn cls d oe) (hv : ∃ vs, oe.data = .fields vs) : L2H.Hot1 (X.suite a ((a, oe) :: pn)).A (a, oe) := by
  obtain ⟨vs, e⟩ := hv
  exact ⟨rfl, vs, e, hz.2.2 vs e⟩
end Kx
end
section
set_option maxHeartbeats 2000000
namespace Kx
open PySem PySem.Spec PyProof.Rows L2 HotX
/-! ### a list comprehension over range within an except suite (follows HandS.Comp lc_core, HandS.HotCalls ps_forH) -/
/-- the handled exception stands through a block -/
theorem hot_blk {X : Cx} {p : Addr × Obj} {pins : List (Addr × Obj)} {σ σ' : L2.St} {H H' : Hp} {s s' : Shared} {scope : Scope} {ce : Env} {fp : List Addr} (hot : L2H.Hot1 X.A p) (hp : p ∈ X.pn) (I : Inv X pins σ H s)
    (hfp : ∀ b ∈ fp, FpOk X pins H b) (J : Inv (X.blk s H scope ce fp) [] σ' H' s') : HotAt X.A p.1 s'.heap := by
  obtain ⟨hh, vs, e1, c1⟩ := hot
  have P := I.pin p (List.mem_append_left _ hp)
  refine ⟨hh, p.2, vs, J.base.keep p.1 p.2 P.1 P.2.1 (fun hm => ?_) (fun hm => ?_), e1, c1⟩
  · exact (List.mem_cons.mp (I.stkSub p.1 hm)).elim P.2.2.1 P.2.2.2.1
  · exact (hfp p.1 hm).2.2.2.2.2 p (List.mem_append_left _ hp) rfl
section
variable {X : Cx} {pins : List (Addr × Obj)} {s : Shared} {σ : L2.St} {H : Hp} {Q : VK} {elt tg a : Expr} {ifs : List Expr} {scope : Scope} {own : List (Str × Nat)} {pos pos' rp p1 : Pos} {ta : TA} {g : TG} {tt : TT} {te : TE} {p : Addr × Obj}
theorem lc_hot {use : Option (Value → Sem Unit)} {Qf : Value → Shared → Prop} (hot : L2H.Hot1 X.A p) (hp : p ∈ X.pn) (hN : X.N.Nodup) (I : Inv X pins σ H s) {iter : Expr} {wi : TI} (ok : BlkOk X.N X.env.scope scope own)
    (hit : ∀ (pins : List (Addr × Obj)) (s : Shared) (σ : L2.St) (H : Hp) (R : It → Hp → Prop), Inv X pins σ H s → wi σ H R →
      wpAny (model X.prog X.w) X.A (eval iter X.env) (fun v s1 => wpAny (model X.prog X.w) X.A (pyIter v) (fun itv s2 => ∃ (it : Addr) (lo : Int) (n : Nat) (H' : Hp), itv = .ref it ∧ Inv X pins σ H' s2 ∧ IsRangeIter s2.heap it (lo + ((0 : Nat) : Int) * 1) ((n : Int) - ((0 : Nat) : Int)) 1 ∧ FpOk X pins H' it ∧ R (Itr lo n) H') X.xe s1) X.xe s)
    (hg : ∀ (s : Shared) (H : Hp) (C : Addr) (cl : List (Str × Addr)) (fp : List Addr), PG (X.blk s H scope (compEnvC scope cl C X.env) fp) tg g) (ht : ∀ (s : Shared) (H : Hp) (C : Addr) (cl : List (Str × Addr)) (fp : List Addr), PTs (X.blk s H scope (compEnvC scope cl C X.env) fp) ifs tt)
    (he : ∀ (s : Shared) (H : Hp) (C : Addr) (cl : List (Str × Addr)) (fp : List Addr), PE (X.blk s H scope (compEnvC scope cl C X.env) fp) elt te) (hs : ∀ x, foldedSetIterable iter X.env x = pure x)
    (h : tLc wi g tt te (own.map (·.2)) σ H Q)
    (hRR : ∀ D C s' m H', Inv X pins σ H' s' → Q (.ref D) H' → s'.heap.Ns C m → FpOk X pins H' C → compPost (model X.prog X.w) X.A X.xe use Qf (.ref D) C (.ok .next) s') :
    wpAny (model X.prog X.w) X.A (comprehension (.ListComp elt [⟨tg, iter, ifs, 0⟩] scope pos) scope X.env pos' (newList []) false (eval iter X.env) use) Qf X.xe s := by
  have hfree : ∀ y ∈ scope.names, y.2 = .free → ∃ c, X.env.cells.lookup y.1 = some c := fun y hy e => by
    rcases ok.free y hy e with k | k
    · exact I.ok.has _ (.inl k)
    · exact I.ok.has _ (.inr k)
  refine wpAny_comprehension_free (use := use) rfl hs (closure_ok hfree) ok.kind (fun y hy e => by rw [ok.uniq y hy, e])
    (thn (hit pins s σ H _ I h) fun xv s1 hx => thn hx fun itv s2 h2 => ?_)
  obtain ⟨it, lo, cnt, H2, e, I2, st2, f2, q⟩ := h2
  subst e
  refine wpAny_newObj_type (newEnv_comp ?_) (by show 0 ≤ sizeLine; decide)
  generalize hD : s2.heap.objs.size = D
  have hDn : H2 D = none := I2.hok.fresh (Nat.le_of_eq hD)
  obtain ⟨W, ⟨m0, w0⟩, turn⟩ := q D hDn
  have T := L2H.turn_rangeH (P := X.prog) (w := X.w) (K := X.K) (tg := tg) it lo cnt
  generalize hs3 : ({ s2 with heap := s2.heap.push { cls := .type "list", data := .seq ([] : List Value).toArray } } : Shared) = s3
  have I3 : Inv X pins σ (upd H2 D (.lst [])) s3 := by
    rw [← hs3]
    refine I2.laid (t' := s2.toks) (fun b o e => Heap.get?_push_of_some _ e) (Nat.le_of_eq hD) ⟨Nat.zero_le _, [], 0, .nil, ?_⟩
    rw [← hD]
    exact Heap.get?_push_size _ rfl
  have h3 : s3.heap = s2.heap.push { cls := .type "list", data := .seq ([] : List Value).toArray } := by rw [← hs3]
  have f3 : ∀ b ∈ [it], FpOk X pins (upd H2 D (.lst [])) b ∧ b < s3.heap.objs.size := fun b hb => by
    have eb : b = it := by simpa using hb
    subst eb
    obtain ⟨o, e, _⟩ := T.obj 0 _ st2 b (by simp)
    have hlt := Heap.lt_size e
    refine ⟨⟨?_, f2.2⟩, by rw [h3, Heap.size_push]; exact Nat.lt_succ_of_lt hlt⟩
    rw [upd_ne (by rw [← hD]; exact Nat.ne_of_lt hlt)]
    exact f2.1
  have st3 := T.keep 0 _ s3.heap st2 fun b _ o e => by rw [h3]; exact Heap.get?_push_of_some _ e
  have I4 := block_start I3 ok hN f3
  have pg := hg s3 (upd H2 D (.lst [])) s3.heap.objs.size (cellsFrom (s3.heap.objs.size + 1) scope.names (cloFrom X.env.cells scope.names [])) [it]
  have pt := ht s3 (upd H2 D (.lst [])) s3.heap.objs.size (cellsFrom (s3.heap.objs.size + 1) scope.names (cloFrom X.env.cells scope.names [])) [it]
  have pe := he s3 (upd H2 D (.lst [])) s3.heap.objs.size (cellsFrom (s3.heap.objs.size + 1) scope.names (cloFrom X.env.cells scope.names [])) [it]
  show codeAny _ _ (.compStart (.ListComp elt [⟨tg, iter, ifs, 0⟩] scope pos) 0 (.ref it) (.ref D) (compEnvC scope (cellsFrom (s3.heap.objs.size + 1) scope.names (cloFrom X.env.cells scope.names [])) s3.heap.objs.size X.env)) (compPost (model X.prog X.w) X.A X.xe use Qf (.ref D) s3.heap.objs.size) { s3 with heap := pushCells (s3.heap.push { cls := .type "dict", data := .dict #[] }) scope.names }
  have nfp : ∀ b ∈ [it], (upd H2 D (.lst [])) b = none := fun b hb => (f3 b hb).1.1
  generalize hce : compEnvC scope (cellsFrom (s3.heap.objs.size + 1) scope.names (cloFrom X.env.cells scope.names [])) s3.heap.objs.size X.env = ce at I4 pg pt pe ⊢
  have cL : ce.locals = s3.heap.objs.size := by subst hce; rfl
  generalize hH3 : upd H2 D (.lst []) = H3 at I3 I4 pg pt pe w0 nfp f3
  generalize hs4 : ({ s3 with heap := pushCells (s3.heap.push { cls := .type "dict", data := .dict #[] }) scope.names } : Shared) = s4 at I4 ⊢
  have st4 := T.keep 0 _ s4.heap st3 fun b _ o e => by rw [← hs4]; exact pushCells_keeps _ _ _ _ (Heap.get?_push_of_some _ e)
  have stat : ∀ {σ' : L2.St} {H' : Hp} {s' : Shared}, Inv (X.blk s3 H3 scope ce [it]) [] σ' H' s' → (∀ b ∈ [it], H' b = none) → ∀ b ∈ [it], FpOk (X.blk s3 H3 scope ce [it]) [] H' b := fun {σ' H' s'} I' hn b hb =>
    ⟨hn b hb, (I'.ok.exf b hb).1, I'.ok.exfs b hb, .inl hb, fun x c e => (I'.ok.exf b hb).2 x c e, fun p hp => absurd (show p ∈ ([] : List (Addr × Obj)) ++ [] from hp) (by simp)⟩
  have hotB : ∀ {σ' : L2.St} {H' : Hp} {s' : Shared}, Inv (X.blk s3 H3 scope ce [it]) [] σ' H' s' → HotAt X.A p.1 s'.heap := fun {σ' H' s'} I' => hot_blk hot hp I3 (fun b hb => (f3 b hb).1) I'
  have loop : codeAny (model X.prog X.w) X.A (.compLoop (.ListComp elt [⟨tg, iter, ifs, 0⟩] scope pos) 0 (.ref it) (.ref D) ce) (compPost (model X.prog X.w) X.A X.xe use Qf (.ref D) s3.heap.objs.size) s4 := by
    refine compLoop_any (fun n s' => ∃ i H', Inv (X.blk s3 H3 scope ce [it]) [] (wipe σ (own.map (·.2))) H' s' ∧ IsRangeIter s'.heap it (lo + (i : Nat) * 1) ((cnt : Int) - (i : Nat)) 1 ∧ (∀ b ∈ [it], H' b = none) ∧ W i n H') ?_ m0 ⟨0, H3, I4, st4, nfp, w0⟩
    rintro n s5 ⟨i, H5, I5, st5, n5, w5⟩
    obtain ⟨g0, g1, g2, g3, g4, g5⟩ := stat I5 n5 it (by simp)
    rcases turn i n H5 w5 with ⟨stop, qq⟩ | ⟨go, Nx, hNx, step⟩
    · have stop : cnt ≤ i := stop
      refine pyNext_range_end_hot (hotB I5) st5 (by omega) fun h' eb => ?_
      have I6 : Inv (X.blk s3 H3 scope ce [it]) [] (wipe σ (own.map (·.2))) H5 { s5 with heap := h' } := I5.turned (t' := s5.toks) (fun b o _ e => eb b o e) g0 g1 g3 g4 g5
      have I7 : Inv X pins σ H5 { s5 with heap := h' } := I3.call' (ch := [it]) I6.os I6.base I6.hok I6.bare fun b hb => ⟨(f3 b hb).1.2.2.2.1, (f3 b hb).1.2.1, (f3 b hb).1.2.2.2.2.1, (f3 b hb).1.2.2.2.2.2⟩
      have nC : H5 s3.heap.objs.size = none := by
        have z : H5 ce.locals = none := I6.free
        rw [cL] at z
        exact z
      obtain ⟨m, hn, _⟩ := I6.loc
      have hn : Heap.Ns h' ce.locals m := hn
      rw [cL] at hn
      exact hRR D s3.heap.objs.size { s5 with heap := h' } m H5 I7 qq hn (I3.fpOk (Nat.le_refl _) nC)
    · have go : i < cnt := go
      refine wpAny_pyNext_range_item st5 (by omega) fun h' st' sb => ?_
      have st7 : IsRangeIter h' it (lo + ((i + 1 : Nat) : Int) * 1) ((cnt : Int) - ((i + 1 : Nat) : Int)) 1 := by
        have e1 : lo + ((i : Nat) : Int) * 1 + 1 = lo + ((i + 1 : Nat) : Int) * 1 := by omega
        have e2 : (cnt : Int) - ((i : Nat) : Int) - 1 = (cnt : Int) - ((i + 1 : Nat) : Int) := by omega
        rw [← e1, ← e2]
        exact st'
      have I7 : Inv (X.blk s3 H3 scope ce [it]) [] (wipe σ (own.map (·.2))) H5 { s5 with heap := h', toks := s5.toks + 1 } := I5.turned (fun b o hb e => (sb.2 b hb).trans e) g0 g1 g3 g4 g5
      refine go_of (s := { s5 with heap := h', toks := s5.toks + 1 }) (n := "range_iterator") st7 rfl rfl (by decide) ?_
      have r7 : RelV (.int (lo + i)) (.int (lo + (i : Int) * 1) s5.toks) := ⟨s5.toks, by rw [Int.mul_one]⟩
      have I7' := I7.pinned (stat I7 n5) (T.obj (i + 1) _ st7)
      refine thnF (pg.run _ { s5 with heap := h', toks := s5.toks + 1 } _ H5 (.int (lo + i)) _ _ I7' r7 (step _ H5 ⟨rfl, rfl⟩)) fun _ s8 ⟨σ8, H8, I8, hw8, q8⟩ => ?_
      refine thnF (pt.run _ s8 σ8 H8 _ I8 q8) fun b s9 ⟨H9, I9, q9⟩ => ?_
      have fin : ∀ {s' : Shared} {H' : Hp}, Inv (X.blk s3 H3 scope ce [it]) ([] ++ pinsAt [it] h') σ8 H' s' → Nx H' → ∃ m, m < n ∧ ∃ i H', Inv (X.blk s3 H3 scope ce [it]) [] (wipe σ (own.map (·.2))) H' s' ∧ IsRangeIter s'.heap it (lo + (i : Nat) * 1) ((cnt : Int) - (i : Nat)) 1 ∧ (∀ b ∈ [it], H' b = none) ∧ W i m H' := fun {s' H'} I' nx => by
        obtain ⟨m', hm, w'⟩ := hNx H' nx
        have pin' : ∀ b ∈ [it], ∀ o, h'.get? b = some o → s'.heap.get? b = some o ∧ H' b = none := fun b hb o e =>
          let z := I'.pin (b, o) (List.mem_append_right _ (List.mem_append_right _ (mem_pinsAt hb e)))
          ⟨z.1, z.2.1⟩
        have hl : (wipe σ (own.map (·.2))).length = σ8.length := by rw [← hw8, wipe_length]
        refine ⟨m', hm, i + 1, H', (I'.unpinned (pins := [])).weak hl (fun j v e => ?_), T.keep _ _ _ st7 fun b hb o e => (pin' b hb o e).1, fun b hb => ?_, w'⟩
        · rw [← hw8] at e
          exact (wipe_some e).1
        · obtain ⟨o, e, _⟩ := T.obj _ _ st7 b hb
          exact (pin' b hb o e).2
      cases b with
      | false =>
        simp only [Bool.false_eq_true, if_false] at q9 ⊢
        exact fin I9 q9
      | true =>
        simp only [if_true] at q9 ⊢
        refine thnF (pe.run _ s9 σ8 H9 _ I9 q9) fun z s10 ⟨yv, H10, I10, r10, acc, hD10, hz10, nx⟩ => ?_
        exact app_ok (X := X.blk s3 H3 scope ce [it]) I10 hD10 hz10 r10 fun s11 I11 => fin I11 nx
  exact codeAny_compStart_list loop (T.self X.A 0 _ _ _ st4 loop)
/-- range's iterator -/
theorem range_itA {R : It → Hp → Prop} {E : Value → Shared → Prop} {hi : Int} {t u v : Tok} {tk : Nat} (I : Inv X pins σ H s) (h3 : -(2 ^ 62) ≤ hi) (h4 : hi < 2 ^ 62) (q : R (Itr 0 hi.toNat) H) :
    wpAny (model X.prog X.w) X.A (pyIter (.ref s.heap.objs.size)) (fun itv s2 => ∃ (it : Addr) (lo : Int) (n : Nat) (H' : Hp), itv = .ref it ∧ Inv X pins σ H' s2 ∧ IsRangeIter s2.heap it (lo + ((0 : Nat) : Int) * 1) ((n : Int) - ((0 : Nat) : Int)) 1 ∧ FpOk X pins H' it ∧ R (Itr lo n) H') E
      { s with heap := s.heap.push { cls := .type "range", data := .fields #[.int 0 t, .int hi u, .int 1 v] }, toks := tk } := by
  refine wpAny_pyIter_range (IsRange.new ..) (small_one (by omega) (by omega) h3 h4) ?_
  have I2 : Inv X pins σ H { s with heap := s.heap.push { cls := .type "range", data := .fields #[.int 0 t, .int hi u, .int 1 v] }, toks := tk } := I.kept fun b o e => Heap.get?_push_of_some _ e
  refine ⟨(s.heap.push { cls := .type "range", data := .fields #[.int 0 t, .int hi u, .int 1 v] }).objs.size, 0, hi.toNat, H, rfl, I2.kept (t' := tk) fun b o e => Heap.get?_push_of_some _ e, ?_, I2.fpOk (Nat.le_refl _) (I2.hok.fresh (Nat.le_refl _)), q⟩
  have e1 : (0 : Int) + ((0 : Nat) : Int) * 1 = 0 := by simp
  have e2 : ((hi.toNat : Nat) : Int) - ((0 : Nat) : Int) = Builtin.Range.rangeSize 0 hi 1 := by rw [rangeSize_one]; split <;> omega
  rw [e1, e2]
  exact Heap.get?_push_size _ rfl
/-- [elt for tg in range(a) if ..] where an exception is handled -/
theorem pe_lcH (hot : L2H.Hot1 X.A p) (hp : p ∈ X.pn) (hN : X.N.Nodup) (gR : Gl X "range") (mR : X.mg "range" = none) (ha : PA X [a] ta) (ok : BlkOk X.N X.env.scope scope own)
    (hg : ∀ (s : Shared) (H : Hp) (C : Addr) (cl : List (Str × Addr)) (fp : List Addr), PG (X.blk s H scope (compEnvC scope cl C X.env) fp) tg g) (ht : ∀ (s : Shared) (H : Hp) (C : Addr) (cl : List (Str × Addr)) (fp : List Addr), PTs (X.blk s H scope (compEnvC scope cl C X.env) fp) ifs tt)
    (he : ∀ (s : Shared) (H : Hp) (C : Addr) (cl : List (Str × Addr)) (fp : List Addr), PE (X.blk s H scope (compEnvC scope cl C X.env) fp) elt te) (hs : starEach [a] X.env = [(false, eval a X.env)] := by rfl)
    (hf : ∀ x, foldedSetIterable (.Call (.Name "range" p1) [a] [] rp) X.env x = pure x := by intro _; rfl) :
    PE X (.ListComp elt [⟨tg, .Call (.Name "range" p1) [a] [] rp, ifs, 0⟩] scope pos) (tLc (iRng1 ta) g tt te (own.map (·.2))) := by
  refine ⟨fun pins s σ H Q I h => ?_⟩
  rw [eval_ListComp]
  refine lc_hot hot hp hN I (wi := iRng1 ta) ok (fun pins s σ H R I h => ?_) hg ht he hf h fun D C s' m H' I' q hn f => ⟨m, hn, fun h'' sb => ?_⟩
  · refine Call_ (ld_blt I gR mR boot_range (PyProof.Rows.callWith_type1 (thn (ha.run rp pins s σ H _ I h) fun us s1 ⟨vs, H1, I1, r1, q1⟩ => ?_) hs rfl))
    obtain ⟨j, e, q1, q2, q⟩ := q1
    subst e
    cases r1 with
    | cons r rr =>
      cases rr
      obtain ⟨t, rfl⟩ := r
      exact call_range_1 (range_itA I1 q1 q2 (by simpa using q))
  · obtain ⟨f0, f1, f2, f3, f4, f5⟩ := f
    exact ⟨.ref D, H', I'.turned (t' := s'.toks) (fun b o hb e => (sb.2 b hb).trans e) f0 f1 f3 f4 f5, rfl, q⟩
end
end Kx
end
section
set_option maxHeartbeats 2000000
namespace Kx
open PySem PySem.Spec PyProof.Rows L2
/-! ### try, the suite by the exception's class -/
section
variable {X : Cx} {st : List Stmt} {t t1 t2 : TS}
theorem pss_if {c : Prop} (h : c → PSs X st t) : PSs X st (fun D σ H => c ∧ t D σ H) := ⟨fun pins s σ H D I q => (h q.1).run pins s σ H D I q.2⟩
end
section
variable {K : PySem.W.Frag} {σ σ' : L2.St} {G G' M M1 M2 M3 : Hp} {ta tb te tc : TE} {P P1 P2 : VP} {D : Ends} {H : Hp} {u : TS} {E : XK}
/-- a or b by a test, each may raise -/
theorem evr_if [Tb] {ρ : Type} {r : ρ ⊕ Ex} {res : ρ → VP} {t : TT} {b : Bool} (h : EvT t σ G M M1 b) (h1 : b = true → EvR K ta σ G M1 M2 E r res) (h2 : b = false → EvR K tb σ G M1 M2 E r res) : EvR K (tIf t ta tb) σ G M M2 E r res := fun G0 H s k Q q qx =>
  h G0 H s k _ fun G1 H1 s1 k1 => by
    cases b with
    | true =>
      show (if true = true then _ else _)
      rw [if_pos rfl]
      exact h1 rfl G1 H1 (s.trans s1) k1 Q (fun y e v G2 H2 s2 => q y e v G2 H2 (s1.trans s2)) fun x e d G2 H2 s2 => qx x e d G2 H2 (s1.trans s2)
    | false =>
      show (if false = true then _ else _)
      rw [if_neg (by decide)]
      exact h2 rfl G1 H1 (s.trans s1) k1 Q (fun y e v G2 H2 s2 => q y e v G2 H2 (s1.trans s2)) fun x e d G2 H2 s2 => qx x e d G2 H2 (s1.trans s2)
/-! ### the handled exception as a value: class cn, own field y -/
def XP (K : PySem.W.Frag) (a : Addr) (d : Option Addr) (cn : Str) (y : Option (Str × Dat)) : VP := fun v G => v = .ref a ∧ ExcD K G d (cn, y)
theorem mo_xp {a : Addr} {d : Option Addr} {cn : Str} {y : Option (Str × Dat)} : Mo (XP K a d cn y) := fun _ _ _ s h => ⟨h.1, h.2.up s⟩
theorem ev_x [Tb] {i : Nat} {v : V} {a : Addr} {d : Option Addr} {cn : Str} {y : Option (Str × Dat)} (h : σ[i]? = some (some v)) (hp : XP K a d cn y v G) : Ev (tVar i) σ G M M (XP K a d cn y) := ev_var h mo_xp hp
theorem ExcD.dict {d : Option Addr} {x : Ex} (s : Same G H) (h : ExcD K G d x) : DictAt H d := by
  obtain ⟨c, o⟩ := x
  cases o with
  | none => exact .inl h
  | some y =>
    obtain ⟨f, y⟩ := y
    obtain ⟨dd, v, h1, h2, h3⟩ := h
    exact .inr ⟨dd, _, h1, s _ _ h2⟩
/-- isinstance(e, C) -/
theorem ev_isX [Tb] {cn : Str} {a C : Addr} {d : Option Addr} {y : Option (Str × Dat)} {b : Bool} (hk : PySem.W.kitOne K (.ref (clsAt K cn)) (.ref C) = some b) (ha : EvA (tCons ta (tCons tb tNil)) σ G M M1 (conP (XP K a d cn y) (conP (CLX C) nilP))) :
    Ev (tCB (rIsP K (clsAt K cn) a d) (tCons ta (tCons tb tNil))) σ G M M1 (DD K (.bool b)) := ev_cb ha fun xs G0 H s k hx Q q => by
  obtain ⟨v, w, rfl, hv, hw⟩ := two_of hx
  cases hw
  obtain ⟨rfl, he⟩ := hv
  exact ⟨_, .ref C, b, rfl, he.dict k.g, fun u r => r, hk, q _ G0 H (Same.refl _) k (.bl _)⟩
/-- isinstance(e, T), T built in -/
theorem ev_isXT [Tb] {cn : Str} {a : Addr} {T : String} {d : Option Addr} {y : Option (Str × Dat)} {b : Bool} (hk : PySem.W.kitOne K (.ref (clsAt K cn)) (.type T) = some b) (ha : EvA (tCons ta (tCons tb tNil)) σ G M M1 (conP (XP K a d cn y) (conP (fun v _ => v = .ty T) nilP))) :
    Ev (tCB (rIsP K (clsAt K cn) a d) (tCons ta (tCons tb tNil))) σ G M M1 (DD K (.bool b)) := ev_cb ha fun xs G0 H s k hx Q q => by
  obtain ⟨v, w, rfl, hv, hw⟩ := two_of hx
  cases hw
  obtain ⟨rfl, he⟩ := hv
  exact ⟨_, .type T, b, rfl, he.dict k.g, fun u r => r, hk, q _ G0 H (Same.refl _) k (.bl _)⟩
/-- e.f -/
theorem ev_xf [Tb] {cn f : Str} {a : Addr} {d : Option Addr} {z : Dat} (he : Ev te σ G M M1 (XP K a d cn (some (f, z)))) : Ev (tXP a d f te) σ G M M1 (DD K z) := fun G0 H s k Q q => he G0 H s k _ fun v G1 H1 s1 k1 hv => by
  obtain ⟨rfl, dd, w, h1, h2, h3⟩ := hv
  exact ⟨rfl, dd, _, w, h1, k1.g _ _ h2, by simp [List.lookup], q _ G1 H1 s1 k1 h3⟩
/-- the promise of a def that gets the handled exception first, of class cn -/
def spS [Tb] {α ρ : Type} (K : PySem.W.Frag) (cn : Str) (args : Addr → Option Addr → α → List V → Hp → Prop) (m : α → Option ρ) (res : ρ → VP) : Addr → Value → Option Addr → Sp := fun a cls d vs H Q _ =>
  cls = .ref (clsAt K cn) ∧ ∃ (G M : Hp) (x : α) (r : ρ), Ok G M H ∧ args a d x vs G ∧ m x = some r ∧ ∀ v G' H', Same G G' → Ok G' M H' → res r v G' → Q v H'
theorem ev_callS [Tb] {α ρ : Type} {cn : Str} {args : Addr → Option Addr → α → List V → Hp → Prop} {m : α → Option ρ} {res : ρ → VP} {E : L2.St → XK} {t : TA} {x : α} {r : ρ} {a : Addr} {d : Option Addr} (hm : m x = some r) (ha : EvA t σ G M M1 (args a d x)) :
    Ev (tCallS (spS K cn args m res a (.ref (clsAt K cn)) d) E t) σ G M M1 (res r) := fun G0 H s k Q q =>
  ha G0 H s k _ fun vs G1 H1 s1 k1 hv => ⟨rfl, G1, M1, x, r, k1, hv, hm, fun v G2 H2 s2 k2 hr => q v G2 H2 (s1.trans s2) k2 hr⟩
end
section
variable {P : Program} {w : World} {K : PySem.W.Frag} {mg : Str → Option Value} {base : Heap}
/-- as Fun.ok, for a def that gets the handled exception -/
theorem okE {CX : CXT} {x qual : Str} {st : Stmt} {f : Addr} {fd : FuncData} {N ps : List Str} {k : Nat} {sp : Addr → Value → Option Addr → Sp} (F : L2.Fun K x qual st f fd) (S : FnScope N ps (defScope st)) (len : ∀ e cls d vs H Q E, sp e cls d vs H Q E → vs.length = ps.length)
    (hbody : ∀ (cdv : Value) (A : Around) (outer : List Env) (s : Shared) (H : Hp) (vs : List V) (Q : VK) (E : XK) (p : Addr × Obj) (cls : Value) (d : Option Addr), (A.deeper (envOfC qual (defScope st) s.heap.objs.size f cdv)).guards = some [] → L2H.Hot1 A p → Zc cls d p.2 → L2H.RoomH k (A.deeper (envOfC qual (defScope st) s.heap.objs.size f cdv)) → sp p.1 cls d vs H Q E →
      ∃ t, PSs (L2H.cxH CX P w K mg base N qual (defScope st) f cdv A outer s H E p) (defBody st) t ∧ t { nx := fun _ H' => Q .non H', rt := Q } (L2.start N vs) H) : FnE P w K mg base CX (k + 1) f fd ps sp := by
  obtain ⟨oc, od, kV, doc, pm, an, cdv, ct, osl, rfl, lk, hcd⟩ := F.ex
  exact fn_ofE lk hcd S len fun A outer s H vs Q E p cls d hgd hot hz hr hsp => hbody cdv A outer s H vs Q E p cls d hgd hot hz hr hsp
theorem Hot1.flds {A : Around} {p : Addr × Obj} (h : L2H.Hot1 A p) : ∃ vs, p.2.data = .fields vs := let ⟨_, vs, e, _⟩ := h; ⟨vs, e⟩
end
end Kx
end
section
set_option maxHeartbeats 2000000
namespace Kx
open PySem PySem.Spec PyProof.Rows L2
/-! ### l.count(x) (follows HandS.Deep mt_indexD) -/
def rCountD (K : PySem.W.Frag) : V → List V → Hp → VK → Prop := fun x xs H Q => ∃ (a : Addr) (y : V) (d : PyData) (ds : List PyData), x = V.ref a ∧ xs = [y] ∧ Dp K H (V.ref a) (.list ds) ∧ Dp K H y d ∧
  SeqAt.shaped (.list ds) = true ∧ SeqAt.shaped d = true ∧ Q (.int (ds.countP fun z => PyData.eqv z d : Nat)) H
theorem mt_countD {X : Cx} (hu : X.A.units + 65 < cLine) : MtR X "list.count" (rCountD X.K) := by
  intro pins s σ H x xs v us Q I rx rxs h
  obtain ⟨a, y, d, ds, rfl, rfl, hl, hy, sl, sd, q⟩ := h
  cases rx
  cases rxs with
  | cons ry rt =>
    rename_i uy ut
    cases rt
    obtain ⟨bs, r1⟩ := Dp.reads I d y uy hy ry
    have hxs : PyData.canLayAll0 ds = true := SeqAt.canLay_of_shaped sl
    have hroom : X.A.units + 1 + min (PyData.depthAll ds) d.depth < cLine := room_in_shaped sd hu
    cases hl with
    | lst hs ha =>
      obtain ⟨its, rv, ⟨⟨cls, dd, data, sls⟩, n, ho, hc, hdn, hdt⟩, hlen⟩ := I.list hs
      simp only at hc hdt
      subst hc hdt
      obtain ⟨as, h4⟩ := Dp.readsAll I ds _ its ha rv
      have hmap : its.map (SeqAt.readOf s.heap) = ds := SeqAt.readsAll_map ds its as hxs h4
      have ec : its.countP (fun u => PyData.eqv (SeqAt.readOf s.heap u) d) = ds.countP fun z => PyData.eqv z d := by
        rw [← hmap, List.countP_map]
        rfl
      refine call_meets PySem.F.slot_list_count ⟨_, ho, rfl⟩ PySem.F.entry_list_count (PySem.F.args_list_count_2 _ _)
        (SeqAt.list_countAt a its.toArray n dd sls uy (fun u => PyData.eqv (SeqAt.readOf s.heap u) d)) ⟨ho, SeqAt.items_eqAt (vs := its.toArray) (show ReadsAll s.heap its.toArray.toList ds as from h4) r1 hxs (SeqAt.canLay_of_shaped sd) hroom, ?_⟩
      refine ⟨.int (ds.countP fun z => PyData.eqv z d : Nat), H, I.tok _, ⟨s.toks, ?_⟩, q⟩
      show Value.int ((its.countP (fun u => PyData.eqv (SeqAt.readOf s.heap u) d) : Nat) : Int) s.toks = _
      rw [ec]
section
variable {α : Type} [DecidableEq α] {K : PySem.W.Frag} {σ : L2.St} {G M M1 M2 H : Hp} {ta tb te : TE} {e : α → Dat} {n : Nat}
def cntE (x : α) (xs : List α) : Nat := xs.countP fun y => decide (y = x)
theorem mt_countDK {X : Cx} (hu : X.A.units + 65 < cLine) (h : X.K = K := by rfl) : MtR X "list.count" (rCountD K) := h ▸ mt_countD hu
theorem ev_countD [Tb] {x : α} {xs : List α} (h : EqE e n) (hn : n ≤ 62) (ho : Ev ta σ G M M1 (DD K (eL e xs))) (ha : EvA (tCons tb tNil) σ G M1 M2 (conP (DD K (e x)) nilP)) : Ev (tBM K "list" (rCountD K) ta (tCons tb tNil)) σ G M M2 (DD K (.int (cntE x xs : Int))) := fun G0 H s k Q q =>
  ho G0 H s k _ fun v G1 H1 s1 k1 hx => by
    have hx0 := hx
    cases hx with
    | @lst a vs _ hl hd =>
      refine ⟨.inl ⟨rfl, _, .inl (.inl (k1.g _ _ hl))⟩, ha G1 H1 (s.trans s1) k1 _ fun ws G2 H2 s2 k2 hv => ?_⟩
      obtain ⟨y, rfl, hw⟩ := one_of (R := nilP) hv
      have e0 : toPy (eL e xs) = .list (xs.map fun z => toPy (e z)) := by
        show toPy (.list (xs.map e)) = _
        rw [toPy_list, List.map_map]
        rfl
      have hdp := dq_dp _ ((eqe_L h).pur xs) (dp_up (s2.trans k2.g) _ hx0)
      have hsh := shp_of (n := 0) ((eqe_L h).pur xs) (Nat.le_trans ((eqe_L h).dep xs) (by omega)) hx0
      rw [e0] at hdp hsh
      refine ⟨a, y, toPy (e x), xs.map fun z => toPy (e z), rfl, rfl, hdp, dq_dp _ (h.pur x) (dp_up k2.g _ hw), hsh, shp_of (n := 0) (h.pur x) (Nat.le_trans (h.dep x) (by omega)) hw, ?_⟩
      have ec : (xs.map fun z => toPy (e z)).countP (fun z => PyData.eqv z (toPy (e x))) = cntE x xs := by
        rw [List.countP_map]
        unfold cntE
        congr 1
        funext z
        exact h.eqv z x
      rw [ec]
      exact q _ G2 H2 (s1.trans s2) k2 (.int _)
end
theorem _root_.L2H.RoomH.un65 {k : Nat} {A : Around} (r : L2H.RoomH k A) : A.units + 65 < cLine := by have := r.un; omega
theorem _root_.L2H.RoomH.units {k : Nat} {A : Around} (r : L2H.RoomH k A) : A.units + 64 < cLine := by have := r.un; omega
end Kx
end
section
set_option maxHeartbeats 2000000
namespace Kx
open PySem PySem.Spec PyProof.Rows L2
/-! ### small change for try -/
theorem zc_of {cls C : Value} {d : Option Addr} {oe : Obj} (e : cls = C) (hz : L2N.Zn cls d oe) : Zc C d oe := e ▸ hz.zc
theorem pass0At {X : Cx} {E : L2.St → XK} (σ : L2.St) : PassesAt CX0 X σ (E σ) := fun _ _ _ _ _ _ c => False.elim c
/-- a call of an own def with the handled exception, in the suite -/
theorem pe_callSu {X : Cx} {k : Nat} {f a : Addr} {fd : FuncData} {ps : List Str} {sp : Addr → Value → Option Addr → Sp} {x : Str} {q pos : Pos} {e : Expr} {es : List Expr} {t : TA} {oe : Obj} {cls : Value} {d : Option Addr} {pn : List (Addr × Obj)}
    (F : FnE X.prog X.w X.K X.mg X.base CX0 k f fd ps sp) (hgd : X.A.guards = some []) (hr : Room k X.A) (hz : L2N.Zn cls d oe) (hv : ∃ vs, oe.data = .fields vs) (hg : Gl X x) (hm : X.mg x = some (.ref f)) (hk : PySem.W.keepIn X.K (.ref f) = true) (hb : Binds X.K fd ps [])
    (ha : PA (X.suite a ((a, oe) :: pn)) (e :: es) t) (hdb : (x == ("__debug__" : Str)) = false := by decide) (he : starEach (e :: es) X.env = (false, eval e X.env) :: starEach es X.env := by rfl) (hpl : (backTo pos (starEach es X.env)).any (·.1) = false := by rfl) :
    PE (X.suite a ((a, oe) :: pn)) (.Call (.Name x q) (e :: es) [] pos) (tCallS (sp a cls d) (fun _ => E0) t) :=
  pe_callE (X := X.suite a ((a, oe) :: pn)) (p := (a, oe)) F (by show X.A.guards = some []; exact hgd) (L2H.roomH_mark hr _) (hot_of hz hv) hz.zc List.mem_cons_self hg hm hk hb (pass0At (E := fun _ => E0)) ha hdb he hpl
/-- by the exception's class -/
def exO {T : Type} (c f : Str) (x : Ex) (g : Dat → Option T) (h : Option T) : Option T := if x.1 = c then (match x.2 with | some q => if q.1 = f then g q.2 else none | none => none) else h
theorem exO_of {T : Type} {c f : Str} {x : Ex} {g : Dat → Option T} {h : Option T} {r : T} (e : exO c f x g h = some r) : (∃ y, x = (c, some (f, y)) ∧ g y = some r) ∨ h = some r := by
  obtain ⟨a, o⟩ := x
  unfold exO at e
  by_cases q : a = c
  · rw [if_pos q] at e
    subst q
    cases o with
    | none => cases e
    | some z =>
      obtain ⟨f', y⟩ := z
      dsimp only at e
      by_cases q : f' = f
      · rw [if_pos q] at e
        subst q
        exact .inl ⟨y, rfl, e⟩
      · rw [if_neg q] at e
        cases e
  · rw [if_neg q] at e
    exact .inr e
end Kx
end
section
set_option maxHeartbeats 2000000
namespace Kx
open PySem PySem.Spec PyProof.Rows L2
/-! ### repr of a thing of any kind: none, a number, a tuple or a list of plain things -/
def rReprD (K : PySem.W.Frag) : List V → Hp → VK → Prop := fun xs H Q => rRepr K xs H Q ∨ (xs = [.non] ∧ Q (.str "None") H) ∨ ∃ i : Int, xs = [.int i] ∧ i.natAbs.log2 < 1920 ∧ Q (.str (toString i)) H
theorem cl_reprD {X : Cx} {K : PySem.W.Frag} (hg : X.A.guards = some []) (hu : X.A.units + 64 < cLine) (hK : X.K = K) : CallR X (.builtin "repr") (rReprD K) := by
  intro pins s σ H xs us Q I r h
  rcases h with h | ⟨rfl, q⟩ | ⟨i, rfl, hz, q⟩
  · exact cl_repr hg hu hK pins s σ H xs us Q I r h
  · cases r with
    | cons r1 r2 =>
      cases r2
      obtain rfl := r1
      exact PySem.P.repr_of_none ⟨.str _, H, I.tok _, ⟨_, rfl⟩, q⟩
  · cases r with
    | cons r1 r2 =>
      cases r2
      obtain ⟨t, rfl⟩ := r1
      exact PySem.P.repr_of_int hz ⟨.str _, H, I.tok _, ⟨_, rfl⟩, q⟩
def reprD : Dat → Option Str
  | .none => some "None"
  | .int i => strIO i
  | d => if pur d && seqB d then reprO (toPy d) else none
section
variable {K : PySem.W.Frag} {σ : L2.St} {G M M1 : Hp} {ta : TE} {d : Dat}
theorem ev_reprD [Tb] {x : Str} (hx : reprD d = some x) (ha : EvA (tCons ta tNil) σ G M M1 (conP (DD K d) nilP)) : Ev (tCB (rReprD K) (tCons ta tNil)) σ G M M1 (DD K (.str x)) := ev_cb ha fun xs G0 H s k hxs Q q => by
  obtain ⟨v, rfl, hv⟩ := one_of (R := nilP) hxs
  have sq : (if pur d && seqB d then reprO (toPy d) else none) = some x → rReprD K [v] H Q := fun h => by
    by_cases e : (pur d && seqB d) = true
    · rw [if_pos e] at h
      obtain ⟨p, hs⟩ := Bool.and_eq_true_iff.mp e
      obtain ⟨a, rfl⟩ := seq_ref hs hv
      obtain ⟨h1, rfl⟩ := reprO_of h
      have hl := dq_lay d p hv
      exact .inl ⟨a, toPy d, rfl, dq_dp d p (dp_up k.g d hv), hl, h1, q _ G0 H (Same.refl _) k (.str (sgn_sok.mp (sgn_shown _ hl)))⟩
    · rw [if_neg e] at h
      cases h
  cases d with
  | none =>
    cases hv
    cases hx
    exact .inr (.inl ⟨rfl, q _ G0 H (Same.refl _) k (.str (by decide +kernel))⟩)
  | int i =>
    cases hv
    obtain ⟨_, h1, h2⟩ := bs (show strIO i = some x from hx)
    cases h2
    have z := grd_of h1
    exact .inr (.inr ⟨i, rfl, z.1, q _ G0 H (Same.refl _) k (.str z.2)⟩)
  | bool b => exact sq hx
  | str b => exact sq hx
  | list b => exact sq hx
  | tuple b => exact sq hx
  | rtup b => exact sq hx
  | dK a b => exact sq hx
  | dT a b => exact sq hx
  | ins a b c => exact sq hx
end
theorem q_try {f u : TS} {D : Ends} {σ : L2.St} {H : Hp} (h : f { D with nx := u D } σ H) : tSeq f u D σ H := h
theorem pe_xfSu {X : Cx} {a D : Addr} {oe : Obj} {cls : Value} {d : Option Addr} {pn : List (Addr × Obj)} {te : TE} {n : Str} {e : Expr} {pos : Pos} (T : XfC X.K D) (hno : PySem.W.findIn X.K (.ref D) n = some none) (ec : cls = .ref D) (hz : L2N.Zn cls d oe) (hf : ∃ vs, oe.data = .fields vs)
    (he : PE (X.suite a ((a, oe) :: pn)) e te) (hb : attributeBase e n X.env (eval e X.env) = eval e X.env := by rfl) : PE (X.suite a ((a, oe) :: pn)) (.Attribute e n pos) (tXP a d n te) :=
  pe_xfP (X := X.suite a ((a, oe) :: pn)) (p := (a, oe)) List.mem_cons_self T hno (zc_of ec hz) hf he hb
end Kx
end
section
set_option maxHeartbeats 2000000
namespace Kx
open PySem PySem.Spec PyProof.Rows L2 L2N HandSPX
/-! ### except (A, B, C) as n -/
end Kx
end
section
set_option maxHeartbeats 2000000
namespace Kx
open PySem PySem.Spec PyProof.Rows L2
/-! ### C(k = v, ..), one default -/
theorem kit_own {K : PySem.W.Frag} {a c : Addr} {b : Bool} (hc : PySem.W.isClsIn K c = true) (ht : PySem.W.typeIn K (.ref c) = some (.type "type")) (ha : PySem.W.subIn K (.ref a) (.ref a) = some true) (hs : PySem.W.subIn K (.ref a) (.ref c) = some b) : PySem.W.kitOne K (.ref a) (.ref c) = some b := by
  by_cases e : a = c
  · subst e
    rw [hs] at ha
    rw [kit_self]
    exact ha.symm
  · unfold PySem.W.kitOne
    rw [if_neg (by simpa using e)]
    have h2 : (PySem.W.clsIn K c).isSome = true := hc
    show (if ((PySem.W.clsIn K c).isSome && PySem.W.typeIn K (.ref c) == some (.type "type")) = true then PySem.W.subIn K (.ref a) (.ref c) else none) = _
    rw [h2, ht, if_pos (by rfl)]
    exact hs
theorem kit_blt {K : PySem.W.Frag} {a : Addr} {T : String} {b : Bool} (hm : PySem.W.kitMeta T = true) (hs : PySem.W.subIn K (.ref a) (.type T) = some b) : PySem.W.kitOne K (.ref a) (.type T) = some b := by
  unfold PySem.W.kitOne
  rw [if_neg (by simp)]
  show (if PySem.W.kitMeta T = true then PySem.W.subIn K (.ref a) (.type T) else none) = _
  rw [if_pos hm]
  exact hs
end Kx
end
section
set_option maxHeartbeats 2000000
namespace Kx
open PySem PySem.Spec PyProof.Rows L2
/-! ### things taken as a Peal, as a STANDING -/
end Kx
end
section
set_option maxHeartbeats 2000000
namespace Kx
open PySem PySem.Spec PyProof.Rows L2
/-! ### lambdas without parameters, handed to a def that calls what it got -/
/-- what act() is read as -/
def tAct (f c' : Addr) (q : Str) (tl : XK → Hp → VK → Prop) (E : XK) : TE := fun σ H Q => σ[0]? = some (some (.ref f)) ∧ H c' = some (LamX.CodeO c' q) ∧ tl E H Q
/-- the context of the def that got the lambda -/
abbrev gotCx (P : Program) (w : World) (K : PySem.W.Frag) (mg : Str → Option Value) (base : Heap) (Ng : List Str) (x : Str) (sg : Scope) (g : Addr) (cdg : Value) (A : Around) (out : List Env) (s : Shared) (H : Hp) : Cx := cxOf CX0 P w K mg base Ng x sg g cdg A out s H E0
/-- the def that calls what it got, by the name a: TT is what it makes of the lambda's reading -/
def GivesN (P : Program) (w : World) (K : PySem.W.Frag) (mg : Str → Option Value) (base : Heap) (k : Nat) (Ng : List Str) (x : Str) (sg : Scope) (g : Addr) (cdg : Value) (bg : List Stmt) (a : Str) (TT : (XK → Hp → VK → Prop) → Hp → VK → Prop) : Prop :=
  ∀ (A : Around) (out : List Env) (s : Shared) (H : Hp) (Q : VK) (tl : XK → Hp → VK → Prop) (f c' : Addr) (q : Str), Room k (A.deeper (envOfC x sg s.heap.objs.size g cdg)) → (A.deeper (envOfC x sg s.heap.objs.size g cdg)).guards = some [] →
    (∀ (pn : List (Addr × Obj)) (xe : Value → Shared → Prop) (E : XK) (p1 p2 : Pos), Passes (L2N.CX P w) ((gotCx P w K mg base Ng x sg g cdg A out s H).tr pn xe) E → PE ((gotCx P w K mg base Ng x sg g cdg A out s H).tr pn xe) (.Call (.Name a p1) [] [] p2) (tAct f c' q tl E)) →
    H c' = some (LamX.CodeO c' q) → TT tl H Q → ∃ t, PSs (gotCx P w K mg base Ng x sg g cdg A out s H).nox bg t ∧ t { nx := fun _ H' => Q .non H', rt := Q } (L2.start Ng [.ref f]) H
/-- what a caller knows of such a def -/
structure FnLam (P : Program) (w : World) (K : PySem.W.Frag) (mg : Str → Option Value) (base : Heap) (k : Nat) (g : Addr) (fd : FuncData) (x a : Str) (TT : (XK → Hp → VK → Prop) → Hp → VK → Prop) : Prop where
  ex : ∃ (oc : Value) (od : Option Addr) (pg : Arguments) (bg : List Stmt) (sg : Scope) (dV kV doc pm : Value) (an : Option Addr) (cdv ct : Value) (osl : Array (Option Value)) (Ng : List Str), fd = PySem.W.fnOf x x pg bg sg dV kV doc pm an cdv ct ∧ K.lookup g = some ⟨oc, od, .func fd, osl⟩ ∧ PySem.W.codeIn K cdv x = true ∧
    FnScope Ng [a] sg ∧ Ng[0]? = some a ∧ Vis sg a ∧ GivesN P w K mg base k Ng x sg g cdv bg a TT
theorem FnLam.up {P : Program} {w : World} {K : PySem.W.Frag} {mg : Str → Option Value} {base : Heap} {k k' : Nat} {g : Addr} {fd : FuncData} {x a : Str} {TT : (XK → Hp → VK → Prop) → Hp → VK → Prop} (F : FnLam P w K mg base k g fd x a TT) (h : k ≤ k') : FnLam P w K mg base k' g fd x a TT := by
  obtain ⟨oc, od, pg, bg, sg, dV, kV, doc, pm, an, cdv, ct, osl, Ng, e1, e2, e3, e4, e5, e6, hG⟩ := F.ex
  exact ⟨⟨oc, od, pg, bg, sg, dV, kV, doc, pm, an, cdv, ct, osl, Ng, e1, e2, e3, e4, e5, e6, fun A out s H Q tl f c' q hr => hG A out s H Q tl f c' q (hr.mono h)⟩⟩
section
variable [Tb] {K : PySem.W.Frag} {σ σ' : L2.St} {G G' M M1 M2 M3 : Hp} {ta tb te tc : TE} {P P1 P2 : VP} {D : Ends} {H : Hp} {u : TS} {E : XK}
/-- the lambda's reading: it tells r -/
def LamR (K : PySem.W.Frag) (tl : XK → Hp → VK → Prop) (G M : Hp) (r : Unit ⊕ Ex) : Prop := ∀ (E : XK) (G0 H : Hp), Same G G0 → Ok G0 M H → ∀ Q : VK, (r = .inl () → ∀ v G1 H1, Same G0 G1 → Ok G1 M H1 → Q v H1) →
  (∀ x, r = .inr x → ∀ d G1 H1, Same G0 G1 → Ok G1 M H1 → ExcD K G1 d x → E (.ref (clsAt K x.1)) d H1) → tl E H Q
theorem LamR.up {tl : XK → Hp → VK → Prop} {r : Unit ⊕ Ex} (h : LamR K tl G M r) (s : Same G G') : LamR K tl G' M r := fun E G0 H s1 => h E G0 H (s.trans s1)
end
end Kx
end
section
set_option maxHeartbeats 2000000
namespace Kx
open PySem PySem.Spec PyProof.Rows L2
/-- the start: the script, the empty tables -/
theorem start_ok [Tb] {K : PySem.W.Frag} {H : Hp} {a : Addr} {xs : List V} (hT : ∀ p ∈ Tb.t, H p.1 = some (.tbl #[])) (hS : SqL K H a xs) : ∃ G, Ok G (fun _ => none) H ∧ SqL K G a xs := by
  refine ⟨fun b => match H b with | some (.tbl _) => none | o => o, ⟨fun b o e => ?_, fun _ _ h => (by cases h), fun _ _ h => (by cases h), fun _ _ h => (by cases h), ⟨fun p hp => LamX.TabS.nil (hT p hp), fun b o e => ?_⟩⟩, ?_⟩
  · split at e
    · cases e
    · exact e
  · split at e
    · cases e
    · next h => cases o <;> first | exact trivial | exact (h _ e).elim
  · rcases hS with (h | ⟨o, h⟩) | h
    · refine .inl (.inl ?_)
      show (match H a with | some (.tbl _) => none | o => o) = _
      rw [h]
    · refine .inl (.inr ⟨o, ?_⟩)
      show (match H a with | some (.tbl _) => none | o => o) = _
      rw [h]
    · exact .inr h
/-! ### the law's end, with tables of code objects, from a promise that asks for no guards -/
theorem caller_runT {P : Program} {w : World} {K : PySem.W.Frag} {mg mb : Str → Option Value} {CX : CXT} {k : Nat} {fa a : Addr} {fd : FuncData} {x : Str} {sp : Sp} {s1 : Shared} {H : Hp} {o : Obj} {its : Array Value} {n0 : Nat} {cs : List (Addr × Addr)}
    (kx : K.In s1.heap) (gl : s1.heap.Ns mainGlobals mg) (bl : s1.heap.Ns builtinsNs mb) (bb : ∀ x : Str, x ≠ "__name__" → mb x = bootBuiltins x) (lim : s1.heap.NoLimit) (gn : s1.gens = #[]) (ha : s1.heap.get? a = some o) (hod : o.data = .seq its n0)
    (hT : ∀ p ∈ cs, s1.heap.get? p.2 = some { cls := .none, data := .fields #[] }) (nT : ∀ p ∈ cs, K.lookup p.2 = none) (hC : ∀ p ∈ cs, PySem.W.CodeHd s1.heap p.1 p.2)
    (hbm : ∃ (bm : Addr) (ob : Obj), mg "__builtins__" = some (.ref bm) ∧ bm ≠ builtinsNs ∧ s1.heap.get? bm = some ob ∧ ob.cls = .type "module" ∧ ob.dict = some builtinsNs ∧ ob.data = .plain)
    (hr : Room k callerA) (F : ∀ base : Heap, K.In base → base.Ns mainGlobals mg → (∀ p ∈ cs, LamX.TabB base mg p.1 p.2) → FnOkG P w K mg base CX k fa fd [x] sp) (bd : ∀ (s : Shared) (u : Value), BindsTo s fd ⟨[u], []⟩ [(x, u)])
    (ok : HOk P w H s1.heap) (onl : ∀ b, H b ≠ none → b = a ∨ b ∈ cs.map (·.2)) (own : H a ≠ none → K.lookup a = none) (q : sp [.ref a] H (fun v _ => v = .bl true) fun _ _ _ => False) :
    codeAny (model P w) callerA (.call (.ref fa) ⟨[.ref a], []⟩) (CR CX [] P w H s1 (fun v _ => v = .bl true) fun _ _ _ => False) s1 := by
  have hid : ∀ {b : Addr} {u : Obj}, s1.heap.get? b = some u → H b = none → (hidT s1.heap H).get? b = some u := fun e n => hidT_get e n
  have tab : ∀ {b : Addr}, b ∈ cs.map (·.2) → s1.heap.get? b = some { cls := .none, data := .fields #[] } := fun {b} hb => by
    obtain ⟨p, hp, rfl⟩ := List.mem_map.mp hb
    exact hT p hp
  have free : ∀ {b : Addr} {u : Obj}, s1.heap.get? b = some u → (∀ its n, u.data ≠ .seq its n) → u.data ≠ .fields #[] → H b = none := fun {b u} e h1 h2 => by
    cases z : H b with
    | none => rfl
    | some v =>
      rcases onl b (by rw [z]; exact Option.some_ne_none v) with y | y
      · subst y
        rw [ha] at e
        cases e
        exact (h1 _ _ hod).elim
      · rw [tab y] at e
        cases e
        exact (h2 rfl).elim
  have dict : ∀ {b : Addr} {u : Obj} {es : Array DictEntry} {m : Nat}, s1.heap.get? b = some u → u.data = .dict es m → H b = none := fun {b u es m} e d => free e (fun _ _ z => by rw [d] at z; cases z) fun z => by rw [d] at z; cases z
  have ns : ∀ {b : Addr} {m : Str → Option Value}, s1.heap.Ns b m → (hidT s1.heap H).Ns b m := fun ⟨u, es, m, e, d, r⟩ => ⟨u, es, m, hid e (dict e d), d, r⟩
  have kb : K.In (hidT s1.heap H) := fun b u e => hid (kx b u e) (by
    cases z : H b with
    | none => rfl
    | some v =>
      rcases onl b (by rw [z]; exact Option.some_ne_none v) with y | y
      · subst y
        rw [own (by rw [z]; exact Option.some_ne_none v)] at e
        cases e
      · obtain ⟨p, hp, rfl⟩ := List.mem_map.mp y
        rw [nT p hp] at e
        cases e)
  have hB : ∀ p ∈ cs, LamX.TabB (hidT s1.heap H) mg p.1 p.2 := fun p hp => by
    refine ⟨?_, ?_, fun z => ?_⟩
    · obtain ⟨u, us, file, tf, flags, tg, inF, text, tt, e1, r1, r2, r3, r4, r5, r6, r7, r8, hne⟩ := hC p hp
      refine ⟨u, us, file, tf, flags, tg, inF, text, tt, hid e1 (free e1 (fun _ _ z => by rw [r2] at z; cases z) fun z => ?_), r1, r2, r3, r4, r5, r6, r7, r8, hne⟩
      rw [r2] at z
      cases z
      simp at r3
    · obtain ⟨bm, ob, b1, b2, b3, b4, b5, b6⟩ := hbm
      refine ⟨bm, ob, b1, b2, fun z => ?_, fun z => ?_, hid b3 (free b3 (fun _ _ z => by rw [b6] at z; cases z) fun z => by rw [b6] at z; cases z), b4, b5, b6⟩
      · obtain ⟨u, es, ep, e, hd, _⟩ := gl
        rw [z, e] at b3
        cases b3
        rw [hd] at b6
        cases b6
      · rw [z, hT p hp] at b3
        cases b3
        cases b6
    · obtain ⟨u, es, ep, e, hd, _⟩ := gl
      rw [z, hT p hp] at e
      cases e
      cases hd
  obtain ⟨mc, l1, l2⟩ := lim
  exact (F _ kb (ns gl) hB).run callerA [] s1 H ⟨[.ref a], []⟩ [.ref a] [.ref a] _ _ rfl hr
    ⟨rfl, ⟨kb, ns gl, ⟨mb, ns bl, bb⟩, ⟨mc, ns l1, l2⟩⟩, fun b u e => of_hidT e, Nat.le_of_eq (hidT_size _ _), trivial, fun b hb => absurd (show b ∈ ([] : List Addr) from hb) (by simp), ok, .of_eq gn⟩ (bd s1 (.ref a)) (.cons rfl .nil) q
/-- what is told of the law's def at the head's heap -/
def LawTab (l : PySem.W.OpenLaw) (w : World) (K : PySem.W.Frag) (k n : Nat) (x : Str) (mg : Str → Option Value) (fa : Addr) (h : Heap) : Prop :=
  ∃ (fd : FuncData) (cs : List (Addr × Addr)) (sp : Sp), (∀ p ∈ cs, h.get? p.2 = some { cls := .none, data := .fields #[] }) ∧ (∀ p ∈ cs, K.lookup p.2 = none) ∧ (∀ p ∈ cs, PySem.W.CodeHd h p.1 p.2) ∧ (∀ (s : Shared) (u : Value), BindsTo s fd ⟨[u], []⟩ [(x, u)]) ∧
    (∀ (H : Hp) (a : Addr) (ns : List Int), ns.length ≤ n → (∀ p ∈ cs, H p.2 = some (.tbl #[])) → SqL K H a (ns.map V.int) → sp [.ref a] H (fun v _ => v = .bl true) fun _ _ _ => False) ∧
    ∀ base : Heap, K.In base → base.Ns mainGlobals mg → (∀ p ∈ cs, LamX.TabB base mg p.1 p.2) → FnOkG l.prog w K mg base CX0 k fa fd [x] sp
theorem walk_ofTX {l : PySem.W.OpenLaw} {n k : Nat} {q : Program} {loose : List Str} {XP : (Str → Option Value) → Heap → Prop} {YP : World → Heap → Prop} {d : DefRec} {x : Str}
    (hn : l.most = some n) (hn2 : n ≤ sizeLine) (hdf : d.params.defaults = []) (hr : Room k callerA)
    (F : ∀ (w : World) (mg : Str → Option Value) (fa : Addr) (h : Heap), YP w h → h.Ns mainGlobals mg → mg d.name = some (.ref fa) → ∃ K : PySem.W.Frag, K.In h ∧ LawTab l w K k n x mg fa h) :
    PySem.W.WalkO q loose XP YP l.row.toRowW d [] (fun f vs => PySem.call f vs) := by
  refine Att.attach_call hn hdf fun w s0 s1 mg mb fa o pm cd doc a vs ns G Y ho hd hcd hmg hobj hints hlen hg => ?_
  obtain ⟨K, kx, fd, cs, sp, hT, nT, hC, hb, hsp, hF⟩ := F w mg fa _ Y G.T.g hmg
  have lv : vs.length = ns.length := hints.length
  have lz : ns.length ≤ sizeLine := Nat.le_trans hlen hn2
  have tab : ∀ {b : Addr}, b ∈ cs.map (·.2) → s1.heap.get? b = some { cls := .none, data := .fields #[] } := fun {b} hb => by
    obtain ⟨p, hp, rfl⟩ := List.mem_map.mp hb
    exact hT p hp
  have aT : a ∉ cs.map (·.2) := fun z => by
    have e := tab z
    rw [hobj] at e
    cases e
  have memT : ∀ p ∈ cs, p.2 ∈ cs.map (·.2) := fun p hp => List.mem_map.mpr ⟨p, hp, rfl⟩
  have fin : ∀ H : Hp, HOk l.prog w H s1.heap → (∀ b, H b ≠ none → b = a ∨ b ∈ cs.map (·.2)) → (H a ≠ none → K.lookup a = none) → SqL K H a (ns.map V.int) → (∀ p ∈ cs, H p.2 = some (.tbl #[])) → (∀ b, H b ≠ none → b ∉ cs.map (·.2) → H b = some (.frz { cls := .type "list", data := .seq vs.toArray } (.lst (ns.map V.int)))) →
      codeAny (model l.prog w) callerA (.call (.ref fa) ⟨[.ref a], []⟩) (fun r s' => r = .ok (.ret (.bool true)) ∧ OldK s1.heap s'.heap ∧ s'.os = s1.os ∧ AllBare s'.gens) s1 := by
    intro H ok onl own hS hH hf
    refine codeAny_mono (caller_runT kx G.T.g G.T.b G.T.builtins G.T.nolimit hg hobj rfl hT nT hC G.T.bmain hr hF hb ok onl own (hsp H a ns hlen hH hS)) fun r s' h => ?_
    rcases r with e | fl
    · exact h.elim
    · cases fl with
      | next => exact h.elim
      | brk => exact h.elim
      | cont => exact h.elim
      | ret u =>
        obtain ⟨v, H2, os, bare, un, ok2, rv, rfl⟩ := h
        have eu : u = Value.bool true := rv
        have key : ∀ b ob, b ∉ cs.map (·.2) → s1.heap.get? b = some ob → s'.heap.get? b = some ob := fun b ob nb e => by
          by_cases hz : H b = none
          · exact un.keep b ob e hz (fun z => absurd (show b ∈ ([] : List Addr) from z) (by simp)) (by simp)
          · have z1 := hf b hz nb
            have z2 := (ok2 b _ (un.frzs b _ _ z1)).1
            have z3 := (ok b _ z1).1
            rw [e] at z3
            cases z3
            exact z2
        have grown : ∀ p ∈ cs, ∃ more : Array Value, s'.heap.get? p.2 = some { cls := .none, data := .fields more } := fun p hp => by
          obtain ⟨more, z⟩ := un.tbls p.2 #[] (hH p hp)
          exact ⟨_, ok2 p.2 _ z⟩
        refine ⟨by rw [eu], ⟨fun b ob e => ?_, fun b ob e => ?_⟩, os, bare⟩
        · by_cases hb : b ∈ cs.map (·.2)
          · obtain ⟨p, hp, rfl⟩ := List.mem_map.mp hb
            obtain ⟨more, hm⟩ := grown p hp
            rw [hT p hp] at e
            cases e
            exact .inr (.inl ⟨((hC p hp).tab (hT p hp)).isCodeTable, rfl, #[], more, rfl, by rw [Array.empty_append]; exact hm⟩)
          · exact .inl (key b ob hb e)
        · by_cases hb : b ∈ cs.map (·.2)
          · obtain ⟨p, hp, rfl⟩ := List.mem_map.mp hb
            obtain ⟨more, hm⟩ := grown p hp
            exact ⟨_, hm⟩
          · exact ⟨ob, key b ob hb e⟩
  by_cases hk : K.lookup a = none
  · refine fin (fun b => if b = a then some (.frz { cls := .type "list", data := .seq vs.toArray } (.lst (ns.map V.int))) else if b ∈ cs.map (·.2) then some (.tbl #[]) else none) (fun b u z => ?_) (fun b z => ?_) (fun _ => hk) (.inl (.inr ⟨_, if_pos rfl⟩)) (fun p hp => (if_neg (fun z => aT (by rw [← z]; exact memT p hp))).trans (if_pos (memT p hp))) fun b z nb => ?_
    · by_cases hb : b = a
      · subst hb
        have z2 := (if_pos rfl).symm.trans z
        cases z2
        exact ⟨hobj, by rw [List.length_map]; exact lz, vs, _, vals_ints hints, hobj⟩
      · have z1 := (if_neg hb).symm.trans z
        by_cases hb2 : b ∈ cs.map (·.2)
        · have z2 := (if_pos hb2).symm.trans z1
          cases z2
          exact tab hb2
        · have z2 := (if_neg hb2).symm.trans z1
          cases z2
    · by_cases hb : b = a
      · exact .inl hb
      · by_cases hb2 : b ∈ cs.map (·.2)
        · exact .inr hb2
        · exact absurd ((if_neg hb).trans (if_neg hb2)) z
    · by_cases hb : b = a
      · exact if_pos hb
      · exact absurd ((if_neg hb).trans (if_neg nb)) z
  · obtain ⟨u, hu⟩ := Option.ne_none_iff_exists'.mp hk
    have e := kx a u hu
    rw [hobj] at e
    cases e
    refine fin (fun b => if b ∈ cs.map (·.2) then some (.tbl #[]) else none) (fun b u z => ?_) (fun b z => ?_) (fun z => absurd (if_neg aT) z) (.inr ⟨_, vs.toArray, _, hu, rfl, rfl, rfl, by rw [List.size_toArray, lv]; exact lz, by simpa using vals_ints hints⟩) (fun p hp => if_pos (memT p hp)) fun b z nb => absurd (if_neg nb) z
    · by_cases hb2 : b ∈ cs.map (·.2)
      · have z2 := (if_pos hb2).symm.trans z
        cases z2
        exact tab hb2
      · have z2 := (if_neg hb2).symm.trans z
        cases z2
    · by_cases hb2 : b ∈ cs.map (·.2)
      · exact .inr hb2
      · exact absurd (if_neg hb2) z
end Kx
end
section
set_option maxHeartbeats 4000000
namespace Kx
open PySem PySem.W PySem.Calls PyProof.Rows PySem.HandSPX
section
open Builtin Builtin.ObjectAttr
variable {prog : Program} {w : World} {A : Around} {E : Value → Shared → Prop} {R : Result → Shared → Prop} {hp : Heap} {g : Array GenState} {d : Drawn} {t : Nat} {os : OsState}
/-- self.name = v on an exception with no dict as yet, whatever built-in class it stands over -/
theorem osa_any {K : W.Frag} {name : Str} {tk : Tok} {v : Value} {x C : Addr} {fv : Array Value} {cd : ClassData}
    (X : K.In hp) (hx : hp.get? x = some { cls := .ref C, data := .fields fv }) (hcd : W.clsIn K C = some cd) (hem : cd.mro.isEmpty = false) (hob : cd.mro.contains (.type "object") = true) (hps : ∀ self, refuseLoop self "__setattr__" cd.mro = pure ()) (hh : cd.hasDict = true) (ha : W.findIn K (.ref C) name = some none)
    (hq : ∀ h' tk' dx, (∀ b o, b ≠ x → hp.get? b = some o → h'.get? b = some o) → hp.objs.size ≤ dx → dx ≠ x → h'.get? x = some { cls := .ref C, dict := some dx, data := .fields fv } →
      h'.Ns1 dx (fun y => if y = name then some v else none) → R (.ok (.ret .none)) ⟨h', g, d, tk', os⟩) :
    codeAny (model prog w) A (.call (.builtin "object.__setattr__") ⟨[.ref x, .str name tk, v], []⟩) R ⟨hp, g, d, t, os⟩ := by
  have I : W.InstAt hp x { cls := .ref C, data := .fields fv } C none := ⟨hx, rfl, rfl, trivial⟩
  have SF := F.store_object
  have hxs : x ≠ hp.objs.size := Nat.ne_of_lt (Heap.lt_size hx)
  have sub : W.Looks (model prog w) hp (isInstance (.ref x) (.type "object")) true := I.type.andThen (W.looks_mroIn X (by unfold W.mroIn; rw [hcd, Option.bind_some, if_neg (by rw [hem]; decide), hob]))
  refine codeAny_call_builtin SF.slot.plain SF.entry (@W.check_slot (model prog w) _ _ ⟨hp, g, d, t, os⟩ "object.__setattr__" "object" "__setattr__" (.ref x) [.str name tk, v] [] _ SF.kind SF.split sub (SF.args (.ref x) (.str name tk) v) ?_)
  have hmr : W.Looks (model prog w) hp (mroOf (.ref C)) cd.mro := (W.looks_clsIn X hcd).andThen .now
  have L3 : W.Looks (model prog w) hp (storeTaker? none) none := .now
  have hcls : W.Looks (model prog w) hp (classData C) cd := W.looks_clsIn X hcd
  rw [W.osa_eq, refuse_eq]
  refine wpAny_bind (wpAny_bind (I.type.at (wpAny_bind (hmr.at ?_))))
  rw [hps]
  refine wpAny_pure (wpAny_bind (I.type.at (wpAny_bind ((W.looks_findIn X ha).at (wpAny_bind (L3.at ?_))))))
  show wpAny _ _ (storeInOwnDict (.ref x) (.ref C) (.str name tk) name v false) _ _ _
  obtain ⟨nm, bs, mro, ns, qn, hd, sn, sb, ab, col, del⟩ := cd
  dsimp only at hh
  subst hh
  unfold storeInOwnDict ownDictForStores
  repeat (first | with_reducible refine store_in_new ?_ ?_ | with_reducible refine wpAny_loadPart_at hx ?_ | with_reducible refine hcls.at ?_ | wp_step)
  · exact ⟨_, #[], _, (Heap.get?_update_ne _ _ _ _ hxs.symm).trans (Heap.get?_push_at rfl rfl), rfl, fun e he => absurd he (by simp), fun _ => rfl⟩
  · intro h' tk' hn' hs
    have hx₁ : (hp.push { cls := .type "dict", data := .dict #[] }).get? x = some { cls := .ref C, data := .fields fv } := Heap.get?_push_of_some _ hx
    refine hq h' tk' hp.objs.size (fun b o hb ho => ?_) (Nat.le_refl _) hxs.symm ?_ hn'
    · exact (hs.2 b (Nat.ne_of_lt (Heap.lt_size ho))).trans ((Heap.get?_update_ne _ _ _ _ hb).trans (Heap.get?_push_of_some _ ho))
    · exact (hs.2 x hxs).trans (Heap.get?_update_self _ hx₁ rfl)
end
end Kx
namespace Kx
open PySem PySem.Spec PyProof.Rows L2
/-- an own exception with an own __init__, over the built-in class whose __init__ is named j -/
structure OexG (K : PySem.W.Frag) (C : Addr) (j : String) : Prop where
  cls : ∃ nm q N bs bm sn sub ab col dd k0 k1 k2 k3 k5 B newId bmB, K.lookup C = some (excClassObj nm q C N bs bm true sn sub ab col dd k0 k1 k2 k3 k5 newId) ∧ ExcBaseFacts B newId j bmB ∧ (∀ X : String, bm.contains (.type X) = bmB.contains (.type X)) ∧ (∀ self, PySem.refuseLoop self "__setattr__" bm = pure ()) ∧ bm.contains (.type "object") = true
  sa : PySem.W.findIn K (.ref C) "__setattr__" = some (some (.builtin "object.__setattr__"))
  exC : PySem.W.subIn K (.ref C) (.type "BaseException") = some true
  tyC : PySem.W.typeIn K (.ref C) = some (.type "type")
  kC : PySem.W.keepIn K (.ref C) = true
theorem OexG.one {K : PySem.W.Frag} {C b : Addr} {B newId j : String} {bmB : List Value} {s1 s2 : String} (F : ExcBaseFacts B newId j bmB) (S : PySem.StoreFacts B bmB s1 s2) (ob : bmB.contains (.type "object") = true) {nm q N bs sn sub ab col dd k0 k1 k2 k3 k5} (e : K.lookup C = some (excClassObj nm q C N bs (.ref b :: bmB) true sn sub ab col dd k0 k1 k2 k3 k5 newId))
    (sa : PySem.W.findIn K (.ref C) "__setattr__" = some (some (.builtin "object.__setattr__"))) (exC : PySem.W.subIn K (.ref C) (.type "BaseException") = some true) (tyC : PySem.W.typeIn K (.ref C) = some (.type "type")) (kC : PySem.W.keepIn K (.ref C) = true) : OexG K C j :=
  ⟨⟨nm, q, N, bs, _, sn, sub, ab, col, dd, k0, k1, k2, k3, k5, B, newId, bmB, e, F, fun X => by rw [List.contains_cons]; rfl, fun self => by rw [PySem.refuseLoop_ref]; exact S.passes self, by rw [List.contains_cons, ob]; rfl⟩, sa, exC, tyC, kC⟩
section
variable {X : Cx} {pins : List (Addr × Obj)} {σ : L2.St} {H : Hp} {s : Shared} {a C dx : Addr} {f : Str} {y : V} {u : Value} {fs : List (Str × V)} {Q : Unit → Shared → Prop} {E : Value → Shared → Prop} {A : Around} {j : String}
/-- self.f = y -/
theorem ost_newG (T : OexG X.K C j) (I : Inv X pins σ H s) (e : H a = some (exo a C none)) (hno : PySem.W.findIn X.K (.ref C) f = some none) (ry : RelV y u)
    (h : ∀ dx s', H dx = none → dx ≠ a → Inv X pins σ (upd (upd H dx (exd dx [(f, y)])) a (exo a C (some dx))) s' → Q () s') : wpAny (model X.prog X.w) A (setAttr (.ref a) f u) Q E s := by
  obtain ⟨nm, q, N, bs, bm, sn, sub, ab, col, dd, k0, k1, k2, k3, k5, B, newId, bmB, hC, F, hT, hP, hO⟩ := T.cls
  have hcl : PySem.W.clsIn X.K C = some { name := nm, bases := bs, mro := .ref C :: bm, ns := N, qualname := q, hasDict := true, slotNames := sn, subclasses := sub, abstract := ab, collection := col, hasDel := false } := by unfold PySem.W.clsIn; rw [hC] <;> rfl
  obtain ⟨t1, ho⟩ := exo_at I.hok e
  obtain ⟨hp, g, d, t, os⟩ := s
  refine PySem.W.set_plain I.kIn (ox := { cls := .ref C, dict := none, data := .fields #[.ref t1, .none, .none, .none, .bool false, .none] }) (od := none) ⟨ho, rfl, rfl, trivial⟩ T.sa ?_
  refine osa_any I.kIn ho hcl rfl (by rw [List.contains_cons, hO, Bool.or_true]) (fun self => by rw [PySem.refuseLoop_ref]; exact hP self) rfl hno (fun h' tk' dx k dn dne hx hn => ?_)
  have hnd : H dx = none := I.hok.fresh dn
  have nd : ∀ {b : Addr} {o : Obj}, hp.get? b = some o → b ≠ dx := fun {b o} q => Nat.ne_of_lt (Nat.lt_of_lt_of_le (Heap.lt_size q) dn)
  have na : ∀ {b : Addr}, H b = none → b ≠ a := fun {b} n z => by
    rw [z, e] at n
    cases n
  have Un1 : Un X.fs [] H (upd (upd H dx (exd dx [(f, y)])) a (exo a C (some dx))) hp h' := {
    keep := fun b o q n _ _ => k b o (na n) q
    slot := fun b o q n _ _ => ⟨o.slots, k b o (na n) q⟩
    free := fun b o q n _ => by rw [upd_ne (na n), upd_ne (nd q)]; exact n
    there := fun b o q _ => by
      by_cases hb : b = a
      · exact ⟨_, by rw [hb]; exact hx⟩
      · exact ⟨o, k b o hb q⟩
    tups := fun b xs q => by rw [upd_ne (at_ne e q exo_tup), upd_ne (ne_of_none q hnd)]; exact q
    frzs := fun b o v q => by rw [upd_ne (at_ne e q exo_frz), upd_ne (ne_of_none q hnd)]; exact q
    tbls := fun b ps q => ⟨#[], by rw [upd_ne (at_ne e q exo_tbl), upd_ne (ne_of_none q hnd), q]; simp⟩ }
  refine h dx _ hnd dne (I.un (t' := tk') Un1 fun b o q => ?_)
  by_cases hb : b = a
  · subst hb
    rw [upd_same] at q
    cases q
    exact exo_ok hx
  · rw [upd_ne hb] at q
    by_cases hd : b = dx
    · subst hd
      rw [upd_same] at q
      cases q
      exact exd_ok hn (relO_put (fs := []) ry fun g => True.intro)
    · rw [upd_ne hd] at q
      exact (I.hok b o q).stay (fun c v hc z => k c v (by
          rcases hc with hc | hc
          · rw [hc]
            exact hb
          · exact at_ne e hc exo_own) z)
        (fun c hc => by rw [upd_ne (at_ne e hc exo_own), upd_ne (ne_of_none hc hnd)]; exact hc) (fun c xs hc => by rw [upd_ne (at_ne e hc exo_tup), upd_ne (ne_of_none hc hnd)]; exact hc)
theorem oinit_okG {us : List Value} {Q : Value → Shared → Prop} (T : OexG X.K C j) (I : Inv X pins σ H s) (e : H a = some (exo a C none)) (hl : us.length ≤ sizeLine) (h : ∀ s', Inv X pins σ H s' → Q .none s') :
    wpAny (model X.prog X.w) A (call (.builtin j) (.ref a :: us)) Q E s := by
  obtain ⟨nm, q, N, bs, bm, sn, sub, ab, col, dd, k0, k1, k2, k3, k5, B, newId, bmB, hC, F, hT, hP, hO⟩ := T.cls
  obtain ⟨t1, ho⟩ := exo_at I.hok e
  obtain ⟨hp, g, d, t, os⟩ := s
  refine wpAny_call (PySem.HandSPX.init_base F hT (I.kIn _ _ hC) ho hl fun h' t2 k hx => ?_)
  have J := I.write (t' := t) (x := a) (e := a) (o := exo a C none) (by rw [e]; exact True.intro) (.inl rfl) k ⟨_, hx⟩ (exo_ok hx)
  have eu : upd H a (exo a C none) = H := by
    funext b
    by_cases hb : b = a
    · rw [hb, upd_same, e]
    · rw [upd_ne hb]
  rw [eu] at J
  exact h _ J
end
/-- B.__init__(self, ..) -/
def tVeG (K : PySem.W.Frag) (j : String) (ta : TA) : TE := fun σ H Q => ta σ H fun vs H1 => ∃ (a C : Addr) (ws : List V), vs = .ref a :: ws ∧ ws.length ≤ 1000 ∧ OexG K C j ∧ H1 a = some (exo a C none) ∧ Q .non H1
/-- self.f = e -/
def tOsG (K : PySem.W.Frag) (j : String) (f : Str) (to te : TE) : TS := fun D σ H => te σ H fun y H1 => to σ H1 fun x H2 => ∃ a C : Addr, x = .ref a ∧ OexG K C j ∧ PySem.W.findIn K (.ref C) f = some none ∧
  H2 a = some (exo a C none) ∧ ∀ dx, H2 dx = none → dx ≠ a → D.nx σ (upd (upd H2 dx (exd dx [(f, y)])) a (exo a C (some dx)))
structure BaseG (K : PySem.W.Frag) (B : Addr) (j : String) : Prop where
  sp : PySem.W.specialIn K (.ref B) "__getattribute__" = some (some (.builtin "type.__getattribute__"))
  rd : PySem.W.readsIn K B (.type "type") = true
  fi : PySem.W.findCls K (.ref B) (.type "type") "__init__" = some (.val (.builtin j))
  hn : PySem.W.handedIn (.builtin j) = true
section
variable {X : Cx} {o e : Expr} {es : List Expr} {to te : TE} {ta : TA} {f : Str} {p p' p1 p2 pos : Pos} {j : String} {x : Str} {B : Addr}
theorem pe_beinitG {pl : Sem Bool} (hg : Gl X x) (hm : X.mg x = some (.ref B)) (b : BaseG X.K B j) (ha : PA X (e :: es) ta)
    (hc : eval (.Call (.Attribute (.Name x p1) "__init__" p2) (e :: es) [] pos) X.env = (do
      let ov ← eval (.Name x p1) X.env
      standAt p2.atName
      let (f, first) ← holding [ov] (getMethod ov "__init__" pl)
      callWith pos f first (backTo pos (starEach (e :: es) X.env)) (backToKw pos (keywordEach [] X.env))) := by rfl)
    (hdb : (x == ("__debug__" : Str)) = false := by decide) (he : starEach (e :: es) X.env = (false, eval e X.env) :: starEach es X.env := by rfl) (hpl : (backTo pos (starEach es X.env)).any (·.1) = false := by rfl) :
    PE X (.Call (.Attribute (.Name x p1) "__init__" p2) (e :: es) [] pos) (tVeG X.K j ta) := by
  refine ⟨fun pins s σ H Q I h => ?_⟩
  refine PySem.W.methodCall_KW (ld_glob I hg hm ?_ hdb) hc
  refine PySem.W.method_cls I.kIn b.sp (PySem.W.cls_value I.kIn b.rd b.fi b.hn ?_)
  show wpAny _ _ (callWith pos (Value.builtin j) [] (backTo pos (starEach (e :: es) X.env)) []) _ _ _
  refine PyProof.Rows.callWith_method1 (thn (ha.run pos pins _ σ H _ (I.tok _) h) fun us s1 ⟨vs, H1, I1, r1, a, C, ws, ev, hl, T, ea, q⟩ => ?_) he hpl
  subst ev
  cases r1 with
  | @cons _ u0 _ ur ra rw' =>
    obtain rfl : u0 = Value.ref a := ra
    have hlen : ur.length ≤ sizeLine := by
      rw [← Paired.length rw', sizeLine_eq]
      omega
    exact oinit_okG T I1 ea hlen fun s' J => ⟨.non, H1, J, rfl, q⟩
theorem ps_ostG (ho : PE X o to) (he : PE X e te) (hs : swapsWith e (some (.Attribute o f p')) pos.line X.env = pure false := by rfl) : PS X (.Assign [.Attribute o f p'] e pos) (tOsG X.K j f to te) := by
  refine ⟨fun pins s σ H D I h => ?_⟩
  refine plainObj_wpAny_Assign_Attribute (thn (he.run pins s σ H _ I h) fun v s1 ⟨y, H1, I1, r1, q1⟩ => thn (ho.run pins s1 σ H1 _ I1 q1) fun u s2 ⟨x, H2, I2, r2, a, C, ex, T, hno, ea, q⟩ => ?_) hs
  subst ex
  obtain rfl : u = Value.ref a := r2
  exact ost_newG T I2 ea hno r1 fun dx s' n ne J => ⟨σ, _, J, q dx n ne⟩
end
section
variable {K : PySem.W.Frag}
theorem init_readG {C : Addr} {f m : Str} {a : Addr} {y : V} {H1 : Hp} {Q : VK} {j : String} (T : OexG K C j) (hno : PySem.W.findIn K (.ref C) f = some none) (ha : H1 a = none)
    (q : ∀ d, H1 d = none → d ≠ a → Q .non (upd (upd (upd H1 a (exo a C none)) d (exd d [(f, y)])) a (exo a C (some d)))) :
    tSeq (tDrop (tVeG K j (tCons (tVar 0) (tCons (tC (.str m)) tNil)))) (tSeq (tOsG K j f (tVar 0) (tVar 1)) tNext) { nx := fun _ H' => Q .non H', rt := Q } [some (.ref a), some y] (upd H1 a (exo a C none)) := by
  refine ⟨_, rfl, a, C, _, rfl, by simp, T, upd_same, ?_⟩
  refine ⟨_, rfl, _, rfl, a, C, rfl, T, hno, upd_same, fun d hd hne => q d ?_ hne⟩
  rw [upd_ne hne] at hd
  exact hd
end
/-- C(e, ..), C with an own __init__ over any built-in class -/
theorem pmk_oexG {X : Cx} {CX : CXT} {j : String} {x : Str} {C fI : Addr} {k : Nat} {fd : FuncData} {ps : List Str} {sp : Sp} {ds : List Value} {dvs : List V} {e : Expr} {es : List Expr} {ta : TA} {p pos : Pos} (T : OexG X.K C j) (iC : PySem.W.findIn X.K (.ref C) "__init__" = some (some (.ref fI))) (tI : PySem.W.typeIn X.K (.ref fI) = some (.type "function"))
    (F1 : FnOk X.prog X.w X.K X.mg X.base CX k fI fd ps sp) (hr : Room (k + 1) X.A) (hb : Binds X.K fd ps ds) (hd : Vals dvs ds) (hx : Passes CX X (fun _ _ _ => False)) (hg : Gl X x) (hm : X.mg x = some (.ref C)) (ha : PA X (e :: es) ta)
    (hdb : (x == ("__debug__" : Str)) = false := by decide) (he : starEach (e :: es) X.env = (false, eval e X.env) :: starEach es X.env := by rfl) (hpl : (backTo pos (starEach es X.env)).any (·.1) = false := by rfl) :
    L2N.PMk X (.Call (.Name x p) (e :: es) [] pos) (tMkO C sp dvs ta) := by
  intro pins s σ H Q I h
  obtain ⟨nm, q, N, bs, bm, sn, sub, ab, col, dd, k0, k1, k2, k3, k5, B, newId, bmB, hC, F, hT, hP, hO⟩ := T.cls
  refine wpAny_Call_Name_kw (ld_glob I hg hm ?_ hdb)
  refine PySem.W.callWith_K (h₀ := X.base) I.ok.mod.kin T.kC (thn (ha.run pos pins s σ H _ I h) fun us s1 ⟨vs, H1, I1, r1, hz, q1⟩ => ⟨I1.kIn, ?_⟩) he hpl
  show wpAny _ _ (call (.ref C) us) _ _ _
  obtain ⟨hp, g, dr, tk, os⟩ := s1
  have hsz : hp.objs.size ≤ hp.objs.size + 1 := Nat.le_succ _
  have hn : H1 (hp.objs.size + 1) = none := I1.hok.fresh hsz
  have hq := q1 (hp.objs.size + 1) hn
  have kk : ∀ b o, hp.get? b = some o → ((hp.push (PySem.W.kdv_tup us)).push (PySem.HandSPX.excO C hp.objs.size)).get? b = some o := fun b o e => Heap.get?_push_of_some _ (Heap.get?_push_of_some _ e)
  have hget : ((hp.push (PySem.W.kdv_tup us)).push (PySem.HandSPX.excO C hp.objs.size)).get? (hp.objs.size + 1) = some (PySem.HandSPX.excO C hp.objs.size) := by heap_get
  have I2 : Inv X pins σ (upd H1 (hp.objs.size + 1) (exo (hp.objs.size + 1) C none)) ⟨(hp.push (PySem.W.kdv_tup us)).push (PySem.HandSPX.excO C hp.objs.size), g, dr, tk, os⟩ :=
    I1.laid (t' := tk) (a := hp.objs.size + 1) (o := exo (hp.objs.size + 1) C none) (h' := (hp.push (PySem.W.kdv_tup us)).push (PySem.HandSPX.excO C hp.objs.size)) kk hsz (exo_ok hget)
  have r2 : Vals (V.ref (hp.objs.size + 1) :: (vs ++ dvs)) (Value.ref (hp.objs.size + 1) :: (us ++ ds)) := .cons rfl (r1.append hd)
  have hl : (Value.ref (hp.objs.size + 1) :: us ++ ds).length = ps.length := by
    have e := r2.length
    rw [F1.len _ _ _ _ hq] at e
    exact e.symm
  have hus : us.length ≤ sizeLine := by
    rw [← Paired.length r1, sizeLine_eq]
    omega
  refine wpAny_call (PySem.HandSPX.call_own F hT (I1.kIn _ _ hC) (PySem.W.looks_findIn I1.kIn iC) (fun self => PySem.W.bind_fn I1.kIn self tI) hus
    (codeAny_mono (F1.run _ X.stack _ _ ⟨Value.ref (hp.objs.size + 1) :: us, []⟩ (Value.ref (hp.objs.size + 1) :: (us ++ ds)) _ _ (fun _ _ _ => False) (hr.make C us []) (I2.env0.make C us []) (hb _ (Value.ref (hp.objs.size + 1) :: us) I2.kIn hl) r2 hq) fun r s' hq' => ?_))
  cases r with
  | error er => exact hx pins σ _ _ er s' I2 hq'
  | ok fl =>
    cases fl with
    | ret u =>
      obtain ⟨v, H2, os2, bare2, un2, hok2, rv, ev, d, fs, ea, ed, hd1, q2⟩ := hq'
      subst ev
      obtain ⟨h2, g2, d2, t2, os'⟩ := s'
      refine ⟨rv, ?_⟩
      obtain ⟨t0, G, J, kG, ge, hoe, na⟩ := mk_end0 (d2 := d2) (t2 := t2) I1 hsz kk un2 hok2 os2 bare2 ea ed hd1
      exact ⟨_, _, _, ⟨G, g2, d2, t2, os'⟩, _, .ref C, some d, rfl, J, kG, ge, hoe, ⟨rfl, rfl, fun vs e => by cases e; rfl⟩, rfl, rfl, na, rfl, bare2, raises_own T.exC T.tyC, q2⟩
    | next => exact False.elim hq'
    | brk => exact False.elim hq'
    | cont => exact False.elim hq'
end Kx
end
section
set_option maxHeartbeats 2000000
namespace Kx
open PySem PySem.Spec PyProof.Rows L2
section
variable [Tb] {K : PySem.W.Frag} {σ σ' : L2.St} {G G' M M1 M2 M3 : Hp} {ta tb te tc : TE} {P P1 P2 : VP} {D : Ends} {H : Hp} {u : TS} {E : XK}
/-- text.split(sep) -/
def splitO (a b : Str) : Option (List Str) := (grd ((b.length == 0) = false ∧ a.length + 2 ≤ sizeLine ∧ (Txt.split a b).all sok = true)).bind fun _ => some (Txt.split a b)
abbrev rSplitS : V → List V → Hp → VK → Prop := fun x xs H Q => ∃ a b, x = .str a ∧ xs = [.str b] ∧ (b.length == 0) = false ∧ a.length + 2 ≤ sizeLine ∧ rNewStrs (Txt.split a b) H Q
theorem ev_split {a b : Str} {ys : List Str} (h : splitO a b = some ys) (ha : Ev ta σ G M M1 (DD K (.str a))) (hb : Ev tb σ G M1 M2 (DD K (.str b))) : Ev (tM1 rSplitS ta tb) σ G M M2 (DD K (eL Dat.str ys)) := EvL.ev fun G0 H s k Q q => ha G0 H s k _ fun v G1 H1 s1 k1 hv => by
  obtain ⟨rfl, _⟩ := dq_str hv
  refine ⟨⟨a, rfl⟩, hb G1 H1 (s.trans s1) k1 _ fun w G2 H2 s2 k2 hw => ?_⟩
  obtain ⟨rfl, _⟩ := dq_str hw
  obtain ⟨_, h1, h2⟩ := bs h
  cases h2
  have z := grd_of h1
  refine ⟨a, b, rfl, rfl, z.1, z.2.1, fun p hp => ?_⟩
  exact newL (s1.trans s2) k2 (dqAll_strs fun x hx => List.all_eq_true.mp z.2.2 x hx) q p hp
end
end Kx
end
section
set_option maxHeartbeats 2000000
namespace Kx
open PySem PySem.Spec PyProof.Rows L2
/-! ### a while loop that may return -/
/-- int(text) -/
def intSO (x : Str) : Option Int := (grd (x.length ≤ 640)).bind fun _ => PySem.intText? x
section
variable [Tb] {K : PySem.W.Frag} {σ σ' : L2.St} {G G' M M1 M2 M3 : Hp} {ta tb te tc : TE} {P P1 P2 : VP} {D : Ends} {H : Hp} {u : TS} {E : XK}
theorem ev_joinL {a y : Str} {ys : List Str} (h : joinO a ys = some y) (ha : Ev ta σ G M M1 (DD K (.str a))) (hb : Ev tb σ G M1 M2 (DD K (eL Dat.str ys))) : Ev (tM1 (rJoinS K) ta tb) σ G M M2 (DD K (.str y)) := fun G0 H s k Q q => ha G0 H s k _ fun v G1 H1 s1 k1 hv => by
  obtain ⟨rfl, _⟩ := dq_str hv
  refine ⟨⟨a, rfl⟩, hb G1 H1 (s.trans s1) k1 _ fun w G2 H2 s2 k2 hw => ?_⟩
  obtain ⟨_, h1, h2⟩ := bs h
  cases h2
  have z := grd_of h1
  obtain ⟨p, vs, rfl, h3, h4⟩ := dp_list hw
  have e := dpAll_strs h4
  subst e
  exact ⟨a, p, ys, rfl, rfl, .inl (.inl (.inl (k2.g _ _ h3))), z.1, q _ G2 H2 (s1.trans s2) k2 (.str z.2)⟩
theorem ev_intS {x : Str} {i : Int} (h : intSO x = some i) (ha : EvA (tCons ta tNil) σ G M M1 (conP (DD K (.str x)) nilP)) : Ev (tCB (fun xs H Q => ∃ a n, xs = [.str a] ∧ PySem.intText? a = some n ∧ a.length ≤ 640 ∧ Q (.int n) H) (tCons ta tNil)) σ G M M1 (DD K (.int i)) := ev_cb ha fun xs G0 H s k hx Q q => by
  obtain ⟨v, rfl, hv⟩ := one_of (R := nilP) hx
  obtain ⟨rfl, _⟩ := dq_str hv
  obtain ⟨_, h1, h2⟩ := bs h
  exact ⟨x, i, rfl, h2, grd_of h1, q _ G0 H (Same.refl _) k (.int _)⟩
end
end Kx
end
section
set_option maxHeartbeats 2000000
namespace Kx
open PySem PySem.Spec PyProof.Rows L2
end Kx
end
section
set_option maxHeartbeats 2000000
namespace PySem.W
open PySem PySem.Spec PySem.Calls PyProof.Rows
section
variable {prog : Program} {w : World} {A : Around} {E : Value → Shared → Prop} {s : Shared} {K : Frag} {x C f : Addr} {ox : Obj} {od : Option Obj}
open Builtin in
/-- str(o), o of an own class with its own __str__ -/
theorem strK {Q : Value → Shared → Prop} (hu : A.in1.in1.units < cLine) (X : K.In s.heap) (I : InstAt s.heap x ox C od) (hs : findIn K (.ref C) "__str__" = some (some (.ref f))) (hf : isFn K (.ref f) = true)
    (h : wpAny (model prog w) A.in1.in1 (call (.ref f) [.ref x]) (StrBack Q) E s) : wpAny (model prog w) A (call (.type "str") [.ref x]) Q E s := by
  refine callType_codes (T := "str") (Bi := Builtin.«object.__init__») (Q₁ := fun r s₁ => ∃ y u, r = .str y u ∧ Q r s₁) PySem.F.called_str (PySem.F.typeCall_str_1 _) PySem.F.entry_object_init ?_ ?_
  · refine codeAny_of_tree ?_
    show wpAny _ A.in1.in1 (do checkBuiltinCall "str.__new__" ⟨[.type "str", .ref x], []⟩; again (.builtin "str.__new__" ⟨[.type "str", .ref x], []⟩)) _ _ s
    refine wpAny_bind (wpAny_of_eq (PySem.F.newCall_str_1 _) (wpAny_pure ⟨plainId_quiet (by decide +kernel) _, codeAny_builtin PySem.F.entry_str_new ?_⟩))
    rw [Around.under_plainId (by decide +kernel) _]
    rw [str_new_tree]
    refine wpAny_bind (wpAny_pure ?_)
    refine wpAny_bind (wpAny_of_eq isSubtype_str_str ?_)
    have key : wpAny (model prog w) A.in1.in1 (PySem.Builtin.Str.strOf (.ref x)) (fun r s₁ => ∃ y u, r = .str y u ∧ Q r s₁) E s := by
      unfold PySem.Builtin.Str.strOf
      rw [show PySem.Builtin.Str.isExactStr (.ref x) = false from rfl]
      refine wpAny_bind (m := cRoomFor _ _) (wpAny_cRoomFor hu ?_)
      refine wpAny_bind (m := callSpecial? (.ref x) (Str.ofString "__str__")) (special_fn X I hs (beq_iff_eq.mp hf) (wpAny_mono h (fun r s' z => ?_) fun _ _ y => y))
      cases r <;> first | exact z.elim | exact wpAny_pure ⟨_, _, rfl, z⟩
    exact wpAny_bind (wpAny_mono key (fun r s₁ hr => wpAny_pure hr) fun _ _ y => y)
  · rintro obj s₁ ⟨y, u, rfl, hq⟩
    exact ⟨typeIs_str _ _ _, PySem.F.args_object_init_2 _ _, object_init_meets PySem.F.called_str.init.lookup PySem.F.called_str.made (by decide) prog w A.in1 _ s₁ ⟨typeIs_str _ _ _, rfl, hq⟩⟩
end
end PySem.W
namespace Kx
open PySem PySem.Spec PyProof.Rows L2
/-! ### f-strings -/
def fmtS : List Str → Str
  | [] => Str.empty
  | x :: xs => x ++ fmtS xs
theorem len_app (a b : Str) : (a ++ b).length = a.length + b.length := by rw [TL.len_tl, TL.tl_append, List.length_append, TL.len_tl, TL.len_tl]
theorem app_assoc (a b c : Str) : (a ++ b) ++ c = a ++ (b ++ c) := TL.ext_tl (by simp only [TL.tl_append, List.append_assoc])
theorem app_nil (a : Str) : a ++ Str.empty = a := TL.ext_tl (by rw [TL.tl_append]; exact List.append_nil _)
theorem nil_app (a : Str) : Str.empty ++ a = a := TL.ext_tl (by rw [TL.tl_append]; exact List.nil_append _)
def fmtO (xs : List Str) : Option Str := (grd ((fmtS xs).length ≤ 16777216 ∧ sok (fmtS xs) = true)).bind fun _ => some (fmtS xs)
section
variable [Tb] {K : PySem.W.Frag} {σ : L2.St} {G M M1 M2 : Hp} {ta te : TE} {ts : List TE}
def EvJ (K : PySem.W.Frag) (ts : List TE) (σ : L2.St) (G M M1 : Hp) (xs : List Str) : Prop := ∀ (acc : Str) G0 H, Same G G0 → Ok G0 M H → (acc ++ fmtS xs).length ≤ sizeLine → ∀ Q : Str → Hp → Prop, (∀ G1 H1, Same G0 G1 → Ok G1 M1 H1 → Q (acc ++ fmtS xs) H1) → tJs ts acc σ H Q
theorem ej_nil : EvJ K [] σ G M M [] := fun acc G0 H s k _ Q q => by
  have := q G0 H (Same.refl _) k
  rw [show fmtS [] = Str.empty from rfl, app_nil] at this
  exact this
theorem ej_cons {x : Str} {xs : List Str} (ha : Ev ta σ G M M1 (DD K (.str x))) (hr : EvJ K ts σ G M1 M2 xs) : EvJ K (ta :: ts) σ G M M2 (x :: xs) := fun acc G0 H s k hl Q q => ha G0 H s k _ fun v G1 H1 s1 k1 hv => by
  cases hv
  have e : acc ++ fmtS (x :: xs) = (acc ++ x) ++ fmtS xs := (app_assoc _ _ _).symm
  rw [e] at hl q
  refine ⟨x, rfl, ?_, hr (acc ++ x) G1 H1 (s.trans s1) k1 hl Q fun G2 H2 s2 k2 => q G2 H2 (s1.trans s2) k2⟩
  rw [len_app] at hl
  omega
theorem ev_fmtS {x : Str} (hl : x.length ≤ 16777216) (ha : Ev ta σ G M M1 (DD K (.str x))) : Ev (tFmt ta) σ G M M1 (DD K (.str x)) := fun G0 H s k Q q => ha G0 H s k _ fun v G1 H1 s1 k1 hv => by
  have hv0 := hv
  cases hv
  exact .inl ⟨x, rfl, by rw [sizeLine_eq]; exact hl, q _ G1 H1 s1 k1 hv0⟩
def fitO (x : Str) : Option Str := (grd (x.length ≤ 16777216)).bind fun _ => some x
theorem ev_fmtSO {x y : Str} (h : fitO x = some y) (ha : Ev ta σ G M M1 (DD K (.str x))) : Ev (tFmt ta) σ G M M1 (DD K (.str y)) := by
  obtain ⟨_, h1, h2⟩ := bs h
  cases h2
  exact ev_fmtS (grd_of h1) ha
theorem ev_fmtI {i : Int} {x : Str} (h : strIO i = some x) (ha : Ev ta σ G M M1 (DD K (.int i))) : Ev (tFmt ta) σ G M M1 (DD K (.str x)) := fun G0 H s k Q q => ha G0 H s k _ fun v G1 H1 s1 k1 hv => by
  cases hv
  obtain ⟨_, h1, h2⟩ := bs h
  cases h2
  have z := grd_of h1
  exact .inr ⟨i, rfl, z.1, q _ G1 H1 s1 k1 (.str z.2)⟩
theorem ev_joined {xs : List Str} {x : Str} (h : fmtO xs = some x) (hj : EvJ K ts σ G M M1 xs) : Ev (fun σ H Q => tJs ts Str.empty σ H fun out H1 => Q (.str out) H1) σ G M M1 (DD K (.str x)) := fun G0 H s k Q q => by
  obtain ⟨_, h1, h2⟩ := bs h
  cases h2
  have z := grd_of h1
  refine hj Str.empty G0 H s k (by rw [nil_app, sizeLine_eq]; exact z.1) _ fun G1 H1 s1 k1 => ?_
  rw [nil_app]
  exact q _ G1 H1 s1 k1 (.str z.2)
end
/-! ### str(o), repr(o) by own methods -/
section
variable {X : Cx} {C f : Addr} {fd : FuncData} {ps : List Str} {sp : Sp} {k : Nat} {E : XK}
def rOwn1 (C : Addr) (sp : Sp) (E : XK) : List V → Hp → VK → Prop := fun xs H Q => ∃ a dx fs, xs = [.ref a] ∧ H a = some (.ins C dx fs) ∧ sp [.ref a] H (fun v H' => ∃ y, v = .str y ∧ Q (.str y) H') E
theorem own_call {A : Around} {pins : List (Addr × Obj)} {s : Shared} {σ : L2.St} {H : Hp} {a : Addr} {Q : VK} (F : FnOk X.prog X.w X.K X.mg X.base CX0 k f fd ps sp) (hb : Binds X.K fd ps []) (hx : Passes CX0 X E) (hr : Room k A) (I : Inv X pins σ H s) (e0 : Env0 X.prog X.w X.K X.mg X.base A X.stack s H)
    (h : sp [.ref a] H (fun v H' => ∃ y, v = .str y ∧ Q (.str y) H') E) : wpAny (model X.prog X.w) A (call (.ref f) [.ref a]) (PySem.W.StrBack (EP X pins σ Q)) X.xe s := by
  have hl := F.len _ _ _ _ h
  have r2 : Vals [V.ref a] [Value.ref a] := .cons rfl .nil
  refine wpAny_call (codeAny_mono (F.run A X.stack s H ⟨[.ref a], []⟩ [.ref a] [.ref a] _ E hr e0 (by
    have := hb s [.ref a] I.kIn (by simpa using hl)
    simpa using this) r2 h) fun r s' hq => ?_)
  cases r with
  | error e => exact hx pins σ H s e s' I hq
  | ok fl =>
    cases fl with
    | ret w =>
      obtain ⟨z, H', I', rz, y, ez, qq⟩ := I.after hq
      subst ez
      obtain ⟨t, rfl⟩ := rz
      exact ⟨.str y, H', I', ⟨t, rfl⟩, qq⟩
    | next => exact False.elim hq
    | brk => exact False.elim hq
    | cont => exact False.elim hq
theorem cl_strOwn (F : FnOk X.prog X.w X.K X.mg X.base CX0 k f fd ps sp) (hs : PySem.W.findIn X.K (.ref C) "__str__" = some (some (.ref f))) (hf : PySem.W.isFn X.K (.ref f) = true) (hb : Binds X.K fd ps []) (hr : Room (k + 2) X.A) (hx : Passes CX0 X E) : CallR X (.type "str") (rOwn1 C sp E) := by
  intro pins s σ H xs us Q I r h
  obtain ⟨a, dx, fs, rfl, ha, h⟩ := h
  cases r with
  | cons r1 r2 =>
    cases r2
    obtain rfl := r1
    obtain ⟨mA, J, _⟩ := ins_get I.hok ha
    obtain ⟨od, J, _⟩ := J.look
    have hr2 : Room k X.A.in1.in1 := hr.in1.in1
    have hu : X.A.in1.in1.units < cLine := by have := hr2.un; omega
    exact PySem.W.strK hu I.kIn J hs hf (own_call F hb hx hr2 I I.env0.in1.in1 h)
end
section
variable [Tb] {K : PySem.W.Frag} {σ : L2.St} {G M M1 : Hp} {ta : TE} {cn : Str} {ns : List Str} {ds : List Dat}
theorem ev_own1 {α : Type} {args : α → List V → Hp → Prop} {m : α → Option Str} {E : XK} {a : α} {r : Str} (hA : args a = conP (DD K (.ins cn ns ds)) nilP) (hm : m a = some r) (ha : EvA (tCons ta tNil) σ G M M1 (conP (DD K (.ins cn ns ds)) nilP)) :
    Ev (tCB (rOwn1 (clsAt K cn) (spP args m fun r => DD K (.str r)) E) (tCons ta tNil)) σ G M M1 (DD K (.str r)) := fun G0 H s k Q q => ha G0 H s k _ fun vs G1 H1 s1 k1 hv => by
  have hv0 := hv
  obtain ⟨v, ws, rfl, hv, rfl⟩ := hv
  obtain ⟨b, dx, fs, rfl, h1, h2, h3⟩ := dq_ins hv
  refine ⟨b, dx, fs, rfl, k1.g _ _ h1, G1, M1, a, r, k1, by rw [hA]; exact hv0, hm, fun v G2 H2 s2 k2 hr => ?_⟩
  have hr0 := hr
  cases hr
  exact ⟨r, rfl, q _ G2 H2 (s1.trans s2) k2 hr0⟩
end
/-! ### repr of a thing of any kind, texts, truths, the empty dict too -/
def rReprX (K : PySem.W.Frag) : List V → Hp → VK → Prop := fun xs H Q => rReprD K xs H Q ∨ (∃ z : Str, xs = [.str z] ∧ (reprText z).length ≤ sizeLine ∧ Q (.str (reprText z)) H) ∨ (∃ b : Bool, xs = [.bl b] ∧ Q (.str (if b then "True" else "False")) H) ∨ ∃ a : Addr, xs = [.ref a] ∧ Rd H a (.dK []) ∧ Q (.str "{}") H
theorem cl_reprX {X : Cx} {K : PySem.W.Frag} (hg : X.A.guards = some []) (hu : X.A.units + 64 < cLine) (hK : X.K = K) : CallR X (.builtin "repr") (rReprX K) := by
  intro pins s σ H xs us Q I r h
  rcases h with h | ⟨z, rfl, hz, q⟩ | ⟨b, rfl, q⟩ | ⟨a, rfl, hd, q⟩
  · exact cl_reprD hg hu hK pins s σ H xs us Q I r h
  · cases r with
    | cons r1 r2 =>
      cases r2
      obtain ⟨t, rfl⟩ := r1
      exact PySem.P.repr_of_str ⟨.str _, H, I.tok _, ⟨_, rfl⟩, q⟩ hz
  · cases r with
    | cons r1 r2 =>
      cases r2
      obtain rfl := r1
      exact PySem.P.repr_of_bool ⟨.str _, H, I.tok _, ⟨_, rfl⟩, q⟩
  · cases r with
    | cons r1 r2 =>
      cases r2
      obtain rfl := r1
      obtain ⟨_, hm, vs, kv, o, es, ep, e, ex, ed, _, pr, _⟩ := hd.ok I.hok
      have e0 : es.toList = [] := by
        cases kv
        generalize es.toList = l at pr
        cases pr
        rfl
      have rd : PySem.Reads s.heap (.ref a) (.dict []) (a :: [] ++ []) := .dict (kvs := []) e ex.1 ed (by rw [e0]; exact .nil) (by rw [e0]; exact .nil)
      refine repr_of_reads' rd (by decide +kernel) (fun _ hm2 => ?_) hg (by have : (PyData.dict []).depth = 1 := by decide +kernel
                                                                            omega) (fun _ _ e => e) (fun h' u tk kp => ⟨.str _, H, I.kept kp, ⟨_, rfl⟩, q⟩) (by decide +kernel)
      simp at hm2
      rw [hm2] at hm
      simp at hm
def reprX : Dat → Option Str
  | .str z => (grd ((reprText z).length ≤ 16777216 ∧ sok (reprText z) = true)).bind fun _ => some (reprText z)
  | .bool b => some (if b then Str.ofString "True" else Str.ofString "False")
  | .dK [] [] => some (Str.ofString "{}")
  | d => reprD d
section
variable {K : PySem.W.Frag} {σ : L2.St} {G M M1 : Hp} {ta : TE} {d : Dat}
theorem ev_reprX [Tb] {x : Str} (hx : reprX d = some x) (ha : EvA (tCons ta tNil) σ G M M1 (conP (DD K d) nilP)) : Ev (tCB (rReprX K) (tCons ta tNil)) σ G M M1 (DD K (.str x)) := by
  have old : reprD d = some x → Ev (tCB (rReprX K) (tCons ta tNil)) σ G M M1 (DD K (.str x)) := fun h => ev_cb ha fun xs G0 H s k hxs Q q => by
    obtain ⟨v, rfl, hv⟩ := one_of (R := nilP) hxs
    have e : Ev (tCB (rReprD K) (tCons (fun σ H Q => Q v H) tNil)) ([] : L2.St) G0 M1 M1 (DD K (.str x)) := ev_reprD (d := d) h (ea_cons mo_dd (fun G1 H1 s1 k1 Q1 q1 => q1 v G1 H1 (Same.refl _) k1 (dp_up s1 d hv)) ea_nil)
    have := e G0 H (Same.refl _) k Q q
    exact .inl this
  cases d with
  | str z =>
    obtain ⟨_, h1, h2⟩ := bs (show ((grd ((reprText z).length ≤ 16777216 ∧ sok (reprText z) = true)).bind fun _ => some (reprText z)) = some x from hx)
    cases h2
    have g := grd_of h1
    exact ev_cb ha fun xs G0 H s k hxs Q q => by
      obtain ⟨v, rfl, hv⟩ := one_of (R := nilP) hxs
      cases hv
      exact .inr (.inl ⟨z, rfl, by rw [sizeLine_eq]; exact g.1, q _ G0 H (Same.refl _) k (.str g.2)⟩)
  | bool b =>
    cases hx
    exact ev_cb ha fun xs G0 H s k hxs Q q => by
      obtain ⟨v, rfl, hv⟩ := one_of (R := nilP) hxs
      cases hv
      refine .inr (.inr (.inl ⟨b, rfl, q _ G0 H (Same.refl _) k (.str ?_)⟩))
      cases b <;> decide +kernel
  | dK ks ds =>
    cases ks with
    | nil =>
      cases ds with
      | nil =>
        cases hx
        exact ev_cb ha fun xs G0 H s k hxs Q q => by
          obtain ⟨v, rfl, hv⟩ := one_of (R := nilP) hxs
          cases hv with
          | @dK a kvs _ _ h1 h2 h3 h4 =>
            have : kvs = [] := List.map_eq_nil_iff.mp h2
            subst this
            exact .inr (.inr (.inr ⟨a, rfl, rd_up k.g h1, q _ G0 H (Same.refl _) k (.str (by decide +kernel))⟩))
      | cons a b => exact old hx
    | cons a b => exact old hx
  | none => exact old hx
  | int i => exact old hx
  | list b => exact old hx
  | tuple b => exact old hx
  | rtup b => exact old hx
  | dT a b => exact old hx
  | ins a b c => exact old hx
end
end Kx
end
section
set_option maxHeartbeats 2000000
namespace Kx
open PySem PySem.Spec PyProof.Rows L2
/-! ### a call by places and names: f(a, b, k = v) (pe_callN); parameters behind a star -/
end Kx
end
section
set_option maxHeartbeats 2000000
namespace PyProof.Rows
open PySem PySem.Spec
end PyProof.Rows
namespace Kx
open PySem L2 PySem.Spec PyProof.Rows PySem.W
/-! ### sorted(flat tuples) -/
def kD : Key → Dat
  | .inl i => .int i
  | .inr z => .str z
def kShape (sh : Nat → Bool) : Nat → List Key → Prop
  | _, [] => True
  | i, .inl _ :: r => sh i = false ∧ kShape sh (i + 1) r
  | i, .inr _ :: r => sh i = true ∧ kShape sh (i + 1) r
/-- a value that is a flat tuple of this key -/
def KeyV (K : PySem.W.Frag) (sh : Nat → Bool) (H : Hp) (x : V) (ks : List Key) : Prop := ∃ t, x = .ref t ∧ SqT K H t (ks.map kV) ∧ kShape sh 0 ks ∧ ks ≠ []
section
variable {β : Type} {K : PySem.W.Frag} {σ σ' : L2.St} {G G' M M1 M2 M3 : Hp} {ta tb te tc : TE} {e : β → Dat} {f : β → List Key} {sh : Nat → Bool}
theorem KeyV.up {G G' : Hp} (g : ∀ a o, G a = some o → G' a = some o) {x : V} {ks : List Key} (h : KeyV K sh G x ks) : KeyV K sh G' x ks := by
  obtain ⟨t, e, h1, h2⟩ := h
  exact ⟨t, e, sqT_up g h1, h2⟩
end
end Kx
end
section
set_option maxHeartbeats 2000000
namespace Kx
open PySem L2 PySem.Spec PyProof.Rows
/-! ### o.m(k = v, ..), by names alone -/
end Kx
end
section
set_option maxHeartbeats 2000000
namespace PySem.W
open PySem PySem.Calls PySem.Spec PyProof.Rows
/-! ### != by an own __eq__ -/
theorem on_bind (self : Value) : bindSpecial (.builtin "object.__ne__") self = pure (.builtin "object.__ne__", [self]) :=
  (Slot.of (T := "object") (name := "__ne__") (owner := "object") (n := "__ne__") (by rw [typeLookup_type, builtinLookup_eq_fast]; kernel_rfl) (by decide +kernel) (by decide +kernel) (by decide +kernel)
    (.inl (by decide +kernel)) (by rw [isSubtype_type]; kernel_rfl)).bind self
theorem on_plain : plainId "object.__ne__" = true := by decide +kernel
section
variable {prog : Program} {w : World} {A : Around} {E : Value → Shared → Prop} {s : Shared} {K : Frag} {x C L f : Addr} {h₀ : Heap} {m : Str → Option Value} {ox : Obj} {od : Option Obj} {b tb : Value}
theorem objNe_K (hu : A.units < cLine) (X : K.In s.heap) (I : InstAt s.heap x ox C od) (hs : findIn K (.ref C) "__eq__" = some (some (.ref f))) (hf : isFn K (.ref f) = true) {Q : Fin → Shared → Prop}
    (hcall : wpAny (model prog w) A (call (.ref f) [.ref x, b]) (fun v s' => ∃ r, v = .bool r ∧ Q (.done (.ret (.bool (!r)))) s') E s) :
    wpAny (model prog w) A (Builtin.«object.__ne__» ⟨[.ref x, b], []⟩) Q E s := by
  obtain ⟨h, g, d, t, os⟩ := s
  unfold Builtin.«object.__ne__»
  repeat (first
    | with_reducible refine wpAny_cRoomFor hu ?_
    | (refine wpAny_bind (m := callSpecialIfBound? (.ref x) (Str.ofString "__eq__") [b])
        (ifBound_K X I hs hf (wpAny_mono hcall (fun r s' hr => by
          obtain ⟨b, rfl, hq⟩ := hr
          repeat (first | exact hq | exact wpAny_pure hq | exact wpAny_truthy_bool hq | (refine wpAny_bind (m := truthy (.bool _)) (wpAny_truthy_bool ?_)) | wp_step)) fun _ _ e => e)))
    | wp_step)
theorem ne_K {Q : Value → Shared → Prop} (hu : A.units + 1 < cLine) (fr : Fr h₀ L s.heap m) (X₀ : K.In h₀) (I : InstAt s.heap x ox C od) (hb : Looks (model prog w) s.heap (typeOf b) tb) (hn : notFirst K C tb = true) (hm : makesIn K C = true)
    (hne : findIn K (.ref C) "__ne__" = some (some (.builtin "object.__ne__"))) (hs : findIn K (.ref C) "__eq__" = some (some (.ref f))) (hf : isFn K (.ref f) = true)
    (h : wpAny (model prog w) A.in1 (call (.ref f) [.ref x, b]) (fun v s' => ∃ r, v = .bool r ∧ Q (.bool (!r)) s') E s) : wpAny (model prog w) A (richCompare .NotEq (.ref x) b) Q E s := by
  have X := X₀.keeps fr.keep
  have Y := makes_of (M := model prog w) X hm
  have t2 : Looks (model prog w) s.heap (isInstance (.ref x) (.type "object")) true := I.type.andThen Y.top
  have one : wpAny (model prog w) A (tryCompare (.ref x) "__ne__" b) (fun r s' => ∃ v, r = some v ∧ Q v s') E s := by
    unfold tryCompare
    simp only [callSpecialIfBound?, bindSpecialIfBound?]
    have fin : wpAny (model prog w) A (call (.builtin "object.__ne__") ([.ref x] ++ [b])) (fun v s' => ∃ r, v = .bool r ∧ Q (.bool r) s') E s := by
      refine wpAny_call (codeAny_call_builtin on_plain PySem.F.cmpEntry_ne (@check_slot (model prog w) _ _ _ "object.__ne__" "object" "__ne__" (.ref x) [b] [] _ PySem.F.cmpKind_ne PySem.F.cmpSplit_ne t2 (PySem.F.cmpArgs_ne _ _) ?_))
      refine objNe_K (A := A.in1) (by show A.units + 1 < cLine; exact hu) X I hs hf (wpAny_mono h (fun v s' hv => ?_) fun _ _ e => e)
      obtain ⟨r, rfl, hq⟩ := hv
      first | exact ⟨r, rfl, !r, rfl, hq⟩ | exact ⟨r, rfl, ⟨!r, rfl, hq⟩⟩
    refine wpAny_bind (wpAny_holding (wpAny_bind (wpAny_bind (wpAny_bind (I.type.here ((looks_findIn X hne).here ?_))))))
    refine wpAny_bind (wpAny_askSetting (wpAny_ite ?_))
    have fin2 : wpAny (model prog w) A (call (.builtin "object.__ne__") ([.ref x] ++ [b]) >>= fun v => pure (some v)) (fun r s' => wpAny (model prog w) A (match r with
      | some .notImplemented | none => pure none
      | some v => pure (some v)) (fun r s' => ∃ v, r = some v ∧ Q v s') E s') E s := wpAny_bind (wpAny_mono fin (fun v s' hv => by
        obtain ⟨r, rfl, hq⟩ := hv
        exact wpAny_pure (wpAny_pure ⟨_, rfl, hq⟩)) fun _ _ e => e)
    split
    · exact wpAny_bind ((Looks.of_pure (on_bind (.ref x))).here (wpAny_pure (by exact fin2)))
    · exact wpAny_tryCatch (wpAny_bind ((Looks.of_pure (on_bind (.ref x))).here (wpAny_pure (by exact fin2))))
  unfold richCompare
  simp only [oneThing_ref]
  refine wpAny_holding (wpAny_bind (wpAny_cRoomFor (Nat.lt_of_succ_lt hu) ?_))
  refine wpAny_bind (I.type.here (wpAny_bind (hb.here ?_)))
  split
  · rename_i q
    have e : subIn K tb (.ref C) = some false := by
      rcases Bool.or_eq_true_iff.mp hn with e | e
      · rw [beq_iff_eq.mp e] at q; simp at q
      · exact beq_iff_eq.mp e
    refine wpAny_bind ((looks_subIn X e).here ?_)
    simp only [Bool.false_eq_true, if_false]
    refine wpAny_bind (wpAny_mono one (fun r s' z => ?_) fun _ _ e => e)
    obtain ⟨v, rfl, hq⟩ := z
    exact wpAny_pure hq
  · refine wpAny_bind (wpAny_pure ?_)
    simp only [Bool.false_eq_true, if_false]
    refine wpAny_bind (wpAny_mono one (fun r s' z => ?_) fun _ _ e => e)
    obtain ⟨v, rfl, hq⟩ := z
    exact wpAny_pure hq
end
end PySem.W
namespace Kx
open PySem L2 PySem.Spec PyProof.Rows
/-! ### x == y, x != y of two instances with an own __eq__ -/
def rCmpOwn (C : Addr) (sp : Sp) (E : XK) (neg : Bool) : R2 := fun x y H Q => ∃ a b dx dy fs gs, x = .ref a ∧ y = .ref b ∧ H a = some (.ins C dx fs) ∧ H b = some (.ins C dy gs) ∧ sp [.ref a, .ref b] H (fun v H' => ∃ r, v = .bl r ∧ Q (.bl (if neg then !r else r)) H') E
section
variable {X : Cx} {CX : CXT} {k : Nat} {C f : Addr} {fd : FuncData} {ps : List Str} {sp : Sp} {E : XK}
theorem cmp_call {A : Around} (F : FnOk X.prog X.w X.K X.mg X.base CX k f fd ps sp) (hr : Room k A) (fr : A.frames = X.A.frames) (hb : Binds X.K fd ps []) (hx : Passes CX X E) {pins : List (Addr × Obj)} {s : Shared} {σ : L2.St} {H : Hp} {a b : Addr} {Q : VK}
    (I : Inv X pins σ H s) (hsp : sp [.ref a, .ref b] H Q E) : wpAny (model X.prog X.w) A (call (.ref f) [.ref a, .ref b]) (EP X pins σ Q) X.xe s := by
  have e0 : Env0 X.prog X.w X.K X.mg X.base A X.stack s H := by
    have e := I.env0
    exact ⟨by rw [fr]; exact e.frames, e.mod, e.bs, e.bsz, e.funs, e.frf, e.hok, e.bare⟩
  have hl := F.len _ _ _ _ hsp
  have r2 : Vals [V.ref a, V.ref b] [Value.ref a, Value.ref b] := .cons rfl (.cons rfl .nil)
  refine wpAny_call (codeAny_mono (F.run A X.stack s H ⟨[.ref a, .ref b], []⟩ [.ref a, .ref b] [.ref a, .ref b] Q E hr e0 (by
    have := hb s [.ref a, .ref b] I.kIn (by simpa using hl)
    simpa using this) r2 hsp) fun r s' hq => ?_)
  cases r with
  | error e => exact hx pins σ H s e s' I hq
  | ok fl =>
    cases fl with
    | ret u => exact I.after hq
    | next => exact False.elim hq
    | brk => exact False.elim hq
    | cont => exact False.elim hq
theorem op_eqOwn (F : FnOk X.prog X.w X.K X.mg X.base CX k f fd ps sp) (hr : Room (k + 1) X.A) (hs : PySem.W.findIn X.K (.ref C) "__eq__" = some (some (.ref f))) (hf : PySem.W.isFn X.K (.ref f) = true) (hb : Binds X.K fd ps []) (hx : Passes CX X E) : OpR X (compareOp .Eq) (rCmpOwn C sp E false) := by
  intro pins s σ H x y v u Q I rx ry h
  obtain ⟨a, b, dx, dy, fs, gs, rfl, rfl, ha, hb', hsp⟩ := h
  cases rx
  cases ry
  obtain ⟨mA, J, _⟩ := ins_get I.hok ha
  obtain ⟨mB, J', _⟩ := ins_get I.hok hb'
  obtain ⟨od, J, _⟩ := J.look
  obtain ⟨od', J', _⟩ := J'.look
  obtain ⟨m, hF⟩ := I.fr
  show wpAny (model X.prog X.w) X.A (richCompare .Eq (.ref a) (.ref b)) (EP X pins σ Q) X.xe s
  refine PySem.W.cmp_K (op := .Eq) (tb := .ref C) hr.units0 hF I.ok.mod.kin J J'.type (by simp [PySem.W.notFirst]) hs hf (wpAny_mono (cmp_call F (hr.mono (Nat.le_succ _)) rfl hb hx I hsp) (fun w' s' z => ?_) fun _ _ e => e)
  obtain ⟨z, H', I', rz, r, ez, q⟩ := z
  subst ez
  cases rz
  exact ⟨.bl r, H', I', rfl, q⟩
theorem op_neOwn (F : FnOk X.prog X.w X.K X.mg X.base CX k f fd ps sp) (hr : Room (k + 1) X.A) (hm : PySem.W.makesIn X.K C = true) (hne : PySem.W.findIn X.K (.ref C) "__ne__" = some (some (.builtin "object.__ne__"))) (hs : PySem.W.findIn X.K (.ref C) "__eq__" = some (some (.ref f))) (hf : PySem.W.isFn X.K (.ref f) = true) (hb : Binds X.K fd ps []) (hx : Passes CX X E) : OpR X (compareOp .NotEq) (rCmpOwn C sp E true) := by
  intro pins s σ H x y v u Q I rx ry h
  obtain ⟨a, b, dx, dy, fs, gs, rfl, rfl, ha, hb', hsp⟩ := h
  cases rx
  cases ry
  obtain ⟨mA, J, _⟩ := ins_get I.hok ha
  obtain ⟨mB, J', _⟩ := ins_get I.hok hb'
  obtain ⟨od, J, _⟩ := J.look
  obtain ⟨od', J', _⟩ := J'.look
  obtain ⟨m, hF⟩ := I.fr
  show wpAny (model X.prog X.w) X.A (richCompare .NotEq (.ref a) (.ref b)) (EP X pins σ Q) X.xe s
  refine PySem.W.ne_K (tb := .ref C) (by have := hr.un; omega) hF I.ok.mod.kin J J'.type (by simp [PySem.W.notFirst]) hm hne hs hf (wpAny_mono (cmp_call F hr.in1 rfl hb hx I hsp) (fun w' s' z => ?_) fun _ _ e => e)
  obtain ⟨z, H', I', rz, r, ez, q⟩ := z
  subst ez
  cases rz
  exact ⟨r, rfl, .bl (!r), H', I', rfl, q⟩
end
section
variable {α : Type} {K : PySem.W.Frag} {σ σ' : L2.St} {G G' M M1 M2 M3 H : Hp} {ta tb : TE} {cn : String} {ns : List Str} {ds es : List Dat}
theorem ev_cmpOwn [Tb] {args : α → List V → Hp → Prop} {m : α → Option Bool} {E : XK} {a : α} {r : Bool} {neg : Bool} (hA : args a = conP (DD K (.ins cn ns ds)) (conP (DD K (.ins cn ns es)) nilP)) (hm : m a = some r)
    (ha : Ev ta σ G M M1 (DD K (.ins cn ns ds))) (hb : Ev tb σ G M1 M2 (DD K (.ins cn ns es))) : Ev (tOp (rCmpOwn (clsAt K cn) (spP args m fun b => DD K (.bool b)) E neg) ta tb) σ G M M2 (DD K (.bool (if neg then !r else r))) := ev_op mo_dd ha hb fun x y G0 H s k hx hy Q q => by
  obtain ⟨a1, dx, fs, rfl, h1, h2, _⟩ := dq_ins hx
  obtain ⟨b1, dy, gs, rfl, h3, h4, _⟩ := dq_ins hy
  subst h2
  refine ⟨a1, b1, dx, dy, fs, gs, rfl, rfl, k.g _ _ h1, k.g _ _ h3, G0, M2, a, r, k, by rw [hA]; exact ⟨_, _, rfl, hx, _, _, rfl, hy, rfl⟩, hm, fun v G3 H3 s3 k3 hr => ?_⟩
  cases hr
  exact ⟨r, rfl, q _ G3 H3 s3 k3 (.bl _)⟩
end
end Kx
end
section
set_option maxHeartbeats 2000000
namespace Kx
open PySem L2
/-! ### an own list lent to an expression whose value has no list -/
mutual
def noL : Dat → Bool
  | .none => true
  | .bool _ => true
  | .int _ => true
  | .str _ => true
  | .tuple ds => noLs ds
  | _ => false
def noLs : List Dat → Bool
  | [] => true
  | d :: ds => noL d && noLs ds
end
theorem noL_O {α : Type} {e : α → Dat} (h : ∀ x, noL (e x) = true) : ∀ o, noL (eO e o) = true
  | none => rfl
  | some x => h x
def drop (G : Hp) (p : Addr) : Hp := fun a => if a = p then none else G a
theorem drop_same {G : Hp} {p : Addr} : drop G p p = none := if_pos rfl
theorem drop_ne {G : Hp} {p a : Addr} (h : a ≠ p) : drop G p a = G a := if_neg h
theorem drop_of {G : Hp} {p a : Addr} {o : HO} (h : drop G p a = some o) : a ≠ p ∧ G a = some o := by
  by_cases q : a = p
  · subst q; rw [drop_same] at h; cases h
  · rw [drop_ne q] at h; exact ⟨q, h⟩
theorem drop_hp {M : Hp} {p a : Addr} {o : HO} (n : a ≠ p) (h : M a = some o) : drop M p a = some o := by rw [drop_ne n]; exact h
section
variable {K : PySem.W.Frag} {G : Hp} {p : Addr} {xs0 : List V}
mutual
theorem dq_drop (hp : G p = some (.lst xs0)) : ∀ (d : Dat) {v : V}, noL d = true → Dq K G v d → Dq K (drop G p) v d
  | .none, _, _, h => by cases h; exact .non
  | .bool b, _, _, h => by cases h; exact .bl b
  | .int i, _, _, h => by cases h; exact .int i
  | .str x, _, _, h => by cases h with | str h => exact .str h
  | .tuple ds, _, n, h => by
    have n : noLs ds = true := by unfold noL at n; exact n
    cases h with
    | tup a b =>
      refine .tup ?_ (dqAll_drop hp ds n b)
      rcases a with ⟨o, e, q⟩ | a
      · refine .inl ⟨o, ?_, q⟩
        rw [drop_ne (fun z => by subst z; rw [hp] at e; cases e)]
        exact e
      · exact .inr a
  | .list _, _, n, _ => by simp [noL] at n
  | .rtup _, _, n, _ => by simp [noL] at n
  | .dK _ _, _, n, _ => by simp [noL] at n
  | .dT _ _, _, n, _ => by simp [noL] at n
  | .ins _ _ _, _, n, _ => by simp [noL] at n
theorem dqAll_drop (hp : G p = some (.lst xs0)) : ∀ (ds : List Dat) {vs : List V}, noLs ds = true → DqAll K G vs ds → DqAll K (drop G p) vs ds
  | [], _, _, h => by cases h; exact .nil
  | d :: ds, _, n, h => by
    have n : noL d = true ∧ noLs ds = true := by unfold noLs at n; exact Bool.and_eq_true_iff.mp n
    cases h with
    | cons a b => exact .cons (dq_drop hp d n.1 a) (dqAll_drop hp ds n.2 b)
end
end
section
variable {K : PySem.W.Frag} {σ : L2.St} {G M : Hp} {te : TE} {d : Dat} {p : Addr} {vs : List V}
theorem lend_ok [Tb] {G0 M H : Hp} (k : Ok G0 M H) (hp : M p = some (.lst vs)) : Ok (upd G0 p (.lst vs)) (drop M p) H := by
  refine ⟨fun a o e => ?_, fun a o e => ?_, fun a o e => ?_, fun a o e => ?_, tb_G k.tb trivial⟩
  · by_cases q : a = p
    · subst q; rw [upd_same] at e; cases e; exact k.m _ _ hp
    · rw [upd_ne q] at e; exact k.g _ _ e
  · exact k.m _ _ (drop_of e).2
  · obtain ⟨q, e⟩ := drop_of e
    rw [upd_ne q]
    exact k.d _ _ e
  · exact k.mu _ _ (drop_of e).2
theorem lend_back [Tb] {G0 M H G1 H1 : Hp} (k : Ok G0 M H) (hp : M p = some (.lst vs)) (s : Same (upd G0 p (.lst vs)) G1) (k1 : Ok G1 (drop M p) H1) : Same G0 (drop G1 p) ∧ Ok (drop G1 p) M H1 := by
  have g1 : G1 p = some (.lst vs) := s _ _ upd_same
  refine ⟨fun a o e => ?_, fun a o e => ?_, fun a o e => ?_, fun a o e => ?_, k.mu, ⟨k1.tb.t, fun a o e => k1.tb.n a o (drop_of e).2⟩⟩
  · have q : a ≠ p := fun z => by subst z; rw [k.d _ _ hp] at e; cases e
    rw [drop_ne q]
    exact s _ _ (by rw [upd_ne q]; exact e)
  · exact k1.g _ _ (drop_of e).2
  · by_cases q : a = p
    · subst q; rw [hp] at e; cases e; exact k1.g _ _ g1
    · exact k1.m _ _ (drop_hp q e)
  · by_cases q : a = p
    · subst q; exact drop_same
    · rw [drop_ne q]; exact k1.d _ _ (drop_hp q e)
/-- the list at p is lent: within, it is data -/
theorem ev_lend [Tb] (hp : M p = some (.lst vs)) (hn : noL d = true) (h : ∀ G', G' p = some (.lst vs) → Same G G' → Ev te σ G' (drop M p) (drop M p) (DD K d)) : Ev te σ G M M (DD K d) := fun G0 H s k Q q => by
  refine h (upd G0 p (.lst vs)) upd_same (fun a o e => ?_) _ H (Same.refl _) (lend_ok k hp) Q fun v G1 H1 s1 k1 hv => ?_
  · have n : a ≠ p := fun z => by subst z; have := s _ _ e; rw [k.d _ _ hp] at this; cases this
    rw [upd_ne n]
    exact s _ _ e
  · obtain ⟨a, b⟩ := lend_back k hp s1 k1
    exact q v _ H1 a b (dq_drop (s1 _ _ upd_same) d hn hv)
/-- in a test -/
theorem et_lend [Tb] {tt : TT} {b : Bool} (hp : M p = some (.lst vs)) (h : ∀ G', G' p = some (.lst vs) → Same G G' → EvT tt σ G' (drop M p) (drop M p) b) : EvT tt σ G M M b := fun G0 H s k Q q => by
  refine h (upd G0 p (.lst vs)) upd_same (fun a o e => ?_) _ H (Same.refl _) (lend_ok k hp) Q ?_
  · have n : a ≠ p := fun z => by subst z; have := s _ _ e; rw [k.d _ _ hp] at this; cases this
    rw [upd_ne n]
    exact s _ _ e
  · intro G1 H1 s1 k1
    obtain ⟨a, b⟩ := lend_back k hp s1 k1
    exact q _ H1 a b
theorem noLs_map {α : Type} {e : α → Dat} (h : ∀ x, noL (e x) = true) : ∀ xs : List α, noLs (xs.map e) = true
  | [] => by unfold noLs; rfl
  | x :: xs => by
    rw [List.map_cons]
    unfold noLs
    rw [h x, noLs_map h xs]
    rfl
/-- .. to an expression that makes a new list -/
theorem el_lend [Tb] {ds : List Dat} (hp : M p = some (.lst vs)) (hn : noLs ds = true) (h : ∀ G', G' p = some (.lst vs) → Same G G' → EvL K te σ G' (drop M p) (drop M p) ds) : EvL K te σ G M M ds := fun G0 H s k Q q => by
  refine h (upd G0 p (.lst vs)) upd_same (fun a o e => ?_) _ H (Same.refl _) (lend_ok k hp) Q fun p1 vs1 G1 H1 s1 k1 hM hv => ?_
  · have n : a ≠ p := fun z => by subst z; have := s _ _ e; rw [k.d _ _ hp] at this; cases this
    rw [upd_ne n]
    exact s _ _ e
  · have g1 : G1 p = some (.lst vs) := s1 _ _ upd_same
    have np : p1 ≠ p := fun z => by
      subst z
      have := k1.d p1 _ upd_same
      rw [g1] at this
      cases this
    have hM' : M p1 = none := by rw [drop_ne np] at hM; exact hM
    have eM : upd (drop M p) p1 (.lst vs1) = drop (upd M p1 (.lst vs1)) p := by
      funext a
      by_cases q1 : a = p1
      · subst q1; rw [upd_same, drop_ne np, upd_same]
      · rw [upd_ne q1]
        by_cases q2 : a = p
        · subst q2; rw [drop_same, drop_same]
        · rw [drop_ne q2, drop_ne q2, upd_ne q1]
    rw [eM] at k1
    have hp1 : (upd M p1 (.lst vs1)) p = some (.lst vs) := by rw [upd_ne (Ne.symm np)]; exact hp
    refine q p1 vs1 (drop G1 p) H1 (fun a o e => ?_) ⟨fun a o e => ?_, fun a o e => ?_, fun a o e => ?_, fun a o e => ?_, ⟨k1.tb.t, fun a o e => k1.tb.n a o (drop_of e).2⟩⟩ hM' (dqAll_drop g1 ds hn hv)
    · have q : a ≠ p := fun z => by subst z; rw [k.d _ _ hp] at e; cases e
      rw [drop_ne q]
      exact s1 _ _ (by rw [upd_ne q]; exact e)
    · exact k1.g _ _ (drop_of e).2
    · by_cases q : a = p
      · subst q; rw [hp1] at e; cases e; exact k1.g _ _ g1
      · exact k1.m _ _ (drop_hp q e)
    · by_cases q : a = p
      · subst q; exact drop_same
      · rw [drop_ne q]; exact k1.d _ _ (drop_hp q e)
    · by_cases q : a = p1
      · subst q; rw [upd_same] at e; cases e; exact trivial
      · rw [upd_ne q] at e; exact k.mu _ _ e
end
/-! ### pairs of texts: < -/
def rLtD (K : PySem.W.Frag) : R2 := fun x y H Q => ∃ d e, Dp K H x d ∧ Dp K H y e ∧ PySem.W.alike d e = true ∧ d ≠ .none ∧ min d.depth e.depth ≤ 64 ∧ Q (.bl (PySem.W.dataLt d e)) H
theorem op_ltD {X : Cx} {K : PySem.W.Frag} (hu : X.A.units + 64 < cLine) (hK : X.K = K := by rfl) : OpR X (compareOp .Lt) (rLtD K) := by
  subst hK
  intro pins s σ H x y v u Q I rx ry h
  obtain ⟨d, e, hd, he, al, hn, hm, q⟩ := h
  obtain ⟨as, r1⟩ := Dp.reads I d x v hd rx
  obtain ⟨bs, r2⟩ := Dp.reads I e y u he ry
  exact PySem.W.lt_data r1 r2 al hn (by omega) ⟨.bl _, H, I, rfl, q⟩
theorem ev_ltPP [Tb] {K : PySem.W.Frag} {σ : L2.St} {G M M1 M2 : Hp} {ta tb : TE} {a b : Str × Str} (ha : Ev ta σ G M M1 (DD K (.tuple [.str a.1, .str a.2]))) (hb : Ev tb σ G M1 M2 (DD K (.tuple [.str b.1, .str b.2]))) : Ev (tOp (rLtD K) ta tb) σ G M M2 (DD K (.bool (ltP a b))) := ev_op mo_dd ha hb fun x y G0 H s k hx hy Q q => by
  have e : ∀ c : Str × Str, toPy (.tuple [.str c.1, .str c.2]) = .tuple [.str c.1, .str c.2] := fun c => by rw [toPy_tuple]; simp [toPy]
  have p : ∀ c : Str × Str, pur (.tuple [.str c.1, .str c.2]) = true := fun c => by simp [pur, purs]
  have h1 := dq_dp _ (p a) (dp_up k.g _ hx)
  have h2 := dq_dp _ (p b) (dp_up k.g _ hy)
  rw [e] at h1 h2
  refine ⟨_, _, h1, h2, by simp [PySem.W.alike, PySem.W.alikeAll], by simp, by simp [PyData.depth, PyData.depthAll], ?_⟩
  rw [dataLt_pair]
  exact q _ G0 H (Same.refl _) k (.bl _)
/-! ### a comprehension with a test whose elements draw -/
def mapFS {α β : Type} (f : α → Sto → Option (Option β × Sto)) : List α → Sto → Option (List β × Sto)
  | [], z => some ([], z)
  | x :: xs, z => (f x z).bind fun y => (mapFS f xs y.2).bind fun ys => some (y.1.toList ++ ys.1, ys.2)
def lcFS {α β : Type} (f : α → Sto → Option (Option β × Sto)) (xs : List α) (z : Sto) : Option (List β × Sto) := (grd (xs.length ≤ 16777216)).bind fun _ => mapFS f xs z
theorem mapFS_get {α β : Type} {f : α → Sto → Option (Option β × Sto)} : ∀ {xs : List α} {z : Sto} {r : List β × Sto}, mapFS f xs z = some r → ∃ (os : List (Option β)) (zs : Nat → Sto), os.length = xs.length ∧ os.filterMap id = r.1 ∧ zs 0 = z ∧ zs xs.length = r.2 ∧
      ∀ (i : Nat) (x : α) (o : Option β), xs[i]? = some x → os[i]? = some o → f x (zs i) = some (o, zs (i + 1))
  | [], z, r, h => by cases h; exact ⟨[], fun _ => z, rfl, rfl, rfl, rfl, fun i x y h => by simp at h⟩
  | a :: xs, z, r, h => by
    obtain ⟨b, hb, h⟩ := bs h
    obtain ⟨r', hz, h⟩ := bs h
    cases h
    obtain ⟨os, zs, hl, hf, h0, hn, hi⟩ := mapFS_get hz
    refine ⟨b.1 :: os, fun i => match i with | 0 => z | i + 1 => zs i, congrArg (· + 1) hl, ?_, rfl, hn, fun i x o h1 h2 => ?_⟩
    · show (b.1 :: os).filterMap id = b.1.toList ++ r'.1
      rw [← hf]
      cases b.1 <;> rfl
    · cases i with
      | zero =>
        simp at h1 h2
        subst h1
        subst h2
        show f a z = some (b.1, zs 0)
        rw [h0]
        exact hb
      | succ i => exact hi i x o (by simpa using h1) (by simpa using h2)
theorem upd_id {M : Hp} {s : Addr} {o : HO} (h : M s = some o) : upd M s o = M := by
  funext a
  by_cases q : a = s
  · subst q; rw [upd_same, h]
  · rw [upd_ne q]
section
variable {K : PySem.W.Frag} {σ : L2.St} {G M M1 : Hp} {te : TE}
theorem el_lcMDF [Tb] {α β : Type} {ea : α → Dat} {eb : β → Dat} {f : α → Sto → Option (Option β × Sto)} {xs : List α} {r : List β × Sto} {z : Sto} {s : Addr} {wi : TI} {g : TG} {tt : TT} {vs : List Nat} (src : Src K wi σ G M M1 (xs.map ea)) (h0 : M1 s = some (sto z)) (hf : lcFS f xs z = some r)
    (hs : ∀ (x : α) (o : Option β) (z z' : Sto) (Mx G1 : Hp) (v : V), f x z = some (o, z') → (∀ a o, a ≠ s → M1 a = some o → Mx a = some o) → Mx s = some (sto z) → Same G G1 → Dq K G1 v (ea x) → Tg g v (wipe σ vs) G1 fun σ2 => wipe σ2 vs = wipe σ vs ∧ LcB K tt te σ2 G1 Mx (upd Mx s (sto z')) (o.map eb)) :
    EvL K (tLc wi g tt te vs) σ G M (upd M1 s (sto r.2)) (r.1.map eb) := by
  obtain ⟨_, h1, h2⟩ := bs hf
  obtain ⟨os, zs, hl, hfm, e0, en, hi⟩ := mapFS_get h2
  subst e0
  have e : ∀ os : List (Option β), (os.map fun o => o.map eb).filterMap id = (os.filterMap id).map eb := fun os => by
    induction os with
    | nil => rfl
    | cons o os ih => cases o <;> simp_all
  rw [← hfm, ← e, ← en, ← List.length_map (as := xs) (f := ea)]
  refine el_lcG (tt := tt) (te := te) (g := g) (vs := vs) src (os.map fun o => o.map eb) (fun i => upd M1 s (sto (zs i))) (upd_id h0) rfl (fun i a => ?_) (by rw [List.length_map, List.length_map, hl]) (by rw [List.length_map]; exact szl (grd_of h1)) fun i d o D acc G1 v hd ho hD sG hv => ?_
  · by_cases q : a = s
    · subst q; rw [upd_same, h0]; rfl
    · rw [upd_ne q]
  · have nD : D ≠ s := fun z => by subst z; rw [h0] at hD; cases hD
    rw [List.getElem?_map] at hd ho
    cases e1 : xs[i]? with
    | none => rw [e1] at hd; cases hd
    | some x =>
      cases e2 : os[i]? with
      | none => rw [e2] at ho; cases ho
      | some o' =>
        rw [e1] at hd; rw [e2] at ho
        cases hd; cases ho
        have hx := hs x o' _ _ (upd (upd M1 s (sto (zs i))) D (.lst acc)) G1 v (hi i x o' e1 e2) (fun a o na h => by
          rw [upd_ne (ne_of_none h hD), upd_ne na]
          exact h) (by rw [upd_ne nD.symm, upd_same]) sG hv
        have eq : upd (upd (upd M1 s (sto (zs i))) D (.lst acc)) s (sto (zs (i + 1))) = upd (upd M1 s (sto (zs (i + 1)))) D (.lst acc) := by
          funext a
          by_cases q1 : a = s
          · subst q1; rw [upd_same, upd_ne nD.symm, upd_same]
          · rw [upd_ne q1]
            by_cases q2 : a = D
            · subst q2; rw [upd_same, upd_same]
            · rw [upd_ne q2, upd_ne q2, upd_ne q1, upd_ne q1]
        rw [eq] at hx
        exact hx
end
end Kx
end
section
set_option maxHeartbeats 2000000
namespace Kx
open PySem L2 PySem.Spec PyProof.Rows
/-! ### a try whose suite reads the slots as they stood -/
theorem passAtN {X : Cx} {W : WX} (tk : L2N.Takes X W) (σ : L2.St) : PassesAt (L2N.CX X.prog X.w) X σ (WE W σ) := fun _ _ _ e s' I c => tk e s' (L2N.XE.of_call (W := W) I (fun _ _ _ h => h) c)
def tCallKwS (n : Nat) (sp : Sp) (gV : List V → List V) (E : L2.St → XK) (tk : TA) : TE := fun σ H Q => tk σ H fun zs H2 => zs.length = n ∧ sp (gV zs) H2 Q (E σ)
theorem pe_callKwS {X : Cx} {CX : CXT} {k : Nat} {f : Addr} {fd : FuncData} {ps ks : List Str} {sp : Sp} {E : L2.St → XK} {x : Str} {p pos : Pos} {kws : List Keyword} {tk : TA} {g : {α : Type} → List α → List α}
    (F : FnOk X.prog X.w X.K X.mg X.base CX k f fd ps sp) (hr : Room k X.A) (hg : Gl X x) (hm : X.mg x = some (.ref f)) (hk : PySem.W.keepIn X.K (.ref f) = true) (hb : KBw X.K fd ps ks g) (hx : ∀ σ, PassesAt CX X σ (E σ))
    (hkw : PK X kws tk) (hall : (backToKw pos (keywordEach kws X.env)).all (·.1.isSome) = true := by rfl) (hks : (backToKw pos (keywordEach kws X.env)).filterMap (·.1) = ks := by rfl)
    (hdb : (x == ("__debug__" : Str)) = false := by decide)
    (hpl : ((backTo pos (starEach [] X.env)).any (·.1) || (backToKw pos (keywordEach kws X.env)).any (·.1.isNone)) = false := by rfl) :
    PE X (.Call (.Name x p) [] kws pos) (tCallKwS ks.length sp g E tk) := by
  refine ⟨fun pins s σ H Q I h => ?_⟩
  refine wpAny_Call_Name_kw (ld_glob I hg hm ?_ hdb)
  refine PySem.W.callWith_KW0 (h₀ := X.base) I.ok.mod.kin hk hall (thn (hkw.run pos pins s σ H _ I h) fun ws s2 ⟨zs, H2, I2, rz, l2, q2⟩ => ⟨I2.kIn, ?_⟩) hpl
  rw [hks]
  have r2 := hb.rel rz
  refine wpAny_call (codeAny_mono (F.run X.A X.stack s2 H2 ⟨[], ks.zip ws⟩ (g ws) (g zs) Q (E σ) hr I2.env0 (hb.to s2 ws I2.kIn (rz.length.symm.trans l2)) r2 q2) fun r s' hq => ?_)
  cases r with
  | error e => exact hx σ pins H2 s2 e s' I2 hq
  | ok fl =>
    cases fl with
    | ret u => exact I2.after hq
    | next => exact False.elim hq
    | brk => exact False.elim hq
    | cont => exact False.elim hq
section
variable {α ρ : Type} {K : PySem.W.Frag} {σ : L2.St} {G M M1 : Hp} {E : L2.St → XK} {N : List Str}
theorem evr_callS [Tb] {args : α → List V → Hp → Prop} {m : α → Option (ρ ⊕ Ex)} {res : ρ → VP} {t : TA} {a : α} {r : ρ ⊕ Ex} (hm : m a = some r) (ha : EvA t σ G M M1 (args a)) : EvR K (tCallS (spX K args m res) E t) σ G M M1 (E σ) r res := fun G0 H s k Q q qx =>
  ha G0 H s k _ fun vs G1 H1 s1 k1 hv => ⟨G1, M1, a, r, k1, hv, hm, fun y e v G2 H2 s2 k2 hr => q y e v G2 H2 (s1.trans s2) k2 hr, fun x e d G2 H2 s2 k2 hd => qx x e d G2 H2 (s1.trans s2) k2 hd⟩
theorem evr_callKPS [Tb] {args : α → List V → Hp → Prop} {m : α → Option (ρ ⊕ Ex)} {res : ρ → VP} {t : TA} {a : α} {r : ρ ⊕ Ex} {n : Nat} {gV : List V → List V} {Ps : List V → Hp → Prop} (hm : m a = some r) (hg : ∀ vs G, Ps vs G → vs.length = n ∧ args a (gV vs) G) (ha : EvA t σ G M M1 Ps) :
    EvR K (tCallKwS n (spX K args m res) gV E t) σ G M M1 (E σ) r res := fun G0 H s k Q q qx =>
  ha G0 H s k _ fun vs G1 H1 s1 k1 hv => ⟨(hg vs G1 hv).1, G1, M1, a, r, k1, (hg vs G1 hv).2, hm, fun y e v G2 H2 s2 k2 hr => q y e v G2 H2 (s1.trans s2) k2 hr, fun x e d G2 H2 s2 k2 hd => qx x e d G2 H2 (s1.trans s2) k2 hd⟩
/-- what the suite must do, the slots as they stood -/
theorem q_wasS {c : Value} {i : Nat} {ts : Addr → Value → Option Addr → TS} {Wout : WX} {d : Option Addr} {C : Addr} {D : Ends} {H : Hp} (he : PySem.W.exmOne K (.ref C) c = some true)
    (h : ∀ (a : Addr), H a = none → ts a (.ref C) d { nx := fun σ' H' => D.nx (σ'.set i none) H', rt := D.rt, bk := fun σ' H' => D.bk (σ'.set i none) H', ct := fun σ' H' => D.ct (σ'.set i none) H' } (σ.set i (some (.ref a))) H) :
    WE (wAs K c i ts Wout D) σ (.ref C) d H := ⟨true, he, fun _ a ha => h a ha, fun z => nomatch z⟩
end
end Kx
end
section
set_option maxHeartbeats 4000000
namespace K05
open PySem L2 Kx
def topS (i : Nat) : Stmt := PySem.Challenge.pw_sincerung_k05_texts_written_and_read.main.body.getD i (.Pass ⟨0, 0, 0, 0⟩)
abbrev s_NoText___init__ : Stmt := inClass (topS 15) 0
abbrev s_is_whole : Stmt := topS 36
abbrev s_is_within : Stmt := topS 37
abbrev s_is_name : Stmt := topS 38
abbrev s_is_figures : Stmt := topS 39
abbrev s_is_bell : Stmt := topS 41
abbrev s_check_bells : Stmt := topS 42
abbrev s_is_notch : Stmt := topS 43
abbrev s_check_notches : Stmt := topS 44
abbrev s_Peal___init__ : Stmt := inClass (topS 45) 0
abbrev s_Peal___eq__ : Stmt := inClass (topS 45) 7
abbrev s_Peal___str__ : Stmt := inClass (topS 45) 9
abbrev s_Peal___repr__ : Stmt := inClass (topS 45) 10
abbrev s_number_of : Stmt := topS 49
abbrev s_bell_of : Stmt := topS 50
abbrev s_notch_of : Stmt := topS 51
abbrev s_read_peal : Stmt := topS 52
abbrev s__law_opened : Stmt := topS 54
abbrev s__law_pull : Stmt := topS 55
abbrev s__law_spelt : Stmt := topS 56
abbrev s__law_calls : Stmt := topS 57
abbrev s__law_figure : Stmt := topS 58
abbrev s__law_kit : Stmt := topS 59
abbrev s__law_sort : Stmt := topS 60
abbrev s__law_text : Stmt := topS 61
abbrev s__law_is_call : Stmt := topS 62
abbrev s__law_worth_of : Stmt := topS 63
abbrev s__law_read : Stmt := topS 64
abbrev s__law_read_right : Stmt := topS 65
abbrev s__law_right : Stmt := topS 66
abbrev s_law : Stmt := topS 67
abbrev eX_Peal (r : ((List (Str × Int)) × (List (Str × Str × Int)) × (List (Str × Int)) × (List ((Str × Str) × Int)))) : Dat := .ins "Peal" ["bells", "notches", "sizes", "turning"] [(eT (eP2 Dat.str Dat.int)) r.1, (eT (eP3 Dat.str Dat.str Dat.int)) r.2.1, (eDS Dat.int) r.2.2.1, (eDP Dat.int) r.2.2.2]
def kw_read_peal_text {α : Type} : List α → List α
  | [x0] => [x0]
  | _ => []
structure Txt (K : PySem.W.Frag) (mg : Str → Option Value) where
  a_NoText___init__ : Addr
  d_NoText___init__ : FuncData
  F_NoText___init__ : Fun K "__init__" "NoText.__init__" s_NoText___init__ a_NoText___init__ d_NoText___init__
  b_NoText___init__ : Binds K d_NoText___init__ ["self", "row"] []
  a_is_whole : Addr
  d_is_whole : FuncData
  F_is_whole : Fun K "is_whole" "is_whole" s_is_whole a_is_whole d_is_whole
  b_is_whole : Binds K d_is_whole ["thing"] []
  g_is_whole : mg "is_whole" = some (.ref a_is_whole)
  a_is_within : Addr
  d_is_within : FuncData
  F_is_within : Fun K "is_within" "is_within" s_is_within a_is_within d_is_within
  b_is_within : Binds K d_is_within ["thing", "low", "high"] []
  g_is_within : mg "is_within" = some (.ref a_is_within)
  a_is_name : Addr
  d_is_name : FuncData
  F_is_name : Fun K "is_name" "is_name" s_is_name a_is_name d_is_name
  b_is_name : Binds K d_is_name ["thing"] []
  g_is_name : mg "is_name" = some (.ref a_is_name)
  a_is_figures : Addr
  d_is_figures : FuncData
  F_is_figures : Fun K "is_figures" "is_figures" s_is_figures a_is_figures d_is_figures
  b_is_figures : Binds K d_is_figures ["word"] []
  g_is_figures : mg "is_figures" = some (.ref a_is_figures)
  a_is_bell : Addr
  d_is_bell : FuncData
  F_is_bell : Fun K "is_bell" "is_bell" s_is_bell a_is_bell d_is_bell
  b_is_bell : Binds K d_is_bell ["thing"] []
  g_is_bell : mg "is_bell" = some (.ref a_is_bell)
  a_check_bells : Addr
  d_check_bells : FuncData
  F_check_bells : Fun K "check_bells" "check_bells" s_check_bells a_check_bells d_check_bells
  b_check_bells : Binds K d_check_bells ["bells"] []
  g_check_bells : mg "check_bells" = some (.ref a_check_bells)
  a_is_notch : Addr
  d_is_notch : FuncData
  F_is_notch : Fun K "is_notch" "is_notch" s_is_notch a_is_notch d_is_notch
  b_is_notch : Binds K d_is_notch ["thing", "names"] []
  g_is_notch : mg "is_notch" = some (.ref a_is_notch)
  a_check_notches : Addr
  d_check_notches : FuncData
  F_check_notches : Fun K "check_notches" "check_notches" s_check_notches a_check_notches d_check_notches
  b_check_notches : Binds K d_check_notches ["notches", "names"] []
  g_check_notches : mg "check_notches" = some (.ref a_check_notches)
  a_Peal___init__ : Addr
  d_Peal___init__ : FuncData
  e_Peal___init__ : Addr
  F_Peal___init__ : FunT K "__init__" "Peal.__init__" s_Peal___init__ e_Peal___init__ a_Peal___init__ d_Peal___init__
  b_Peal___init__ : Binds K d_Peal___init__ ["self", "bells", "notches"] []
  mk_Peal : Mk K (clsAt K "Peal") a_Peal___init__
  a_Peal___eq__ : Addr
  d_Peal___eq__ : FuncData
  F_Peal___eq__ : Fun K "__eq__" "Peal.__eq__" s_Peal___eq__ a_Peal___eq__ d_Peal___eq__
  b_Peal___eq__ : Binds K d_Peal___eq__ ["self", "other"] []
  me_Peal___eq__ : Meth K (clsAt K "Peal") "__eq__" a_Peal___eq__
  a_Peal___str__ : Addr
  d_Peal___str__ : FuncData
  F_Peal___str__ : Fun K "__str__" "Peal.__str__" s_Peal___str__ a_Peal___str__ d_Peal___str__
  b_Peal___str__ : Binds K d_Peal___str__ ["self"] []
  me_Peal___str__ : Meth K (clsAt K "Peal") "__str__" a_Peal___str__
  a_Peal___repr__ : Addr
  d_Peal___repr__ : FuncData
  F_Peal___repr__ : Fun K "__repr__" "Peal.__repr__" s_Peal___repr__ a_Peal___repr__ d_Peal___repr__
  b_Peal___repr__ : Binds K d_Peal___repr__ ["self"] []
  me_Peal___repr__ : Meth K (clsAt K "Peal") "__repr__" a_Peal___repr__
  a_number_of : Addr
  d_number_of : FuncData
  F_number_of : Fun K "number_of" "number_of" s_number_of a_number_of d_number_of
  b_number_of : Binds K d_number_of ["word"] []
  g_number_of : mg "number_of" = some (.ref a_number_of)
  a_bell_of : Addr
  d_bell_of : FuncData
  F_bell_of : Fun K "bell_of" "bell_of" s_bell_of a_bell_of d_bell_of
  b_bell_of : Binds K d_bell_of ["words", "bells"] []
  g_bell_of : mg "bell_of" = some (.ref a_bell_of)
  a_notch_of : Addr
  d_notch_of : FuncData
  F_notch_of : Fun K "notch_of" "notch_of" s_notch_of a_notch_of d_notch_of
  b_notch_of : Binds K d_notch_of ["words", "bells", "notches"] []
  g_notch_of : mg "notch_of" = some (.ref a_notch_of)
  a_read_peal : Addr
  d_read_peal : FuncData
  F_read_peal : Fun K "read_peal" "read_peal" s_read_peal a_read_peal d_read_peal
  b_read_peal : Binds K d_read_peal ["text"] []
  g_read_peal : mg "read_peal" = some (.ref a_read_peal)
  a__law_opened : Addr
  d__law_opened : FuncData
  F__law_opened : Fun K "_law_opened" "_law_opened" s__law_opened a__law_opened d__law_opened
  b__law_opened : Binds K d__law_opened ["_law_script", "_law_k"] []
  g__law_opened : mg "_law_opened" = some (.ref a__law_opened)
  a__law_pull : Addr
  d__law_pull : FuncData
  F__law_pull : Fun K "_law_pull" "_law_pull" s__law_pull a__law_pull d__law_pull
  b__law_pull : Binds K d__law_pull ["_law_store", "_law_many"] []
  g__law_pull : mg "_law_pull" = some (.ref a__law_pull)
  a__law_spelt : Addr
  d__law_spelt : FuncData
  F__law_spelt : Fun K "_law_spelt" "_law_spelt" s__law_spelt a__law_spelt d__law_spelt
  b__law_spelt : Binds K d__law_spelt ["_law_figure_here", "_law_wide"] []
  g__law_spelt : mg "_law_spelt" = some (.ref a__law_spelt)
  a__law_calls : Addr
  d__law_calls : FuncData
  F__law_calls : Fun K "_law_calls" "_law_calls" s__law_calls a__law_calls d__law_calls
  b__law_calls : Binds K d__law_calls ["_law_store", "_law_many"] []
  g__law_calls : mg "_law_calls" = some (.ref a__law_calls)
  a__law_figure : Addr
  d__law_figure : FuncData
  F__law_figure : Fun K "_law_figure" "_law_figure" s__law_figure a__law_figure d__law_figure
  b__law_figure : Binds K d__law_figure ["_law_store", "_law_mode", "_law_size"] []
  g__law_figure : mg "_law_figure" = some (.ref a__law_figure)
  a__law_kit : Addr
  d__law_kit : FuncData
  F__law_kit : Fun K "_law_kit" "_law_kit" s__law_kit a__law_kit d__law_kit
  b__law_kit : Binds K d__law_kit ["_law_store", "_law_upto", "_law_most"] []
  g__law_kit : mg "_law_kit" = some (.ref a__law_kit)
  a__law_sort : Addr
  d__law_sort : FuncData
  F__law_sort : Fun K "_law_sort" "_law_sort" s__law_sort a__law_sort d__law_sort
  b__law_sort : Binds K d__law_sort ["_law_e"] []
  g__law_sort : mg "_law_sort" = some (.ref a__law_sort)
  a__law_text : Addr
  d__law_text : FuncData
  F__law_text : Fun K "_law_text" "_law_text" s__law_text a__law_text d__law_text
  b__law_text : Binds K d__law_text ["_law_ringers", "_law_teeth"] []
  g__law_text : mg "_law_text" = some (.ref a__law_text)
  a__law_is_call : Addr
  d__law_is_call : FuncData
  F__law_is_call : Fun K "_law_is_call" "_law_is_call" s__law_is_call a__law_is_call d__law_is_call
  b__law_is_call : Binds K d__law_is_call ["_law_word"] []
  g__law_is_call : mg "_law_is_call" = some (.ref a__law_is_call)
  a__law_worth_of : Addr
  d__law_worth_of : FuncData
  F__law_worth_of : Fun K "_law_worth_of" "_law_worth_of" s__law_worth_of a__law_worth_of d__law_worth_of
  b__law_worth_of : Binds K d__law_worth_of ["_law_word"] []
  g__law_worth_of : mg "_law_worth_of" = some (.ref a__law_worth_of)
  a__law_read : Addr
  d__law_read : FuncData
  F__law_read : Fun K "_law_read" "_law_read" s__law_read a__law_read d__law_read
  b__law_read : Binds K d__law_read ["_law_written"] []
  g__law_read : mg "_law_read" = some (.ref a__law_read)
  a__law_read_right : Addr
  d__law_read_right : FuncData
  F__law_read_right : Fun K "_law_read_right" "_law_read_right" s__law_read_right a__law_read_right d__law_read_right
  b__law_read_right : Binds K d__law_read_right ["_law_written", "_law_door"] []
  g__law_read_right : mg "_law_read_right" = some (.ref a__law_read_right)
  a__law_right : Addr
  d__law_right : FuncData
  F__law_right : Fun K "_law_right" "_law_right" s__law_right a__law_right d__law_right
  b__law_right : Binds K d__law_right ["_law_store"] []
  g__law_right : mg "_law_right" = some (.ref a__law_right)
  a_law : Addr
  d_law : FuncData
  F_law : Fun K "law" "law" s_law a_law d_law
  b_law : Binds K d_law ["_law_script"] []
  g_law : mg "law" = some (.ref a_law)
  cl_Peal : Cls K (clsAt K "Peal")
  co_Peal : ClsOk K (clsAt K "Peal")
  cn_Peal : ClsNo K (clsAt K "Peal")
  ki_Peal : PySem.W.kitOne K (.ref (clsAt K "Peal")) (.ref (clsAt K "Peal")) = some true
  mg_Peal : mg "Peal" = some (.ref (clsAt K "Peal"))
  ne_Peal : PySem.W.findIn K (.ref (clsAt K "Peal")) "__ne__" = some (some (.builtin "object.__ne__"))
  na_Peal_bells : NoAttr K (clsAt K "Peal") "bells"
  na_Peal_notches : NoAttr K (clsAt K "Peal") "notches"
  na_Peal_sizes : NoAttr K (clsAt K "Peal") "sizes"
  na_Peal_turning : NoAttr K (clsAt K "Peal") "turning"
  mc_NoPeal : mg "NoPeal" = some (.ref (clsAt K "NoPeal"))
  mc_NoBells : mg "NoBells" = some (.ref (clsAt K "NoBells"))
  mc_NoNotches : mg "NoNotches" = some (.ref (clsAt K "NoNotches"))
  mc_NoText : mg "NoText" = some (.ref (clsAt K "NoText"))
  mc_NoStanding : mg "NoStanding" = some (.ref (clsAt K "NoStanding"))
  mc_NoRow : mg "NoRow" = some (.ref (clsAt K "NoRow"))
  mc_NoDials : mg "NoDials" = some (.ref (clsAt K "NoDials"))
  mc_NoRings : mg "NoRings" = some (.ref (clsAt K "NoRings"))
  mc_NoCourse : mg "NoCourse" = some (.ref (clsAt K "NoCourse"))
  mc_NoNumber : mg "NoNumber" = some (.ref (clsAt K "NoNumber"))
  mc_NoModuli : mg "NoModuli" = some (.ref (clsAt K "NoModuli"))
  mc_NoVectors : mg "NoVectors" = some (.ref (clsAt K "NoVectors"))
  mc_NoVector : mg "NoVector" = some (.ref (clsAt K "NoVector"))
  mc_NoWeights : mg "NoWeights" = some (.ref (clsAt K "NoWeights"))
  mc_NoTruth : mg "NoTruth" = some (.ref (clsAt K "NoTruth"))
  mc_NoHistories : mg "NoHistories" = some (.ref (clsAt K "NoHistories"))
  mc_NoDeed : mg "NoDeed" = some (.ref (clsAt K "NoDeed"))
  mc_NoLog : mg "NoLog" = some (.ref (clsAt K "NoLog"))
  mc_NoSay : mg "NoSay" = some (.ref (clsAt K "NoSay"))
  mc_NoName : mg "NoName" = some (.ref (clsAt K "NoName"))
  mc_NoPlace : mg "NoPlace" = some (.ref (clsAt K "NoPlace"))
  mc_NoBack : mg "NoBack" = some (.ref (clsAt K "NoBack"))
  mc_TooMany : mg "TooMany" = some (.ref (clsAt K "TooMany"))
  mc_BellError : mg "BellError" = some (.ref (clsAt K "BellError"))
  mc_LostError : mg "LostError" = some (.ref (clsAt K "LostError"))
  mc_GreatError : mg "GreatError" = some (.ref (clsAt K "GreatError"))
  em_NoText_BellError : PySem.W.exmOne K (.ref (clsAt K "NoText")) (.ref (clsAt K "BellError")) = some true
  ec_NoText : L2.ExcC K (clsAt K "NoText")
  kx_NoText_NoPeal : PySem.W.kitOne K (.ref (clsAt K "NoText")) (.ref (clsAt K "NoPeal")) = some false
  kx_NoText_NoBells : PySem.W.kitOne K (.ref (clsAt K "NoText")) (.ref (clsAt K "NoBells")) = some false
  kx_NoText_NoNotches : PySem.W.kitOne K (.ref (clsAt K "NoText")) (.ref (clsAt K "NoNotches")) = some false
  kx_NoText_NoText : PySem.W.kitOne K (.ref (clsAt K "NoText")) (.ref (clsAt K "NoText")) = some true
  kx_NoText_NoStanding : PySem.W.kitOne K (.ref (clsAt K "NoText")) (.ref (clsAt K "NoStanding")) = some false
  kx_NoText_NoRow : PySem.W.kitOne K (.ref (clsAt K "NoText")) (.ref (clsAt K "NoRow")) = some false
  kx_NoText_NoDials : PySem.W.kitOne K (.ref (clsAt K "NoText")) (.ref (clsAt K "NoDials")) = some false
  kx_NoText_NoRings : PySem.W.kitOne K (.ref (clsAt K "NoText")) (.ref (clsAt K "NoRings")) = some false
  kx_NoText_NoCourse : PySem.W.kitOne K (.ref (clsAt K "NoText")) (.ref (clsAt K "NoCourse")) = some false
  kx_NoText_NoNumber : PySem.W.kitOne K (.ref (clsAt K "NoText")) (.ref (clsAt K "NoNumber")) = some false
  kx_NoText_NoModuli : PySem.W.kitOne K (.ref (clsAt K "NoText")) (.ref (clsAt K "NoModuli")) = some false
  kx_NoText_NoVectors : PySem.W.kitOne K (.ref (clsAt K "NoText")) (.ref (clsAt K "NoVectors")) = some false
  kx_NoText_NoVector : PySem.W.kitOne K (.ref (clsAt K "NoText")) (.ref (clsAt K "NoVector")) = some false
  kx_NoText_NoWeights : PySem.W.kitOne K (.ref (clsAt K "NoText")) (.ref (clsAt K "NoWeights")) = some false
  kx_NoText_NoTruth : PySem.W.kitOne K (.ref (clsAt K "NoText")) (.ref (clsAt K "NoTruth")) = some false
  kx_NoText_NoHistories : PySem.W.kitOne K (.ref (clsAt K "NoText")) (.ref (clsAt K "NoHistories")) = some false
  kx_NoText_NoDeed : PySem.W.kitOne K (.ref (clsAt K "NoText")) (.ref (clsAt K "NoDeed")) = some false
  kx_NoText_NoLog : PySem.W.kitOne K (.ref (clsAt K "NoText")) (.ref (clsAt K "NoLog")) = some false
  kx_NoText_NoSay : PySem.W.kitOne K (.ref (clsAt K "NoText")) (.ref (clsAt K "NoSay")) = some false
  kx_NoText_NoName : PySem.W.kitOne K (.ref (clsAt K "NoText")) (.ref (clsAt K "NoName")) = some false
  kx_NoText_NoPlace : PySem.W.kitOne K (.ref (clsAt K "NoText")) (.ref (clsAt K "NoPlace")) = some false
  kx_NoText_NoBack : PySem.W.kitOne K (.ref (clsAt K "NoText")) (.ref (clsAt K "NoBack")) = some false
  kx_NoText_TooMany : PySem.W.kitOne K (.ref (clsAt K "NoText")) (.ref (clsAt K "TooMany")) = some false
  kx_NoText_BellError : PySem.W.kitOne K (.ref (clsAt K "NoText")) (.ref (clsAt K "BellError")) = some true
  kx_NoText_LostError : PySem.W.kitOne K (.ref (clsAt K "NoText")) (.ref (clsAt K "LostError")) = some false
  kx_NoText_GreatError : PySem.W.kitOne K (.ref (clsAt K "NoText")) (.ref (clsAt K "GreatError")) = some false
  kx_NoText_ValueError : PySem.W.kitOne K (.ref (clsAt K "NoText")) (.type "ValueError") = some true
  kx_NoText_LookupError : PySem.W.kitOne K (.ref (clsAt K "NoText")) (.type "LookupError") = some false
  kx_NoText_ArithmeticError : PySem.W.kitOne K (.ref (clsAt K "NoText")) (.type "ArithmeticError") = some false
  xc_NoText : L2.XfC K (clsAt K "NoText")
  xn0_NoText : PySem.W.findIn K (.ref (clsAt K "NoText")) "row" = some none
  mx_NoText : mg "NoText" = some (.ref (clsAt K "NoText"))
  ox_NoText : OexG K (clsAt K "NoText") "ValueError.__init__"
  xn_NoText : PySem.W.findIn K (.ref (clsAt K "NoText")) "__init__" = some (some (.ref a_NoText___init__))
  xf_NoText : PySem.W.typeIn K (.ref a_NoText___init__) = some (.type "function")
  no_NoText : PySem.W.findIn K (.ref (clsAt K "NoText")) "row" = some none
  be_BellError : BaseG K (clsAt K "BellError") "ValueError.__init__"
  mx_BellError : mg "BellError" = some (.ref (clsAt K "BellError"))
  kb_read_peal_text : KBw K d_read_peal ["text"] ["text"] @kw_read_peal_text
  n_int : mg "int" = none
  n_isinstance : mg "isinstance" = none
  n_bool : mg "bool" = none
  n_str : mg "str" = none
  n_len : mg "len" = none
  n_all : mg "all" = none
  n_tuple : mg "tuple" = none
  n_enumerate : mg "enumerate" = none
  n_dict : mg "dict" = none
  n_abs : mg "abs" = none
  n_divmod : mg "divmod" = none
  n_range : mg "range" = none
  n_sorted : mg "sorted" = none
  n_ValueError : mg "ValueError" = none
  n_LookupError : mg "LookupError" = none
  n_ArithmeticError : mg "ArithmeticError" = none
  n_repr : mg "repr" = none
  n_min : mg "min" = none
  n_max : mg "max" = none
  t_MOST_LETTERS : Tok
  c_MOST_LETTERS : mg "MOST_LETTERS" = some (.int 6 t_MOST_LETTERS)
  t_LETTERS : Tok
  c_LETTERS : mg "LETTERS" = some (.str "abcdefghijklmnopqrstuvwxyz" t_LETTERS)
  t_FIGURES : Tok
  c_FIGURES : mg "FIGURES" = some (.str "0123456789" t_FIGURES)
  t_LEAST_MARKS : Tok
  c_LEAST_MARKS : mg "LEAST_MARKS" = some (.int 2 t_LEAST_MARKS)
  t_MOST_MARKS : Tok
  c_MOST_MARKS : mg "MOST_MARKS" = some (.int 24 t_MOST_MARKS)
  t_MOST_BELLS : Tok
  c_MOST_BELLS : mg "MOST_BELLS" = some (.int 8 t_MOST_BELLS)
  t_MOST_NUMBER : Tok
  c_MOST_NUMBER : mg "MOST_NUMBER" = some (.int 99 t_MOST_NUMBER)
/-! ### NoText___init__ -/
theorem sc_NoText___init__ : FnScope ["self", "row"] ["self", "row"] (defScope s_NoText___init__) := ⟨rfl, rfl, rfl, by decide +kernel, rfl, by decide +kernel, by decide +kernel⟩
abbrev sp_NoText___init__ [Tb] (K : PySem.W.Frag) : Sp := spE (clsAt K "NoText") "row"
theorem ok_NoText___init__ [Tb] {P : Program} {w : World} {K : PySem.W.Frag} {mg : Str → Option Value} {base : Heap} (T : Txt K mg) : FnOk P w K mg base CX0 (1) T.a_NoText___init__ T.d_NoText___init__ ["self", "row"] (sp_NoText___init__ K) := by
  refine T.F_NoText___init__.ok sc_NoText___init__ (fun vs H Q E h => ?_) (fun cdv A outer s0 H vs Q E hr h => ?_)
  · obtain ⟨H1, a, y, rfl, rfl, ha, q⟩ := h
    rfl
  · obtain ⟨H1, a, y, rfl, rfl, ha, q⟩ := h
    exact ⟨_, (pss_cons (ps_expr (pe_beinitG (by rfl) T.mx_BellError T.be_BellError (pa_cons (pv 0) (pa_cons pe_str pa_nil)))) (pss_cons (ps_ostG (j := "ValueError.__init__") (pv 0) (pv 1)) pss_nil)), init_readG T.ox_NoText T.no_NoText ha q⟩
/-! ### is_whole -/
theorem sc_is_whole : FnScope ["thing"] ["thing"] (defScope s_is_whole) := ⟨rfl, rfl, rfl, by decide +kernel, rfl, by decide +kernel, by decide +kernel⟩
def a_is_whole (K : PySem.W.Frag) (a : Int) : List V → Hp → Prop := conP (DD K (Dat.int a)) (nilP)
def m_is_whole (a : Int) : Option Bool :=
  some (true && (!false))
abbrev sp_is_whole [Tb] (K : PySem.W.Frag) : Sp := spP (a_is_whole K) (m_is_whole) fun r => DD K (Dat.bool r)
theorem ok_is_whole [Tb] {P : Program} {w : World} {K : PySem.W.Frag} {mg : Str → Option Value} {base : Heap} (T : Txt K mg) : FnOk P w K mg base CX0 (1) T.a_is_whole T.d_is_whole ["thing"] (sp_is_whole K) := by
  refine T.F_is_whole.ok sc_is_whole (fun vs H Q E h => ?_) (fun cdv A outer s0 H vs Q E hr h => ?_)
  · obtain ⟨G, M0, a, r, ok, ⟨v_thing, _, rfl, h_thing, rfl⟩, hm, q⟩ := h
    rfl
  · obtain ⟨G, M0, a, r, ok, ⟨v_thing, _, rfl, h_thing, rfl⟩, hm, q⟩ := h
    unfold m_is_whole at hm
    have sg := Same.refl G
    have hB := Same.refl M0
    refine ⟨_, (pss_cons (ps_ret (pe_and (pe_callB (call_isiKK (K := K)) (by rfl) T.n_isinstance (by decide +kernel) (pa_cons (pv 0) (pa_cons (pe_bltn (v := .ty "int") (by rfl) T.n_int (by decide +kernel) rfl) pa_nil))) (pe_one (pe_not (pe_callB (call_isiKK (K := K)) (by rfl) T.n_isinstance (by decide +kernel) (pa_cons (pv 0) (pa_cons (pe_bltn (v := .ty "bool") (by rfl) T.n_bool (by decide +kernel) rfl) pa_nil))))))) pss_nil), ?_⟩
    cases h_thing
    refine nrm (σ' := [some (.int a)]) rfl ?_
    refine q_ret (ev_and (ev_isi (d := Dat.int a) (n := "int") (b := true) rfl (show kitB "int" "int" = some true by decide +kernel) (ea_d (ev_d (K := K) rfl (.int _)) (ea_cons mo_cls ev_cls ea_nil))) fun _ => (ev_not (ev_isi (d := Dat.int a) (n := "bool") (b := false) rfl (show kitB "int" "bool" = some false by decide +kernel) (ea_d (ev_d (K := K) rfl (.int _)) (ea_cons mo_cls ev_cls ea_nil))))) ok (fun v G H s1 ok hv => ?_)
    have sg := sg.trans s1
    cases hm
    exact q v G H sg (ok.less hB) hv
/-! ### is_whole_2 -/
def a_is_whole_2 (K : PySem.W.Frag) (a : Dat) : List V → Hp → Prop := conP (DD K (id a)) (nilP)
def m_is_whole_2 (a : Dat) : Option Bool :=
  (isO1 "Peal" isI a).bind fun t1 => (cond t1 ((isO1 "Peal" isB a).bind fun t2 => some (!t2)) (some false)).bind fun t3 => some t3
abbrev sp_is_whole_2 [Tb] (K : PySem.W.Frag) : Sp := spP (a_is_whole_2 K) (m_is_whole_2) fun r => DD K (Dat.bool r)
theorem ok_is_whole_2 [Tb] {P : Program} {w : World} {K : PySem.W.Frag} {mg : Str → Option Value} {base : Heap} (T : Txt K mg) : FnOk P w K mg base CX0 (1) T.a_is_whole T.d_is_whole ["thing"] (sp_is_whole_2 K) := by
  refine T.F_is_whole.ok sc_is_whole (fun vs H Q E h => ?_) (fun cdv A outer s0 H vs Q E hr h => ?_)
  · obtain ⟨G, M0, a, r, ok, ⟨v_thing, _, rfl, h_thing, rfl⟩, hm, q⟩ := h
    rfl
  · obtain ⟨G, M0, a, r, ok, ⟨v_thing, _, rfl, h_thing, rfl⟩, hm, q⟩ := h
    unfold m_is_whole_2 at hm
    have sg := Same.refl G
    have hB := Same.refl M0
    refine ⟨_, (pss_cons (ps_ret (pe_and (pe_callB (call_isiKK (K := K)) (by rfl) T.n_isinstance (by decide +kernel) (pa_cons (pv 0) (pa_cons (pe_bltn (v := .ty "int") (by rfl) T.n_int (by decide +kernel) rfl) pa_nil))) (pe_one (pe_not (pe_callB (call_isiKK (K := K)) (by rfl) T.n_isinstance (by decide +kernel) (pa_cons (pv 0) (pa_cons (pe_bltn (v := .ty "bool") (by rfl) T.n_bool (by decide +kernel) rfl) pa_nil))))))) pss_nil), ?_⟩
    refine nrm (σ' := [some v_thing]) rfl ?_
    obtain ⟨t1, e_t1, hm⟩ := bs hm
    obtain ⟨t3, e_t3, hm⟩ := bs hm
    refine q_ret (ev_andG (c := t3) (ev_isiD1 isc_I isn_I T.co_Peal (kn_I T.cn_Peal) e_t1 (ea_d (ev_d (K := K) rfl h_thing) (ea_cons mo_cls ev_cls ea_nil))) (fun eb => by have e1 := cond_t eb e_t3; (obtain ⟨t2, e_t2, e1⟩ := bs e1); (have e1 := Option.some.inj e1); subst e1; exact (ev_not (ev_isiD1 isc_B isn_B T.co_Peal (kn_B T.cn_Peal) e_t2 (ea_d (ev_d (K := K) rfl h_thing) (ea_cons mo_cls ev_cls ea_nil))))) (fun eb => by have e1 := cond_f eb e_t3; cases e1; exact ⟨rfl, rfl⟩)) ok (fun v G H s1 ok hv => ?_)
    have sg := sg.trans s1
    cases hm
    exact q v G H sg (ok.less hB) hv
/-! ### is_within -/
theorem sc_is_within : FnScope ["thing", "low", "high"] ["thing", "low", "high"] (defScope s_is_within) := ⟨rfl, rfl, rfl, by decide +kernel, rfl, by decide +kernel, by decide +kernel⟩
def a_is_within (K : PySem.W.Frag) (a : Int × Int × Int) : List V → Hp → Prop := conP (DD K (Dat.int a.1)) (conP (DD K (Dat.int a.2.1)) (conP (DD K (Dat.int a.2.2)) (nilP)))
def m_is_within (a : Int × Int × Int) : Option Bool :=
  (m_is_whole a.1).bind fun t1 => some (t1 && ((decide (a.2.1 ≤ a.1)) && (decide (a.1 ≤ a.2.2))))
abbrev sp_is_within [Tb] (K : PySem.W.Frag) : Sp := spP (a_is_within K) (m_is_within) fun r => DD K (Dat.bool r)
theorem ok_is_within [Tb] {P : Program} {w : World} {K : PySem.W.Frag} {mg : Str → Option Value} {base : Heap} (T : Txt K mg) (O_is_whole : FnOk P w K mg base CX0 1 T.a_is_whole T.d_is_whole ["thing"] (sp_is_whole K)) : FnOk P w K mg base CX0 (2) T.a_is_within T.d_is_within ["thing", "low", "high"] (sp_is_within K) := by
  refine T.F_is_within.ok sc_is_within (fun vs H Q E h => ?_) (fun cdv A outer s0 H vs Q E hr h => ?_)
  · obtain ⟨G, M0, a, r, ok, ⟨v_thing, _, rfl, h_thing, v_low, _, rfl, h_low, v_high, _, rfl, h_high, rfl⟩, hm, q⟩ := h
    rfl
  · obtain ⟨G, M0, a, r, ok, ⟨v_thing, _, rfl, h_thing, v_low, _, rfl, h_low, v_high, _, rfl, h_high, rfl⟩, hm, q⟩ := h
    unfold m_is_within at hm
    have sg := Same.refl G
    have hB := Same.refl M0
    refine ⟨_, (pss_cons (ps_ret (pe_and (pe_call O_is_whole (hr.mono (by decide)) (by rfl) T.g_is_whole T.F_is_whole.kp T.b_is_whole .nil pass0 (pa_cons (pv 0) pa_nil)) (pe_one (pe_chain op_le op_le (pv 1) (pv 0) (pv 2))))) pss_nil), ?_⟩
    cases h_thing
    cases h_low
    cases h_high
    refine nrm (σ' := [some (.int a.1), some (.int a.2.1), some (.int a.2.2)]) rfl ?_
    obtain ⟨t1, e_t1, hm⟩ := bs hm
    refine q_ret (ev_and (ev_callP (res := fun r => DD K (Dat.bool r)) (a := a.1) e_t1 (ea_d (ev_d (K := K) rfl (.int _)) ea_nil)) fun _ => (ev_chainI (ev_d (K := K) rfl (.int _)) (ev_d (K := K) rfl (.int _)) (ev_d (K := K) rfl (.int _)))) ok (fun v G H s1 ok hv => ?_)
    have sg := sg.trans s1
    cases hm
    exact q v G H sg (ok.less hB) hv
/-! ### is_within_2 -/
def a_is_within_2 (K : PySem.W.Frag) (a : Dat × Int × Int) : List V → Hp → Prop := conP (DD K (id a.1)) (conP (DD K (Dat.int a.2.1)) (conP (DD K (Dat.int a.2.2)) (nilP)))
def m_is_within_2 (a : Dat × Int × Int) : Option Bool :=
  (m_is_whole_2 a.1).bind fun t1 => (cond t1 ((intD a.1).bind fun t2 => some ((decide (a.2.1 ≤ t2)) && (decide (t2 ≤ a.2.2)))) (some false)).bind fun t3 => some t3
abbrev sp_is_within_2 [Tb] (K : PySem.W.Frag) : Sp := spP (a_is_within_2 K) (m_is_within_2) fun r => DD K (Dat.bool r)
theorem ok_is_within_2 [Tb] {P : Program} {w : World} {K : PySem.W.Frag} {mg : Str → Option Value} {base : Heap} (T : Txt K mg) (O_is_whole_2 : FnOk P w K mg base CX0 1 T.a_is_whole T.d_is_whole ["thing"] (sp_is_whole_2 K)) : FnOk P w K mg base CX0 (2) T.a_is_within T.d_is_within ["thing", "low", "high"] (sp_is_within_2 K) := by
  refine T.F_is_within.ok sc_is_within (fun vs H Q E h => ?_) (fun cdv A outer s0 H vs Q E hr h => ?_)
  · obtain ⟨G, M0, a, r, ok, ⟨v_thing, _, rfl, h_thing, v_low, _, rfl, h_low, v_high, _, rfl, h_high, rfl⟩, hm, q⟩ := h
    rfl
  · obtain ⟨G, M0, a, r, ok, ⟨v_thing, _, rfl, h_thing, v_low, _, rfl, h_low, v_high, _, rfl, h_high, rfl⟩, hm, q⟩ := h
    unfold m_is_within_2 at hm
    have sg := Same.refl G
    have hB := Same.refl M0
    refine ⟨_, (pss_cons (ps_ret (pe_and (pe_call O_is_whole_2 (hr.mono (by decide)) (by rfl) T.g_is_whole T.F_is_whole.kp T.b_is_whole .nil pass0 (pa_cons (pv 0) pa_nil)) (pe_one (pe_chain op_le op_le (pv 1) (pv 0) (pv 2))))) pss_nil), ?_⟩
    cases h_low
    cases h_high
    refine nrm (σ' := [some v_thing, some (.int a.2.1), some (.int a.2.2)]) rfl ?_
    obtain ⟨t1, e_t1, hm⟩ := bs hm
    obtain ⟨t3, e_t3, hm⟩ := bs hm
    refine q_ret (ev_andG (c := t3) (ev_callP (res := fun r => DD K (Dat.bool r)) (a := a.1) e_t1 (ea_d (ev_d (K := K) rfl h_thing) ea_nil)) (fun eb => by have e1 := cond_t eb e_t3; (obtain ⟨t2, e_t2, e1⟩ := bs e1); (have e1 := Option.some.inj e1); subst e1; exact (ev_chainI (ev_d (K := K) rfl (.int _)) (ev_intD e_t2 (ev_d (K := K) rfl h_thing)) (ev_d (K := K) rfl (.int _)))) (fun eb => by have e1 := cond_f eb e_t3; cases e1; exact ⟨rfl, rfl⟩)) ok (fun v G H s1 ok hv => ?_)
    have sg := sg.trans s1
    cases hm
    exact q v G H sg (ok.less hB) hv
/-! ### is_name -/
theorem sc_is_name : FnScope ["thing", "sign"] ["thing"] (defScope s_is_name) := ⟨rfl, rfl, rfl, by decide +kernel, rfl, by decide +kernel, by decide +kernel⟩
def a_is_name (K : PySem.W.Frag) (a : Str) : List V → Hp → Prop := conP (DD K (Dat.str a)) (nilP)
def m_is_name (a : Str) : Option Bool :=
  (cond (!true) (some true) ((lenS a).bind fun t1 => some (!((decide ((1 : Int) ≤ t1)) && (decide (t1 ≤ (6 : Int))))))).bind fun t2 => cond t2 (some false) ((lcO (fun x3 : Str => (inSign x3 (Str.ofString "abcdefghijklmnopqrstuvwxyz")).bind fun t9 => some t9) (signs a)).bind fun t10 => some (t10.all id))
abbrev sp_is_name [Tb] (K : PySem.W.Frag) : Sp := spP (a_is_name K) (m_is_name) fun r => DD K (Dat.bool r)
theorem ok_is_name [Tb] {P : Program} {w : World} {K : PySem.W.Frag} {mg : Str → Option Value} {base : Heap} (T : Txt K mg) : FnOk P w K mg base CX0 (1) T.a_is_name T.d_is_name ["thing"] (sp_is_name K) := by
  refine T.F_is_name.ok sc_is_name (fun vs H Q E h => ?_) (fun cdv A outer s0 H vs Q E hr h => ?_)
  · obtain ⟨G, M0, a, r, ok, ⟨v_thing, _, rfl, h_thing, rfl⟩, hm, q⟩ := h
    rfl
  · obtain ⟨G, M0, a, r, ok, ⟨v_thing, _, rfl, h_thing, rfl⟩, hm, q⟩ := h
    unfold m_is_name at hm
    have sg := Same.refl G
    have hB := Same.refl M0
    refine ⟨_, (pss_cons (ps_if (PW.pt (pw_or (pt_not (pt_val (pe_callB (call_isiKK (K := K)) (by rfl) T.n_isinstance (by decide +kernel) (pa_cons (pv 0) (pa_cons (pe_bltn (v := .ty "str") (by rfl) T.n_str (by decide +kernel) rfl) pa_nil))))) (pw_or1 (pt_not (pt_chain op_le op_le pe_int (pe_callB cl_lenS (by rfl) T.n_len (by decide +kernel) (pa_cons (pv 0) pa_nil)) (pe_glob (v := .int 6) (by rfl) T.c_MOST_LETTERS ⟨_, rfl⟩)))))) (pss_cons (ps_ret pe_bl) pss_nil) pss_nil) (pss_cons (ps_ret (pe_callB (cr_allK (K := K) rfl) (by rfl) T.n_all (by decide +kernel) (pa_cons (pe_lc (own := [("sign", 1)]) (g := (gName 1)) (tt := tYes) rfl sc_is_name.nd (pi_str (pv 0)) (blkOk_by (own := [("sign", 1)]) (N := ["thing", "sign"]) (sc := defScope s_is_name) (by decide +kernel)) (fun _ _ _ _ _ => (pg_name (i := 1) sc_is_name.nd rfl (by first | exact .inl rfl | exact .inr rfl))) (fun _ _ _ _ _ => pts_nil) (fun _ _ _ _ _ => (pe_cmpR op_in_sign (pv 1) (pe_glob (v := .str "abcdefghijklmnopqrstuvwxyz") (by rfl) T.c_LETTERS ⟨_, rfl⟩) (by rfl)))) pa_nil))) pss_nil)), ?_⟩
    refine nrm (σ' := [some v_thing, none]) rfl ?_
    obtain ⟨t2, e_t2, hm⟩ := bs hm
    refine q_if (et_orG (c := t2) (et_not (et_B (ev_isi (d := Dat.str a) (n := "str") (b := true) rfl (show kitB "str" "str" = some true by decide +kernel) (ea_d (ev_d (K := K) rfl h_thing) (ea_cons mo_cls ev_cls ea_nil))))) (fun eb => by have e1 := cond_f eb e_t2; (obtain ⟨t1, e_t1, e1⟩ := bs e1); (have e1 := Option.some.inj e1); subst e1; exact (et_not (et_test (ev_chainI (ev_int (K := K)) (ev_lenS e_t1 (ea_d (ev_d (K := K) rfl h_thing) ea_nil)) (ev_int (K := K)))))) (fun eb => by have e1 := cond_t eb e_t2; cases e1; exact ⟨rfl, rfl⟩)) ok (fun hb G H s1 ok => ?_) (fun hb G H s1 ok => ?_)
    · have hm := cond_t hb hm
      have h_thing := dp_up s1 _ h_thing
      have sg := sg.trans s1
      refine q_ret (ev_bl (K := K)) ok (fun v G H s1 ok hv => ?_)
      have sg := sg.trans s1
      cases hm
      exact q v G H sg (ok.less hB) hv
    · have hm := cond_f hb hm
      have h_thing := dp_up s1 _ h_thing
      have sg := sg.trans s1
      refine q_nilU ?_
      obtain ⟨t10, e_t10, hm⟩ := bs hm
      refine q_ret (ev_allL (ea_d (EvL.ev (el_lcM (ea := Dat.str) (eb := Dat.bool) (xs := (signs a)) (ys := t10) (hf := e_t10) (Src.is (src_str (ev_d (K := K) rfl h_thing)) signs_map) (fun x3 _ Mx7 _ _ he8 sM6 sG5 hv4 => by (obtain ⟨t9, e_t9, he8⟩ := bs he8); (have he8 := Option.some.inj he8); subst he8; exact (tg_name ⟨rfl, (ev_inSign e_t9 (ev_d (K := K) rfl hv4) (ev_str (K := K) (by decide +kernel)))⟩)))) ea_nil)) ok (fun v G H s1 ok hv => ?_)
      have sg := sg.trans s1
      cases hm
      exact q v G H sg (ok.less hB) hv
/-! ### is_name_2 -/
def a_is_name_2 (K : PySem.W.Frag) (a : Dat) : List V → Hp → Prop := conP (DD K (id a)) (nilP)
def m_is_name_2 (a : Dat) : Option Bool :=
  (isO1 "Peal" isS a).bind fun t1 => (cond (!t1) (some true) ((strD a).bind fun t2 => (lenS t2).bind fun t3 => some (!((decide ((1 : Int) ≤ t3)) && (decide (t3 ≤ (6 : Int))))))).bind fun t4 => cond t4 (some false) ((strD a).bind fun t5 => (lcO (fun x6 : Str => (inSign x6 (Str.ofString "abcdefghijklmnopqrstuvwxyz")).bind fun t12 => some t12) (signs t5)).bind fun t13 => some (t13.all id))
abbrev sp_is_name_2 [Tb] (K : PySem.W.Frag) : Sp := spP (a_is_name_2 K) (m_is_name_2) fun r => DD K (Dat.bool r)
theorem ok_is_name_2 [Tb] {P : Program} {w : World} {K : PySem.W.Frag} {mg : Str → Option Value} {base : Heap} (T : Txt K mg) : FnOk P w K mg base CX0 (1) T.a_is_name T.d_is_name ["thing"] (sp_is_name_2 K) := by
  refine T.F_is_name.ok sc_is_name (fun vs H Q E h => ?_) (fun cdv A outer s0 H vs Q E hr h => ?_)
  · obtain ⟨G, M0, a, r, ok, ⟨v_thing, _, rfl, h_thing, rfl⟩, hm, q⟩ := h
    rfl
  · obtain ⟨G, M0, a, r, ok, ⟨v_thing, _, rfl, h_thing, rfl⟩, hm, q⟩ := h
    unfold m_is_name_2 at hm
    have sg := Same.refl G
    have hB := Same.refl M0
    refine ⟨_, (pss_cons (ps_if (PW.pt (pw_or (pt_not (pt_val (pe_callB (call_isiKK (K := K)) (by rfl) T.n_isinstance (by decide +kernel) (pa_cons (pv 0) (pa_cons (pe_bltn (v := .ty "str") (by rfl) T.n_str (by decide +kernel) rfl) pa_nil))))) (pw_or1 (pt_not (pt_chain op_le op_le pe_int (pe_callB cl_lenS (by rfl) T.n_len (by decide +kernel) (pa_cons (pv 0) pa_nil)) (pe_glob (v := .int 6) (by rfl) T.c_MOST_LETTERS ⟨_, rfl⟩)))))) (pss_cons (ps_ret pe_bl) pss_nil) pss_nil) (pss_cons (ps_ret (pe_callB (cr_allK (K := K) rfl) (by rfl) T.n_all (by decide +kernel) (pa_cons (pe_lc (own := [("sign", 1)]) (g := (gName 1)) (tt := tYes) rfl sc_is_name.nd (pi_str (pv 0)) (blkOk_by (own := [("sign", 1)]) (N := ["thing", "sign"]) (sc := defScope s_is_name) (by decide +kernel)) (fun _ _ _ _ _ => (pg_name (i := 1) sc_is_name.nd rfl (by first | exact .inl rfl | exact .inr rfl))) (fun _ _ _ _ _ => pts_nil) (fun _ _ _ _ _ => (pe_cmpR op_in_sign (pv 1) (pe_glob (v := .str "abcdefghijklmnopqrstuvwxyz") (by rfl) T.c_LETTERS ⟨_, rfl⟩) (by rfl)))) pa_nil))) pss_nil)), ?_⟩
    refine nrm (σ' := [some v_thing, none]) rfl ?_
    obtain ⟨t1, e_t1, hm⟩ := bs hm
    obtain ⟨t4, e_t4, hm⟩ := bs hm
    refine q_if (et_orG (c := t4) (et_not (et_B (ev_isiD1 isc_S isn_S T.co_Peal (kn_S T.cn_Peal) e_t1 (ea_d (ev_d (K := K) rfl h_thing) (ea_cons mo_cls ev_cls ea_nil))))) (fun eb => by have e1 := cond_f eb e_t4; (obtain ⟨t2, e_t2, e1⟩ := bs e1); (obtain ⟨t3, e_t3, e1⟩ := bs e1); (have e1 := Option.some.inj e1); subst e1; exact (et_not (et_test (ev_chainI (ev_int (K := K)) (ev_lenS e_t3 (ea_d (ev_strD e_t2 (ev_d (K := K) rfl h_thing)) ea_nil)) (ev_int (K := K)))))) (fun eb => by have e1 := cond_t eb e_t4; cases e1; exact ⟨rfl, rfl⟩)) ok (fun hb G H s1 ok => ?_) (fun hb G H s1 ok => ?_)
    · have hm := cond_t hb hm
      have h_thing := dp_up s1 _ h_thing
      have sg := sg.trans s1
      refine q_ret (ev_bl (K := K)) ok (fun v G H s1 ok hv => ?_)
      have sg := sg.trans s1
      cases hm
      exact q v G H sg (ok.less hB) hv
    · have hm := cond_f hb hm
      have h_thing := dp_up s1 _ h_thing
      have sg := sg.trans s1
      refine q_nilU ?_
      obtain ⟨t5, e_t5, hm⟩ := bs hm
      obtain ⟨t13, e_t13, hm⟩ := bs hm
      refine q_ret (ev_allL (ea_d (EvL.ev (el_lcM (ea := Dat.str) (eb := Dat.bool) (xs := (signs t5)) (ys := t13) (hf := e_t13) (Src.is (src_str (ev_strD e_t5 (ev_d (K := K) rfl h_thing))) signs_map) (fun x6 _ Mx10 _ _ he11 sM9 sG8 hv7 => by (obtain ⟨t12, e_t12, he11⟩ := bs he11); (have he11 := Option.some.inj he11); subst he11; exact (tg_name ⟨rfl, (ev_inSign e_t12 (ev_d (K := K) rfl hv7) (ev_str (K := K) (by decide +kernel)))⟩)))) ea_nil)) ok (fun v G H s1 ok hv => ?_)
      have sg := sg.trans s1
      cases hm
      exact q v G H sg (ok.less hB) hv
/-! ### is_figures -/
theorem sc_is_figures : FnScope ["word", "sign"] ["word"] (defScope s_is_figures) := ⟨rfl, rfl, rfl, by decide +kernel, rfl, by decide +kernel, by decide +kernel⟩
def a_is_figures (K : PySem.W.Frag) (a : Str) : List V → Hp → Prop := conP (DD K (Dat.str a)) (nilP)
def m_is_figures (a : Str) : Option Bool :=
  (cond (decide (a = (Str.ofString ""))) (some true) ((lcO (fun x1 : Str => (inSign x1 (Str.ofString "0123456789")).bind fun t7 => some t7) (signs a)).bind fun t8 => some (!(t8.all id)))).bind fun t9 => cond t9 (some false) ((cond (decide (a = (Str.ofString "0"))) (some true) ((atS a (0 : Int)).bind fun t10 => some (!decide (t10 = (Str.ofString "0"))))).bind fun t11 => some t11)
abbrev sp_is_figures [Tb] (K : PySem.W.Frag) : Sp := spP (a_is_figures K) (m_is_figures) fun r => DD K (Dat.bool r)
theorem ok_is_figures [Tb] {P : Program} {w : World} {K : PySem.W.Frag} {mg : Str → Option Value} {base : Heap} (T : Txt K mg) : FnOk P w K mg base CX0 (1) T.a_is_figures T.d_is_figures ["word"] (sp_is_figures K) := by
  refine T.F_is_figures.ok sc_is_figures (fun vs H Q E h => ?_) (fun cdv A outer s0 H vs Q E hr h => ?_)
  · obtain ⟨G, M0, a, r, ok, ⟨v_word, _, rfl, h_word, rfl⟩, hm, q⟩ := h
    rfl
  · obtain ⟨G, M0, a, r, ok, ⟨v_word, _, rfl, h_word, rfl⟩, hm, q⟩ := h
    unfold m_is_figures at hm
    have sg := Same.refl G
    have hB := Same.refl M0
    refine ⟨_, (pss_cons (ps_if (PW.pt (pw_or (pt_cmpR op_eq (pv 0) pe_str (nomark _)) (pw_or1 (pt_not (pt_val (pe_callB (cr_allK (K := K) rfl) (by rfl) T.n_all (by decide +kernel) (pa_cons (pe_lc (own := [("sign", 1)]) (g := (gName 1)) (tt := tYes) rfl sc_is_figures.nd (pi_str (pv 0)) (blkOk_by (own := [("sign", 1)]) (N := ["word", "sign"]) (sc := defScope s_is_figures) (by decide +kernel)) (fun _ _ _ _ _ => (pg_name (i := 1) sc_is_figures.nd rfl (by first | exact .inl rfl | exact .inr rfl))) (fun _ _ _ _ _ => pts_nil) (fun _ _ _ _ _ => (pe_cmpR op_in_sign (pv 1) (pe_glob (v := .str "0123456789") (by rfl) T.c_FIGURES ⟨_, rfl⟩) (by rfl)))) pa_nil))))))) (pss_cons (ps_ret pe_bl) pss_nil) pss_nil) (pss_cons (ps_ret (pe_or (pe_cmpR op_eq (pv 0) pe_str (nomark _)) (pe_one (pe_cmpR op_ne (pe_ix ix_str (pv 0) pe_int (fun _ _ => rfl)) pe_str (nomark _))))) pss_nil)), ?_⟩
    refine nrm (σ' := [some v_word, none]) rfl ?_
    obtain ⟨t9, e_t9, hm⟩ := bs hm
    refine q_if (et_orG (c := t9) (et_test (ev_eqS (ev_d (K := K) rfl h_word) (ev_str (K := K) (by decide +kernel)))) (fun eb => by have e1 := cond_f eb e_t9; (obtain ⟨t8, e_t8, e1⟩ := bs e1); (have e1 := Option.some.inj e1); subst e1; exact (et_not (et_B (ev_allL (ea_d (EvL.ev (el_lcM (ea := Dat.str) (eb := Dat.bool) (xs := (signs a)) (ys := t8) (hf := e_t8) (Src.is (src_str (ev_d (K := K) rfl h_word)) signs_map) (fun x1 _ Mx5 _ _ he6 sM4 sG3 hv2 => by (obtain ⟨t7, e_t7, he6⟩ := bs he6); (have he6 := Option.some.inj he6); subst he6; exact (tg_name ⟨rfl, (ev_inSign e_t7 (ev_d (K := K) rfl hv2) (ev_str (K := K) (by decide +kernel)))⟩)))) ea_nil))))) (fun eb => by have e1 := cond_t eb e_t9; cases e1; exact ⟨rfl, rfl⟩)) ok (fun hb G H s1 ok => ?_) (fun hb G H s1 ok => ?_)
    · have hm := cond_t hb hm
      have h_word := dp_up s1 _ h_word
      have sg := sg.trans s1
      refine q_ret (ev_bl (K := K)) ok (fun v G H s1 ok hv => ?_)
      have sg := sg.trans s1
      cases hm
      exact q v G H sg (ok.less hB) hv
    · have hm := cond_f hb hm
      have h_word := dp_up s1 _ h_word
      have sg := sg.trans s1
      refine q_nilU ?_
      obtain ⟨t11, e_t11, hm⟩ := bs hm
      refine q_ret (ev_orG (c := t11) (ev_eqS (ev_d (K := K) rfl h_word) (ev_str (K := K) (by decide +kernel))) (fun eb => by have e1 := cond_f eb e_t11; (obtain ⟨t10, e_t10, e1⟩ := bs e1); (have e1 := Option.some.inj e1); subst e1; exact (ev_neS (ev_ixS e_t10 (ev_d (K := K) rfl h_word) (ev_int (K := K))) (ev_str (K := K) (by decide +kernel)))) (fun eb => by have e1 := cond_t eb e_t11; cases e1; exact ⟨rfl, rfl⟩)) ok (fun v G H s1 ok hv => ?_)
      have sg := sg.trans s1
      cases hm
      exact q v G H sg (ok.less hB) hv
/-! ### is_bell -/
theorem sc_is_bell : FnScope ["thing"] ["thing"] (defScope s_is_bell) := ⟨rfl, rfl, rfl, by decide +kernel, rfl, by decide +kernel, by decide +kernel⟩
def a_is_bell (K : PySem.W.Frag) (a : (Str × Int)) : List V → Hp → Prop := conP (DD K ((eP2 Dat.str Dat.int) a)) (nilP)
def m_is_bell (a : (Str × Int)) : Option Bool :=
  cond ((!true) || (!decide ((2 : Int) = (2 : Int)))) (some false) ((m_is_name a.1).bind fun t1 => (cond t1 ((m_is_within (a.2, (2 : Int), (24 : Int))).bind fun t2 => some t2) (some false)).bind fun t3 => some t3)
abbrev sp_is_bell [Tb] (K : PySem.W.Frag) : Sp := spP (a_is_bell K) (m_is_bell) fun r => DD K (Dat.bool r)
theorem ok_is_bell [Tb] {P : Program} {w : World} {K : PySem.W.Frag} {mg : Str → Option Value} {base : Heap} (T : Txt K mg) (O_is_name : FnOk P w K mg base CX0 1 T.a_is_name T.d_is_name ["thing"] (sp_is_name K)) (O_is_within : FnOk P w K mg base CX0 2 T.a_is_within T.d_is_within ["thing", "low", "high"] (sp_is_within K)) : FnOk P w K mg base CX0 (3) T.a_is_bell T.d_is_bell ["thing"] (sp_is_bell K) := by
  refine T.F_is_bell.ok sc_is_bell (fun vs H Q E h => ?_) (fun cdv A outer s0 H vs Q E hr h => ?_)
  · obtain ⟨G, M0, a, r, ok, ⟨v_thing, _, rfl, h_thing, rfl⟩, hm, q⟩ := h
    rfl
  · obtain ⟨G, M0, a, r, ok, ⟨v_thing, _, rfl, h_thing, rfl⟩, hm, q⟩ := h
    unfold m_is_bell at hm
    have sg := Same.refl G
    have hB := Same.refl M0
    refine ⟨_, (pss_cons (ps_if (PW.pt (pw_or (pt_not (pt_val (pe_callB (call_isiKK (K := K)) (by rfl) T.n_isinstance (by decide +kernel) (pa_cons (pv 0) (pa_cons (pe_bltn (v := .ty "tuple") (by rfl) T.n_tuple (by decide +kernel) rfl) pa_nil))))) (pw_or1 (pt_cmpR op_ne (pe_callB (cl_lenK (K := K)) (by rfl) T.n_len (by decide +kernel) (pa_cons (pv 0) pa_nil)) pe_int (nomark _))))) (pss_cons (ps_ret pe_bl) pss_nil) pss_nil) (pss_cons (ps_ret (pe_and (pe_call O_is_name (hr.mono (by decide)) (by rfl) T.g_is_name T.F_is_name.kp T.b_is_name .nil pass0 (pa_cons (pe_ix (ix_tupK (K := K)) (pv 0) pe_int (fun _ _ => rfl)) pa_nil)) (pe_one (pe_call O_is_within (hr.mono (by decide)) (by rfl) T.g_is_within T.F_is_within.kp T.b_is_within .nil pass0 (pa_cons (pe_ix (ix_tupK (K := K)) (pv 0) pe_int (fun _ _ => rfl)) (pa_cons (pe_glob (v := .int 2) (by rfl) T.c_LEAST_MARKS ⟨_, rfl⟩) (pa_cons (pe_glob (v := .int 24) (by rfl) T.c_MOST_MARKS ⟨_, rfl⟩) pa_nil))))))) pss_nil)), ?_⟩
    refine nrm (σ' := [some v_thing]) rfl ?_
    refine q_if (et_or (et_not (et_B (ev_isi (d := (eP2 Dat.str Dat.int) a) (n := "tuple") (b := true) rfl (show kitB "tuple" "tuple" = some true by decide +kernel) (ea_d (ev_d (K := K) rfl h_thing) (ea_cons mo_cls ev_cls ea_nil))))) fun _ => (et_test (ev_neI (ev_lenT (ea_d (ev_d (K := K) rfl h_thing) ea_nil)) (ev_int (K := K))))) ok (fun hb G H s1 ok => ?_) (fun hb G H s1 ok => ?_)
    · have hm := cond_t hb hm
      have h_thing := dp_up s1 _ h_thing
      have sg := sg.trans s1
      refine q_ret (ev_bl (K := K)) ok (fun v G H s1 ok hv => ?_)
      have sg := sg.trans s1
      cases hm
      exact q v G H sg (ok.less hB) hv
    · have hm := cond_f hb hm
      have h_thing := dp_up s1 _ h_thing
      have sg := sg.trans s1
      refine q_nilU ?_
      obtain ⟨t1, e_t1, hm⟩ := bs hm
      obtain ⟨t3, e_t3, hm⟩ := bs hm
      refine q_ret (ev_andG (c := t3) (ev_callP (res := fun r => DD K (Dat.bool r)) (a := a.1) e_t1 (ea_d (ev_ixT (d := Dat.str a.1) rfl (ev_d (K := K) rfl h_thing) ev_int) ea_nil)) (fun eb => by have e1 := cond_t eb e_t3; (obtain ⟨t2, e_t2, e1⟩ := bs e1); (have e1 := Option.some.inj e1); subst e1; exact (ev_callP (res := fun r => DD K (Dat.bool r)) (a := (a.2, (2 : Int), (24 : Int))) e_t2 (ea_d (ev_ixT (d := Dat.int a.2) rfl (ev_d (K := K) rfl h_thing) ev_int) (ea_d (ev_int (K := K)) (ea_d (ev_int (K := K)) ea_nil))))) (fun eb => by have e1 := cond_f eb e_t3; cases e1; exact ⟨rfl, rfl⟩)) ok (fun v G H s1 ok hv => ?_)
      have sg := sg.trans s1
      cases hm
      exact q v G H sg (ok.less hB) hv
/-! ### check_bells -/
theorem sc_check_bells : FnScope ["bells", "place", "bell"] ["bells"] (defScope s_check_bells) := ⟨rfl, rfl, rfl, by decide +kernel, rfl, by decide +kernel, by decide +kernel⟩
def a_check_bells (K : PySem.W.Frag) (a : (List (Str × Int))) : List V → Hp → Prop := conP (DD K ((eT (eP2 Dat.str Dat.int)) a)) (nilP)
def m_check_bells (a : (List (Str × Int))) : Option Unit :=
  cond ((!true) || (!((decide ((1 : Int) ≤ (a.length : Int))) && (decide ((a.length : Int) ≤ (8 : Int)))))) (none) ((forO (fun (st2 : Unit) (x3 : (Int × (Str × Int))) => (m_is_bell x3.2).bind fun t12 => (cond (!t12) (some true) ((cond (decide ((0 : Int) < x3.1)) ((atI a (x3.1 - (1 : Int))).bind fun t13 => some (!sLt t13.1 x3.2.1)) (some false)).bind fun t14 => some t14)).bind fun t15 => cond t15 (none) (some ())) (enum a) ()).bind fun fin1 => some ())
abbrev sp_check_bells [Tb] (K : PySem.W.Frag) : Sp := spP (a_check_bells K) (m_check_bells) fun r => DD K (eN r)
theorem ok_check_bells [Tb] {P : Program} {w : World} {K : PySem.W.Frag} {mg : Str → Option Value} {base : Heap} (T : Txt K mg) (O_is_bell : FnOk P w K mg base CX0 3 T.a_is_bell T.d_is_bell ["thing"] (sp_is_bell K)) : FnOk P w K mg base CX0 (4) T.a_check_bells T.d_check_bells ["bells"] (sp_check_bells K) := by
  refine T.F_check_bells.ok sc_check_bells (fun vs H Q E h => ?_) (fun cdv A outer s0 H vs Q E hr h => ?_)
  · obtain ⟨G, M0, a, r, ok, ⟨v_bells, _, rfl, h_bells, rfl⟩, hm, q⟩ := h
    rfl
  · obtain ⟨G, M0, a, r, ok, ⟨v_bells, _, rfl, h_bells, rfl⟩, hm, q⟩ := h
    unfold m_check_bells at hm
    have sg := Same.refl G
    have hB := Same.refl M0
    refine ⟨_, (pss_cons (ps_if (PW.pt (pw_or (pt_not (pt_val (pe_callB (call_isiKK (K := K)) (by rfl) T.n_isinstance (by decide +kernel) (pa_cons (pv 0) (pa_cons (pe_bltn (v := .ty "tuple") (by rfl) T.n_tuple (by decide +kernel) rfl) pa_nil))))) (pw_or1 (pt_not (pt_chain op_le op_le pe_int (pe_callB (cl_lenK (K := K)) (by rfl) T.n_len (by decide +kernel) (pa_cons (pv 0) pa_nil)) (pe_glob (v := .int 8) (by rfl) T.c_MOST_BELLS ⟨_, rfl⟩)))))) (pss_cons ps_never pss_nil) pss_nil) (pss_cons (ps_for PassesOwn.never rfl (pi_enumTK (K := K) (by rfl) T.n_enumerate (pa_cons (pv 0) pa_nil)) (pg_tup rfl (pgs_cons (pg_name (i := 1) sc_check_bells.nd rfl (.inl rfl)) (pgs_cons (pg_name (i := 2) sc_check_bells.nd rfl (.inl rfl)) pgs_nil))) (pss_cons (ps_if (PW.pt (pw_or (pt_not (pt_val (pe_call O_is_bell (hr.mono (by decide)) (by rfl) T.g_is_bell T.F_is_bell.kp T.b_is_bell .nil pass0 (pa_cons (pv 2) pa_nil)))) (pw_or1 (PW.pt (pw_and (pt_cmpR op_gt (pv 1) pe_int (nomark _)) (pw_and1 (pt_cmpR op_le_str (pe_ix (ix_tupK (K := K)) (pv 2) pe_int (fun _ _ => rfl)) (pe_ix (ix_tupK (K := K)) (pe_ix (ix_tupK (K := K)) (pv 0) (pe_op op_sub (pv 1) pe_int) (fun _ _ => rfl)) pe_int (fun _ _ => rfl)) (nomark _)))))))) (pss_cons ps_never pss_nil) pss_nil) pss_nil)) pss_nil)), ?_⟩
    refine nrm (σ' := [some v_bells, none, none]) rfl ?_
    refine q_if (et_or (et_not (et_B (ev_isi (d := (eT (eP2 Dat.str Dat.int)) a) (n := "tuple") (b := true) rfl (show kitB "tuple" "tuple" = some true by decide +kernel) (ea_d (ev_d (K := K) rfl h_bells) (ea_cons mo_cls ev_cls ea_nil))))) fun _ => (et_not (et_test (ev_chainI (ev_int (K := K)) (ev_lenTM (e := (eP2 Dat.str Dat.int)) (ea_d (ev_d (K := K) rfl h_bells) ea_nil)) (ev_int (K := K)))))) ok (fun hb G H s1 ok => ?_) (fun hb G H s1 ok => ?_)
    · have hm := cond_t hb hm
      have h_bells := dp_up s1 _ h_bells
      have sg := sg.trans s1
      cases hm
    · have hm := cond_f hb hm
      have h_bells := dp_up s1 _ h_bells
      have sg := sg.trans s1
      refine q_nilU ?_
      obtain ⟨fin1, e_fin1, hm⟩ := bs hm
      have hmo4 := hm
      refine q_forO (ea := (eR2 Dat.int (eP2 Dat.str Dat.int))) (Src.is (src_enumT (ea_d (ev_d (K := K) rfl h_bells) ea_nil)) enumD_map) ok (fun (st2 : Unit) σ1 G1 M1 => ∃ (y_place : Option V) (y_bell : Option V), σ1 = [some v_bells, y_place, y_bell] ∧ (Same M0 M1)) e_fin1 (fun G1 s1 => ⟨_, _, rfl, hB⟩) (by rintro _ _ _ _ _ ⟨y_place, y_bell, rfl, hB⟩ s2; exact ⟨_, _, rfl, hB⟩) (fun x3 xv6 st2 st' σ1 G M H N hm hj s1 ok hv hN => ?_) (fun σ1 G M H s1 ok hj => ?_)
      · obtain ⟨y_place, y_bell, rfl, hB⟩ := hj
        have h_bells := dp_up s1 _ h_bells
        have sg := sg.trans s1
        have sl7 := Same.refl G
        refine gr2 hv ok.g (fun w8 w9 hw10 hw11 => ?_)
        refine gn ?_
        have h_place := hw10
        cases h_place
        refine gn ?_
        have h_bell := hw11
        refine nrm (σ' := [some v_bells, some (.int x3.1), some w9]) rfl ?_
        obtain ⟨t12, e_t12, hm⟩ := bs hm
        obtain ⟨t15, e_t15, hm⟩ := bs hm
        refine q_if (et_orG (c := t15) (et_not (et_B (ev_callP (res := fun r => DD K (Dat.bool r)) (a := x3.2) e_t12 (ea_d (ev_d (K := K) rfl h_bell) ea_nil)))) (fun eb => by have e1 := cond_f eb e_t15; (obtain ⟨t14, e_t14, e1⟩ := bs e1); (have e1 := Option.some.inj e1); subst e1; exact (et_andG (c := t14) (et_test (ev_gt (ev_d (K := K) rfl (.int _)) (ev_int (K := K)))) (fun eb => by have e1 := cond_t eb e_t14; (obtain ⟨t13, e_t13, e1⟩ := bs e1); (have e1 := Option.some.inj e1); subst e1; exact (et_test (ev_leS (ev_ixT (d := Dat.str x3.2.1) rfl (ev_d (K := K) rfl h_bell) ev_int) (ev_ixT (d := Dat.str t13.1) rfl (ev_ixTM (e := (eP2 Dat.str Dat.int)) e_t13 (ev_d (K := K) rfl h_bells) (ev_sub (ev_d (K := K) rfl (.int _)) (ev_int (K := K)))) ev_int)))) (fun eb => by have e1 := cond_f eb e_t14; cases e1; exact ⟨rfl, rfl⟩))) (fun eb => by have e1 := cond_t eb e_t15; cases e1; exact ⟨rfl, rfl⟩)) ok (fun hb G H s1 ok => ?_) (fun hb G H s1 ok => ?_)
        · have hm := cond_t hb hm
          have h_bells := dp_up s1 _ h_bells
          have h_bell := dp_up s1 _ h_bell
          have sg := sg.trans s1
          have sl7 := sl7.trans s1
          cases hm
        · have hm := cond_f hb hm
          have h_bells := dp_up s1 _ h_bells
          have h_bell := dp_up s1 _ h_bell
          have sg := sg.trans s1
          have sl7 := sl7.trans s1
          refine q_nilU ?_
          refine q_nil ?_
          cases hm
          exact hN _ _ _ _ sl7 ok ⟨_, _, rfl, hB⟩
      · obtain ⟨y_place, y_bell, rfl, hB⟩ := hj
        have h_bells := dp_up s1 _ h_bells
        have sg := sg.trans s1
        refine q_nil ?_
        cases hm
        exact q _ _ _ sg (ok.less hB) .non
/-! ### is_bell_2 -/
def a_is_bell_2 (K : PySem.W.Frag) (a : Dat) : List V → Hp → Prop := conP (DD K (id a)) (nilP)
def m_is_bell_2 (a : Dat) : Option Bool :=
  (isO1 "Peal" isT a).bind fun t1 => (cond (!t1) (some true) ((lenD a).bind fun t2 => some (!decide (t2 = (2 : Int))))).bind fun t3 => cond t3 (some false) ((atD a (0 : Int)).bind fun t4 => (m_is_name_2 t4).bind fun t5 => (cond t5 ((atD a (1 : Int)).bind fun t6 => (m_is_within_2 (t6, (2 : Int), (24 : Int))).bind fun t7 => some t7) (some false)).bind fun t8 => some t8)
abbrev sp_is_bell_2 [Tb] (K : PySem.W.Frag) : Sp := spP (a_is_bell_2 K) (m_is_bell_2) fun r => DD K (Dat.bool r)
theorem ok_is_bell_2 [Tb] {P : Program} {w : World} {K : PySem.W.Frag} {mg : Str → Option Value} {base : Heap} (T : Txt K mg) (O_is_name_2 : FnOk P w K mg base CX0 1 T.a_is_name T.d_is_name ["thing"] (sp_is_name_2 K)) (O_is_within_2 : FnOk P w K mg base CX0 2 T.a_is_within T.d_is_within ["thing", "low", "high"] (sp_is_within_2 K)) : FnOk P w K mg base CX0 (3) T.a_is_bell T.d_is_bell ["thing"] (sp_is_bell_2 K) := by
  refine T.F_is_bell.ok sc_is_bell (fun vs H Q E h => ?_) (fun cdv A outer s0 H vs Q E hr h => ?_)
  · obtain ⟨G, M0, a, r, ok, ⟨v_thing, _, rfl, h_thing, rfl⟩, hm, q⟩ := h
    rfl
  · obtain ⟨G, M0, a, r, ok, ⟨v_thing, _, rfl, h_thing, rfl⟩, hm, q⟩ := h
    unfold m_is_bell_2 at hm
    have sg := Same.refl G
    have hB := Same.refl M0
    refine ⟨_, (pss_cons (ps_if (PW.pt (pw_or (pt_not (pt_val (pe_callB (call_isiKK (K := K)) (by rfl) T.n_isinstance (by decide +kernel) (pa_cons (pv 0) (pa_cons (pe_bltn (v := .ty "tuple") (by rfl) T.n_tuple (by decide +kernel) rfl) pa_nil))))) (pw_or1 (pt_cmpR op_ne (pe_callB (cl_lenK (K := K)) (by rfl) T.n_len (by decide +kernel) (pa_cons (pv 0) pa_nil)) pe_int (nomark _))))) (pss_cons (ps_ret pe_bl) pss_nil) pss_nil) (pss_cons (ps_ret (pe_and (pe_call O_is_name_2 (hr.mono (by decide)) (by rfl) T.g_is_name T.F_is_name.kp T.b_is_name .nil pass0 (pa_cons (pe_ix (ix_seqK (K := K)) (pv 0) pe_int (fun _ _ => rfl)) pa_nil)) (pe_one (pe_call O_is_within_2 (hr.mono (by decide)) (by rfl) T.g_is_within T.F_is_within.kp T.b_is_within .nil pass0 (pa_cons (pe_ix (ix_seqK (K := K)) (pv 0) pe_int (fun _ _ => rfl)) (pa_cons (pe_glob (v := .int 2) (by rfl) T.c_LEAST_MARKS ⟨_, rfl⟩) (pa_cons (pe_glob (v := .int 24) (by rfl) T.c_MOST_MARKS ⟨_, rfl⟩) pa_nil))))))) pss_nil)), ?_⟩
    refine nrm (σ' := [some v_thing]) rfl ?_
    obtain ⟨t1, e_t1, hm⟩ := bs hm
    obtain ⟨t3, e_t3, hm⟩ := bs hm
    refine q_if (et_orG (c := t3) (et_not (et_B (ev_isiD1 isc_T isn_T T.co_Peal (kn_T T.cn_Peal) e_t1 (ea_d (ev_d (K := K) rfl h_thing) (ea_cons mo_cls ev_cls ea_nil))))) (fun eb => by have e1 := cond_f eb e_t3; (obtain ⟨t2, e_t2, e1⟩ := bs e1); (have e1 := Option.some.inj e1); subst e1; exact (et_test (ev_neI (ev_lenD e_t2 (ea_d (ev_d (K := K) rfl h_thing) ea_nil)) (ev_int (K := K))))) (fun eb => by have e1 := cond_t eb e_t3; cases e1; exact ⟨rfl, rfl⟩)) ok (fun hb G H s1 ok => ?_) (fun hb G H s1 ok => ?_)
    · have hm := cond_t hb hm
      have h_thing := dp_up s1 _ h_thing
      have sg := sg.trans s1
      refine q_ret (ev_bl (K := K)) ok (fun v G H s1 ok hv => ?_)
      have sg := sg.trans s1
      cases hm
      exact q v G H sg (ok.less hB) hv
    · have hm := cond_f hb hm
      have h_thing := dp_up s1 _ h_thing
      have sg := sg.trans s1
      refine q_nilU ?_
      obtain ⟨t4, e_t4, hm⟩ := bs hm
      obtain ⟨t5, e_t5, hm⟩ := bs hm
      obtain ⟨t8, e_t8, hm⟩ := bs hm
      refine q_ret (ev_andG (c := t8) (ev_callP (res := fun r => DD K (Dat.bool r)) (a := t4) e_t5 (ea_d (ev_ixD e_t4 (ev_d (K := K) rfl h_thing) (ev_int (K := K))) ea_nil)) (fun eb => by have e1 := cond_t eb e_t8; (obtain ⟨t6, e_t6, e1⟩ := bs e1); (obtain ⟨t7, e_t7, e1⟩ := bs e1); (have e1 := Option.some.inj e1); subst e1; exact (ev_callP (res := fun r => DD K (Dat.bool r)) (a := (t6, (2 : Int), (24 : Int))) e_t7 (ea_d (ev_ixD e_t6 (ev_d (K := K) rfl h_thing) (ev_int (K := K))) (ea_d (ev_int (K := K)) (ea_d (ev_int (K := K)) ea_nil))))) (fun eb => by have e1 := cond_f eb e_t8; cases e1; exact ⟨rfl, rfl⟩)) ok (fun v G H s1 ok hv => ?_)
      have sg := sg.trans s1
      cases hm
      exact q v G H sg (ok.less hB) hv
/-! ### is_notch -/
theorem sc_is_notch : FnScope ["thing", "names", "part"] ["thing", "names"] (defScope s_is_notch) := ⟨rfl, rfl, rfl, by decide +kernel, rfl, by decide +kernel, by decide +kernel⟩
def a_is_notch (K : PySem.W.Frag) (a : (Str × Str × Int) × (List Str)) : List V → Hp → Prop := conP (DD K ((eP3 Dat.str Dat.str Dat.int) a.1)) (conP (DD K ((eL Dat.str) a.2)) (nilP))
def m_is_notch (a : (Str × Str × Int) × (List Str)) : Option Bool :=
  cond ((!true) || (!decide ((3 : Int) = (3 : Int)))) (some false) ((lcO (fun x1 : Str => (m_is_name x1).bind fun t7 => some (t7 && (memB x1 a.2))) [(a.1.1, a.1.2.1).1, (a.1.1, a.1.2.1).2]).bind fun t8 => cond (!(t8.all id)) (some false) ((cond (!decide (a.1.1 = a.1.2.1)) ((m_is_within (a.1.2.2, (1 : Int), (99 : Int))).bind fun t9 => some t9) (some false)).bind fun t10 => some t10))
abbrev sp_is_notch [Tb] (K : PySem.W.Frag) : Sp := spP (a_is_notch K) (m_is_notch) fun r => DD K (Dat.bool r)
theorem ok_is_notch [Tb] {P : Program} {w : World} {K : PySem.W.Frag} {mg : Str → Option Value} {base : Heap} (T : Txt K mg) (O_is_name : FnOk P w K mg base CX0 1 T.a_is_name T.d_is_name ["thing"] (sp_is_name K)) (O_is_within : FnOk P w K mg base CX0 2 T.a_is_within T.d_is_within ["thing", "low", "high"] (sp_is_within K)) : FnOk P w K mg base CX0 (3) T.a_is_notch T.d_is_notch ["thing", "names"] (sp_is_notch K) := by
  refine T.F_is_notch.ok sc_is_notch (fun vs H Q E h => ?_) (fun cdv A outer s0 H vs Q E hr h => ?_)
  · obtain ⟨G, M0, a, r, ok, ⟨v_thing, _, rfl, h_thing, v_names, _, rfl, h_names, rfl⟩, hm, q⟩ := h
    rfl
  · obtain ⟨G, M0, a, r, ok, ⟨v_thing, _, rfl, h_thing, v_names, _, rfl, h_names, rfl⟩, hm, q⟩ := h
    unfold m_is_notch at hm
    have sg := Same.refl G
    have hB := Same.refl M0
    refine ⟨_, (pss_cons (ps_if (PW.pt (pw_or (pt_not (pt_val (pe_callB (call_isiKK (K := K)) (by rfl) T.n_isinstance (by decide +kernel) (pa_cons (pv 0) (pa_cons (pe_bltn (v := .ty "tuple") (by rfl) T.n_tuple (by decide +kernel) rfl) pa_nil))))) (pw_or1 (pt_cmpR op_ne (pe_callB (cl_lenK (K := K)) (by rfl) T.n_len (by decide +kernel) (pa_cons (pv 0) pa_nil)) pe_int (nomark _))))) (pss_cons (ps_ret pe_bl) pss_nil) pss_nil) (pss_cons (ps_if (pt_not (pt_val (pe_callB (cr_allK (K := K) rfl) (by rfl) T.n_all (by decide +kernel) (pa_cons (pe_lc (own := [("part", 2)]) (g := (gName 2)) (tt := tYes) rfl sc_is_notch.nd (pi_tupK (K := K) (pe_slice (sl_tupK (K := K)) (pv 0) po_none (po_some pe_int))) (blkOk_by (own := [("part", 2)]) (N := ["thing", "names", "part"]) (sc := defScope s_is_notch) (by decide +kernel)) (fun _ _ _ _ _ => (pg_name (i := 2) sc_is_notch.nd rfl (by first | exact .inl rfl | exact .inr rfl))) (fun _ _ _ _ _ => pts_nil) (fun _ _ _ _ _ => (pe_and (pe_call O_is_name (hr.mono (by decide)) (by rfl) T.g_is_name T.F_is_name.kp T.b_is_name .nil pass0 (pa_cons (pv 2) pa_nil)) (pe_one (pe_cmpR (op_inSK (K := K)) (pv 2) (pv 1) (by rfl)))))) pa_nil)))) (pss_cons (ps_ret pe_bl) pss_nil) pss_nil) (pss_cons (ps_ret (pe_and (pe_cmpR op_ne (pe_ix (ix_tupK (K := K)) (pv 0) pe_int (fun _ _ => rfl)) (pe_ix (ix_tupK (K := K)) (pv 0) pe_int (fun _ _ => rfl)) (nomark _)) (pe_one (pe_call O_is_within (hr.mono (by decide)) (by rfl) T.g_is_within T.F_is_within.kp T.b_is_within .nil pass0 (pa_cons (pe_ix (ix_tupK (K := K)) (pv 0) pe_int (fun _ _ => rfl)) (pa_cons pe_int (pa_cons (pe_glob (v := .int 99) (by rfl) T.c_MOST_NUMBER ⟨_, rfl⟩) pa_nil))))))) pss_nil))), ?_⟩
    refine nrm (σ' := [some v_thing, some v_names, none]) rfl ?_
    refine q_if (et_or (et_not (et_B (ev_isi (d := (eP3 Dat.str Dat.str Dat.int) a.1) (n := "tuple") (b := true) rfl (show kitB "tuple" "tuple" = some true by decide +kernel) (ea_d (ev_d (K := K) rfl h_thing) (ea_cons mo_cls ev_cls ea_nil))))) fun _ => (et_test (ev_neI (ev_lenT (ea_d (ev_d (K := K) rfl h_thing) ea_nil)) (ev_int (K := K))))) ok (fun hb G H s1 ok => ?_) (fun hb G H s1 ok => ?_)
    · have hm := cond_t hb hm
      have h_thing := dp_up s1 _ h_thing
      have h_names := dp_up s1 _ h_names
      have sg := sg.trans s1
      refine q_ret (ev_bl (K := K)) ok (fun v G H s1 ok hv => ?_)
      have sg := sg.trans s1
      cases hm
      exact q v G H sg (ok.less hB) hv
    · have hm := cond_f hb hm
      have h_thing := dp_up s1 _ h_thing
      have h_names := dp_up s1 _ h_names
      have sg := sg.trans s1
      refine q_nilU ?_
      obtain ⟨t8, e_t8, hm⟩ := bs hm
      refine q_if (et_not (et_B (ev_allL (ea_d (EvL.ev (el_lcM (ea := Dat.str) (eb := Dat.bool) (xs := [(a.1.1, a.1.2.1).1, (a.1.1, a.1.2.1).2]) (ys := t8) (hf := e_t8) (Src.is (src_tup (ev_is (ev_slT (ev_d (K := K) rfl h_thing) eo_none (eo_some (ev_int (K := K)))) rfl)) rfl) (fun x1 _ Mx5 _ _ he6 sM4 sG3 hv2 => by (obtain ⟨t7, e_t7, he6⟩ := bs he6); cases he6; exact (tg_name ⟨rfl, (ev_and (ev_callP (res := fun r => DD K (Dat.bool r)) (a := x1) e_t7 (ea_d (ev_d (K := K) rfl hv2) ea_nil)) fun _ => (ev_inS (k := false) (xs := a.2) (ev_d (K := K) rfl hv2) (ev_d (K := K) rfl (dp_up sG3 _ h_names))))⟩)))) ea_nil)))) ok (fun hb G H s1 ok => ?_) (fun hb G H s1 ok => ?_)
      · have hm := cond_t hb hm
        have h_thing := dp_up s1 _ h_thing
        have h_names := dp_up s1 _ h_names
        have sg := sg.trans s1
        refine q_ret (ev_bl (K := K)) ok (fun v G H s1 ok hv => ?_)
        have sg := sg.trans s1
        cases hm
        exact q v G H sg (ok.less hB) hv
      · have hm := cond_f hb hm
        have h_thing := dp_up s1 _ h_thing
        have h_names := dp_up s1 _ h_names
        have sg := sg.trans s1
        refine q_nilU ?_
        obtain ⟨t10, e_t10, hm⟩ := bs hm
        refine q_ret (ev_andG (c := t10) (ev_neS (ev_ixT (d := Dat.str a.1.1) rfl (ev_d (K := K) rfl h_thing) ev_int) (ev_ixT (d := Dat.str a.1.2.1) rfl (ev_d (K := K) rfl h_thing) ev_int)) (fun eb => by have e1 := cond_t eb e_t10; (obtain ⟨t9, e_t9, e1⟩ := bs e1); (have e1 := Option.some.inj e1); subst e1; exact (ev_callP (res := fun r => DD K (Dat.bool r)) (a := (a.1.2.2, (1 : Int), (99 : Int))) e_t9 (ea_d (ev_ixT (d := Dat.int a.1.2.2) rfl (ev_d (K := K) rfl h_thing) ev_int) (ea_d (ev_int (K := K)) (ea_d (ev_int (K := K)) ea_nil))))) (fun eb => by have e1 := cond_f eb e_t10; cases e1; exact ⟨rfl, rfl⟩)) ok (fun v G H s1 ok hv => ?_)
        have sg := sg.trans s1
        cases hm
        exact q v G H sg (ok.less hB) hv
/-! ### check_notches -/
theorem sc_check_notches : FnScope ["notches", "names", "place", "notch"] ["notches", "names"] (defScope s_check_notches) := ⟨rfl, rfl, rfl, by decide +kernel, rfl, by decide +kernel, by decide +kernel⟩
def a_check_notches (K : PySem.W.Frag) (a : (List (Str × Str × Int)) × (List Str)) : List V → Hp → Prop := conP (DD K ((eT (eP3 Dat.str Dat.str Dat.int)) a.1)) (conP (DD K ((eL Dat.str) a.2)) (nilP))
def m_check_notches (a : (List (Str × Str × Int)) × (List Str)) : Option Unit :=
  cond (!true) (none) ((forO (fun (st2 : Unit) (x3 : (Int × (Str × Str × Int))) => (m_is_notch (x3.2, a.2)).bind fun t12 => (cond (!t12) (some true) ((cond (decide ((0 : Int) < x3.1)) ((atI a.1 (x3.1 - (1 : Int))).bind fun t13 => some (!ltP (t13.1, t13.2.1) (x3.2.1, x3.2.2.1))) (some false)).bind fun t14 => some t14)).bind fun t15 => cond t15 (none) (some ())) (enum a.1) ()).bind fun fin1 => some ())
abbrev sp_check_notches [Tb] (K : PySem.W.Frag) : Sp := spP (a_check_notches K) (m_check_notches) fun r => DD K (eN r)
theorem ok_check_notches [Tb] {P : Program} {w : World} {K : PySem.W.Frag} {mg : Str → Option Value} {base : Heap} (T : Txt K mg) (O_is_notch : FnOk P w K mg base CX0 3 T.a_is_notch T.d_is_notch ["thing", "names"] (sp_is_notch K)) : FnOk P w K mg base CX0 (4) T.a_check_notches T.d_check_notches ["notches", "names"] (sp_check_notches K) := by
  refine T.F_check_notches.ok sc_check_notches (fun vs H Q E h => ?_) (fun cdv A outer s0 H vs Q E hr h => ?_)
  · obtain ⟨G, M0, a, r, ok, ⟨v_notches, _, rfl, h_notches, v_names, _, rfl, h_names, rfl⟩, hm, q⟩ := h
    rfl
  · obtain ⟨G, M0, a, r, ok, ⟨v_notches, _, rfl, h_notches, v_names, _, rfl, h_names, rfl⟩, hm, q⟩ := h
    unfold m_check_notches at hm
    have sg := Same.refl G
    have hB := Same.refl M0
    refine ⟨_, (pss_cons (ps_if (pt_not (pt_val (pe_callB (call_isiKK (K := K)) (by rfl) T.n_isinstance (by decide +kernel) (pa_cons (pv 0) (pa_cons (pe_bltn (v := .ty "tuple") (by rfl) T.n_tuple (by decide +kernel) rfl) pa_nil))))) (pss_cons ps_never pss_nil) pss_nil) (pss_cons (ps_for PassesOwn.never rfl (pi_enumTK (K := K) (by rfl) T.n_enumerate (pa_cons (pv 0) pa_nil)) (pg_tup rfl (pgs_cons (pg_name (i := 2) sc_check_notches.nd rfl (.inl rfl)) (pgs_cons (pg_name (i := 3) sc_check_notches.nd rfl (.inl rfl)) pgs_nil))) (pss_cons (ps_if (PW.pt (pw_or (pt_not (pt_val (pe_call O_is_notch (hr.mono (by decide)) (by rfl) T.g_is_notch T.F_is_notch.kp T.b_is_notch .nil pass0 (pa_cons (pv 3) (pa_cons (pv 1) pa_nil))))) (pw_or1 (PW.pt (pw_and (pt_cmpR op_gt (pv 2) pe_int (nomark _)) (pw_and1 (pt_cmpR (op_leD (K := K) hr.units) (pe_slice (sl_tupK (K := K)) (pv 3) po_none (po_some pe_int)) (pe_slice (sl_tupK (K := K)) (pe_ix (ix_tupK (K := K)) (pv 0) (pe_op op_sub (pv 2) pe_int) (fun _ _ => rfl)) po_none (po_some pe_int)) (nomark _)))))))) (pss_cons ps_never pss_nil) pss_nil) pss_nil)) pss_nil)), ?_⟩
    refine nrm (σ' := [some v_notches, some v_names, none, none]) rfl ?_
    refine q_if (et_not (et_B (ev_isi (d := (eT (eP3 Dat.str Dat.str Dat.int)) a.1) (n := "tuple") (b := true) rfl (show kitB "tuple" "tuple" = some true by decide +kernel) (ea_d (ev_d (K := K) rfl h_notches) (ea_cons mo_cls ev_cls ea_nil))))) ok (fun hb G H s1 ok => ?_) (fun hb G H s1 ok => ?_)
    · have hm := cond_t hb hm
      have h_notches := dp_up s1 _ h_notches
      have h_names := dp_up s1 _ h_names
      have sg := sg.trans s1
      cases hm
    · have hm := cond_f hb hm
      have h_notches := dp_up s1 _ h_notches
      have h_names := dp_up s1 _ h_names
      have sg := sg.trans s1
      refine q_nilU ?_
      obtain ⟨fin1, e_fin1, hm⟩ := bs hm
      have hmo4 := hm
      refine q_forO (ea := (eR2 Dat.int (eP3 Dat.str Dat.str Dat.int))) (Src.is (src_enumT (ea_d (ev_d (K := K) rfl h_notches) ea_nil)) enumD_map) ok (fun (st2 : Unit) σ1 G1 M1 => ∃ (y_place : Option V) (y_notch : Option V), σ1 = [some v_notches, some v_names, y_place, y_notch] ∧ (Same M0 M1)) e_fin1 (fun G1 s1 => ⟨_, _, rfl, hB⟩) (by rintro _ _ _ _ _ ⟨y_place, y_notch, rfl, hB⟩ s2; exact ⟨_, _, rfl, hB⟩) (fun x3 xv6 st2 st' σ1 G M H N hm hj s1 ok hv hN => ?_) (fun σ1 G M H s1 ok hj => ?_)
      · obtain ⟨y_place, y_notch, rfl, hB⟩ := hj
        have h_notches := dp_up s1 _ h_notches
        have h_names := dp_up s1 _ h_names
        have sg := sg.trans s1
        have sl7 := Same.refl G
        refine gr2 hv ok.g (fun w8 w9 hw10 hw11 => ?_)
        refine gn ?_
        have h_place := hw10
        cases h_place
        refine gn ?_
        have h_notch := hw11
        refine nrm (σ' := [some v_notches, some v_names, some (.int x3.1), some w9]) rfl ?_
        obtain ⟨t12, e_t12, hm⟩ := bs hm
        obtain ⟨t15, e_t15, hm⟩ := bs hm
        refine q_if (et_orG (c := t15) (et_not (et_B (ev_callP (res := fun r => DD K (Dat.bool r)) (a := (x3.2, a.2)) e_t12 (ea_d (ev_d (K := K) rfl h_notch) (ea_d (ev_d (K := K) rfl h_names) ea_nil))))) (fun eb => by have e1 := cond_f eb e_t15; (obtain ⟨t14, e_t14, e1⟩ := bs e1); (have e1 := Option.some.inj e1); subst e1; exact (et_andG (c := t14) (et_test (ev_gt (ev_d (K := K) rfl (.int _)) (ev_int (K := K)))) (fun eb => by have e1 := cond_t eb e_t14; (obtain ⟨t13, e_t13, e1⟩ := bs e1); (have e1 := Option.some.inj e1); subst e1; exact (et_test (ev_leP (a := (x3.2.1, x3.2.2.1)) (b := (t13.1, t13.2.1)) (ev_is (ev_slT (ev_d (K := K) rfl h_notch) eo_none (eo_some (ev_int (K := K)))) rfl) (ev_is (ev_slT (ev_ixTM (e := (eP3 Dat.str Dat.str Dat.int)) e_t13 (ev_d (K := K) rfl h_notches) (ev_sub (ev_d (K := K) rfl (.int _)) (ev_int (K := K)))) eo_none (eo_some (ev_int (K := K)))) rfl)))) (fun eb => by have e1 := cond_f eb e_t14; cases e1; exact ⟨rfl, rfl⟩))) (fun eb => by have e1 := cond_t eb e_t15; cases e1; exact ⟨rfl, rfl⟩)) ok (fun hb G H s1 ok => ?_) (fun hb G H s1 ok => ?_)
        · have hm := cond_t hb hm
          have h_notches := dp_up s1 _ h_notches
          have h_names := dp_up s1 _ h_names
          have h_notch := dp_up s1 _ h_notch
          have sg := sg.trans s1
          have sl7 := sl7.trans s1
          cases hm
        · have hm := cond_f hb hm
          have h_notches := dp_up s1 _ h_notches
          have h_names := dp_up s1 _ h_names
          have h_notch := dp_up s1 _ h_notch
          have sg := sg.trans s1
          have sl7 := sl7.trans s1
          refine q_nilU ?_
          refine q_nil ?_
          cases hm
          exact hN _ _ _ _ sl7 ok ⟨_, _, rfl, hB⟩
      · obtain ⟨y_place, y_notch, rfl, hB⟩ := hj
        have h_notches := dp_up s1 _ h_notches
        have h_names := dp_up s1 _ h_names
        have sg := sg.trans s1
        refine q_nil ?_
        cases hm
        exact q _ _ _ sg (ok.less hB) .non
/-! ### is_notch_2 -/
def a_is_notch_2 (K : PySem.W.Frag) (a : Dat × (List Str)) : List V → Hp → Prop := conP (DD K (id a.1)) (conP (DD K ((eL Dat.str) a.2)) (nilP))
def m_is_notch_2 (a : Dat × (List Str)) : Option Bool :=
  (isO1 "Peal" isT a.1).bind fun t1 => (cond (!t1) (some true) ((lenD a.1).bind fun t2 => some (!decide (t2 = (3 : Int))))).bind fun t3 => cond t3 (some false) ((tupD a.1).bind fun t4 => (lcO (fun x5 : Dat => (m_is_name_2 x5).bind fun t11 => (cond t11 ((strD x5).bind fun t12 => some (memB t12 a.2)) (some false)).bind fun t13 => some t13) (cut t4 none (some (2 : Int)))).bind fun t14 => cond (!(t14.all id)) (some false) ((atD a.1 (0 : Int)).bind fun t15 => (atD a.1 (1 : Int)).bind fun t16 => (eqDO t15 t16).bind fun t17 => (cond (!t17) ((atD a.1 (2 : Int)).bind fun t18 => (m_is_within_2 (t18, (1 : Int), (99 : Int))).bind fun t19 => some t19) (some false)).bind fun t20 => some t20))
abbrev sp_is_notch_2 [Tb] (K : PySem.W.Frag) : Sp := spP (a_is_notch_2 K) (m_is_notch_2) fun r => DD K (Dat.bool r)
theorem ok_is_notch_2 [Tb] {P : Program} {w : World} {K : PySem.W.Frag} {mg : Str → Option Value} {base : Heap} (T : Txt K mg) (O_is_name_2 : FnOk P w K mg base CX0 1 T.a_is_name T.d_is_name ["thing"] (sp_is_name_2 K)) (O_is_within_2 : FnOk P w K mg base CX0 2 T.a_is_within T.d_is_within ["thing", "low", "high"] (sp_is_within_2 K)) : FnOk P w K mg base CX0 (3) T.a_is_notch T.d_is_notch ["thing", "names"] (sp_is_notch_2 K) := by
  refine T.F_is_notch.ok sc_is_notch (fun vs H Q E h => ?_) (fun cdv A outer s0 H vs Q E hr h => ?_)
  · obtain ⟨G, M0, a, r, ok, ⟨v_thing, _, rfl, h_thing, v_names, _, rfl, h_names, rfl⟩, hm, q⟩ := h
    rfl
  · obtain ⟨G, M0, a, r, ok, ⟨v_thing, _, rfl, h_thing, v_names, _, rfl, h_names, rfl⟩, hm, q⟩ := h
    unfold m_is_notch_2 at hm
    have sg := Same.refl G
    have hB := Same.refl M0
    refine ⟨_, (pss_cons (ps_if (PW.pt (pw_or (pt_not (pt_val (pe_callB (call_isiKK (K := K)) (by rfl) T.n_isinstance (by decide +kernel) (pa_cons (pv 0) (pa_cons (pe_bltn (v := .ty "tuple") (by rfl) T.n_tuple (by decide +kernel) rfl) pa_nil))))) (pw_or1 (pt_cmpR op_ne (pe_callB (cl_lenK (K := K)) (by rfl) T.n_len (by decide +kernel) (pa_cons (pv 0) pa_nil)) pe_int (nomark _))))) (pss_cons (ps_ret pe_bl) pss_nil) pss_nil) (pss_cons (ps_if (pt_not (pt_val (pe_callB (cr_allK (K := K) rfl) (by rfl) T.n_all (by decide +kernel) (pa_cons (pe_lc (own := [("part", 2)]) (g := (gName 2)) (tt := tYes) rfl sc_is_notch.nd (pi_tupK (K := K) (pe_slice (sl_tupK (K := K)) (pv 0) po_none (po_some pe_int))) (blkOk_by (own := [("part", 2)]) (N := ["thing", "names", "part"]) (sc := defScope s_is_notch) (by decide +kernel)) (fun _ _ _ _ _ => (pg_name (i := 2) sc_is_notch.nd rfl (by first | exact .inl rfl | exact .inr rfl))) (fun _ _ _ _ _ => pts_nil) (fun _ _ _ _ _ => (pe_and (pe_call O_is_name_2 (hr.mono (by decide)) (by rfl) T.g_is_name T.F_is_name.kp T.b_is_name .nil pass0 (pa_cons (pv 2) pa_nil)) (pe_one (pe_cmpR (op_inSK (K := K)) (pv 2) (pv 1) (by rfl)))))) pa_nil)))) (pss_cons (ps_ret pe_bl) pss_nil) pss_nil) (pss_cons (ps_ret (pe_and (pe_cmpR (op_neDK (K := K) hr.units) (pe_ix (ix_seqK (K := K)) (pv 0) pe_int (fun _ _ => rfl)) (pe_ix (ix_seqK (K := K)) (pv 0) pe_int (fun _ _ => rfl)) (nomark _)) (pe_one (pe_call O_is_within_2 (hr.mono (by decide)) (by rfl) T.g_is_within T.F_is_within.kp T.b_is_within .nil pass0 (pa_cons (pe_ix (ix_seqK (K := K)) (pv 0) pe_int (fun _ _ => rfl)) (pa_cons pe_int (pa_cons (pe_glob (v := .int 99) (by rfl) T.c_MOST_NUMBER ⟨_, rfl⟩) pa_nil))))))) pss_nil))), ?_⟩
    refine nrm (σ' := [some v_thing, some v_names, none]) rfl ?_
    obtain ⟨t1, e_t1, hm⟩ := bs hm
    obtain ⟨t3, e_t3, hm⟩ := bs hm
    refine q_if (et_orG (c := t3) (et_not (et_B (ev_isiD1 isc_T isn_T T.co_Peal (kn_T T.cn_Peal) e_t1 (ea_d (ev_d (K := K) rfl h_thing) (ea_cons mo_cls ev_cls ea_nil))))) (fun eb => by have e1 := cond_f eb e_t3; (obtain ⟨t2, e_t2, e1⟩ := bs e1); (have e1 := Option.some.inj e1); subst e1; exact (et_test (ev_neI (ev_lenD e_t2 (ea_d (ev_d (K := K) rfl h_thing) ea_nil)) (ev_int (K := K))))) (fun eb => by have e1 := cond_t eb e_t3; cases e1; exact ⟨rfl, rfl⟩)) ok (fun hb G H s1 ok => ?_) (fun hb G H s1 ok => ?_)
    · have hm := cond_t hb hm
      have h_thing := dp_up s1 _ h_thing
      have h_names := dp_up s1 _ h_names
      have sg := sg.trans s1
      refine q_ret (ev_bl (K := K)) ok (fun v G H s1 ok hv => ?_)
      have sg := sg.trans s1
      cases hm
      exact q v G H sg (ok.less hB) hv
    · have hm := cond_f hb hm
      have h_thing := dp_up s1 _ h_thing
      have h_names := dp_up s1 _ h_names
      have sg := sg.trans s1
      refine q_nilU ?_
      obtain ⟨t4, e_t4, hm⟩ := bs hm
      obtain ⟨t14, e_t14, hm⟩ := bs hm
      refine q_if (et_not (et_B (ev_allL (ea_d (EvL.ev (el_lcM (ea := id) (eb := Dat.bool) (xs := (cut t4 none (some (2 : Int)))) (ys := t14) (hf := e_t14) (src_tup (ev_slTM (e := id) (ev_tupD e_t4 (ev_d (K := K) rfl h_thing)) eo_none (eo_some (ev_int (K := K))))) (fun x5 _ Mx9 _ _ he10 sM8 sG7 hv6 => by (obtain ⟨t11, e_t11, he10⟩ := bs he10); (obtain ⟨t13, e_t13, he10⟩ := bs he10); (have he10 := Option.some.inj he10); subst he10; exact (tg_name ⟨rfl, (ev_andG (c := t13) (ev_callP (res := fun r => DD K (Dat.bool r)) (a := x5) e_t11 (ea_d (ev_d (K := K) rfl hv6) ea_nil)) (fun eb => by have e1 := cond_t eb e_t13; (obtain ⟨t12, e_t12, e1⟩ := bs e1); (have e1 := Option.some.inj e1); subst e1; exact (ev_inS (k := false) (xs := a.2) (ev_strD e_t12 (ev_d (K := K) rfl hv6)) (ev_d (K := K) rfl (dp_up sG7 _ h_names)))) (fun eb => by have e1 := cond_f eb e_t13; cases e1; exact ⟨rfl, rfl⟩))⟩)))) ea_nil)))) ok (fun hb G H s1 ok => ?_) (fun hb G H s1 ok => ?_)
      · have hm := cond_t hb hm
        have h_thing := dp_up s1 _ h_thing
        have h_names := dp_up s1 _ h_names
        have sg := sg.trans s1
        refine q_ret (ev_bl (K := K)) ok (fun v G H s1 ok hv => ?_)
        have sg := sg.trans s1
        cases hm
        exact q v G H sg (ok.less hB) hv
      · have hm := cond_f hb hm
        have h_thing := dp_up s1 _ h_thing
        have h_names := dp_up s1 _ h_names
        have sg := sg.trans s1
        refine q_nilU ?_
        obtain ⟨t15, e_t15, hm⟩ := bs hm
        obtain ⟨t16, e_t16, hm⟩ := bs hm
        obtain ⟨t17, e_t17, hm⟩ := bs hm
        obtain ⟨t20, e_t20, hm⟩ := bs hm
        refine q_ret (ev_andG (c := t20) (ev_neDO e_t17 (ev_ixD e_t15 (ev_d (K := K) rfl h_thing) (ev_int (K := K))) (ev_ixD e_t16 (ev_d (K := K) rfl h_thing) (ev_int (K := K)))) (fun eb => by have e1 := cond_t eb e_t20; (obtain ⟨t18, e_t18, e1⟩ := bs e1); (obtain ⟨t19, e_t19, e1⟩ := bs e1); (have e1 := Option.some.inj e1); subst e1; exact (ev_callP (res := fun r => DD K (Dat.bool r)) (a := (t18, (1 : Int), (99 : Int))) e_t19 (ea_d (ev_ixD e_t18 (ev_d (K := K) rfl h_thing) (ev_int (K := K))) (ea_d (ev_int (K := K)) (ea_d (ev_int (K := K)) ea_nil))))) (fun eb => by have e1 := cond_f eb e_t20; cases e1; exact ⟨rfl, rfl⟩)) ok (fun v G H s1 ok hv => ?_)
        have sg := sg.trans s1
        cases hm
        exact q v G H sg (ok.less hB) hv
/-! ### Peal___init__ -/
theorem sc_Peal___init__ : FnScope ["self", "bells", "notches", "name", "other", "number", "bell"] ["self", "bells", "notches"] (defScope s_Peal___init__) := ⟨rfl, rfl, rfl, by decide +kernel, rfl, by decide +kernel, by decide +kernel⟩
def a_Peal___init__ (K : PySem.W.Frag) (a : (List (Str × Int)) × (List (Str × Str × Int))) : List V → Hp → Prop := conP (DD K ((eT (eP2 Dat.str Dat.int)) a.1)) (conP (DD K ((eT (eP3 Dat.str Dat.str Dat.int)) a.2)) (nilP))
def m_Peal___init__ (a : (List (Str × Int)) × (List (Str × Str × Int))) : Option ((List (Str × Int)) × (List (Str × Str × Int)) × (List (Str × Int)) × (List ((Str × Str) × Int))) :=
  (m_check_bells a.1).bind fun t1 => (lcO (fun x2 : (Str × Int) => some x2.1) a.1).bind fun t8 => (m_check_notches (a.2, t8)).bind fun t9 => (dictO a.1).bind fun t10 => (dcO (fun x11 : (Str × Str × Int) => some ((x11.1, x11.2.1), x11.2.2)) a.2).bind fun t20 => some (a.1, a.2, t10, t20)
abbrev sp_Peal___init__ [Tb] (K : PySem.W.Frag) : Sp := spI K (clsAt K "Peal") ["bells", "notches", "sizes", "turning"] (fun r => [(eT (eP2 Dat.str Dat.int)) r.1, (eT (eP3 Dat.str Dat.str Dat.int)) r.2.1, (eDS Dat.int) r.2.2.1, (eDP Dat.int) r.2.2.2]) (a_Peal___init__ K) m_Peal___init__
theorem ok_Peal___init__ [Tb] {P : Program} {w : World} {K : PySem.W.Frag} {mg : Str → Option Value} {base : Heap} (T : Txt K mg) (O_check_bells : FnOk P w K mg base CX0 4 T.a_check_bells T.d_check_bells ["bells"] (sp_check_bells K)) (O_check_notches : FnOk P w K mg base CX0 4 T.a_check_notches T.d_check_notches ["notches", "names"] (sp_check_notches K)) : FnOk P w K mg base CX0 (5) T.a_Peal___init__ T.d_Peal___init__ ["self", "bells", "notches"] (sp_Peal___init__ K) := by
  refine T.F_Peal___init__.ex.ok sc_Peal___init__ (fun vs H Q E h => ?_) (fun cdv A outer s0 H vs Q E hr h => ?_)
  · obtain ⟨G, M0, x, dx, ws, a, r, rfl, ok, hx0, ⟨v_bells, _, rfl, h_bells, v_notches, _, rfl, h_notches, rfl⟩, hm, q⟩ := h
    rfl
  · obtain ⟨G, M0, x, dx, ws, a, r, rfl, ok, hx0, ⟨v_bells, _, rfl, h_bells, v_notches, _, rfl, h_notches, rfl⟩, hm, q⟩ := h
    unfold m_Peal___init__ at hm
    have sg := Same.refl G
    have hB := Same.refl M0
    refine ⟨_, (pss_cons (ps_expr (pe_call O_check_bells (hr.mono (by decide)) (by rfl) T.g_check_bells T.F_check_bells.kp T.b_check_bells .nil pass0 (pa_cons (pv 1) pa_nil))) (pss_cons (ps_expr (pe_call O_check_notches (hr.mono (by decide)) (by rfl) T.g_check_notches T.F_check_notches.kp T.b_check_notches .nil pass0 (pa_cons (pv 2) (pa_cons (pe_lc (own := [("bell", 6)]) (g := (gName 6)) (tt := tYes) rfl sc_Peal___init__.nd (pi_tupK (K := K) (pv 1)) (blkOk_by (own := [("bell", 6)]) (N := ["self", "bells", "notches", "name", "other", "number", "bell"]) (sc := defScope s_Peal___init__) (by decide +kernel)) (fun _ _ _ _ _ => (pg_name (i := 6) sc_Peal___init__.nd rfl (by first | exact .inl rfl | exact .inr rfl))) (fun _ _ _ _ _ => pts_nil) (fun _ _ _ _ _ => (pe_ix (ix_tupK (K := K)) (pv 6) pe_int (fun _ _ => rfl)))) pa_nil)))) (pss_cons (ps_fld (pv 0) (pv 1) rfl) (pss_cons (ps_fld (pv 0) (pv 2) rfl) (pss_cons (ps_fld (pv 0) (pe_callTy (cl_dictTK (K := K) rfl) (by rfl) T.n_dict (by decide +kernel) (pa_cons (pv 1) pa_nil)) rfl) (pss_cons (ps_fld (pv 0) (pe_dcB true (own := [("name", 3), ("other", 4), ("number", 5)]) (g := (gTup K 3 (gCons (gName 3) (gCons (gName 4) (gCons (gName 5) gNil))))) (tt := tYes) (hu_of hr) rfl sc_Peal___init__.nd (pi_tupK (K := K) (pv 2)) (blkOk_by (own := [("name", 3), ("other", 4), ("number", 5)]) (N := ["self", "bells", "notches", "name", "other", "number", "bell"]) (sc := defScope s_Peal___init__) (by decide +kernel)) (fun _ _ _ _ _ => (pg_tup rfl (pgs_cons (pg_name (i := 3) sc_Peal___init__.nd rfl (by first | exact .inl rfl | exact .inr rfl)) (pgs_cons (pg_name (i := 4) sc_Peal___init__.nd rfl (by first | exact .inl rfl | exact .inr rfl)) (pgs_cons (pg_name (i := 5) sc_Peal___init__.nd rfl (by first | exact .inl rfl | exact .inr rfl)) pgs_nil))))) (fun _ _ _ _ _ => pts_nil) (fun _ _ _ _ _ => (pe_tup (pa_cons (pv 3) (pa_cons (pv 4) pa_nil)))) (fun _ _ _ _ _ => (pv 5))) rfl) pss_nil)))))), ?_⟩
    refine nrm (σ' := [some (.ref x), some v_bells, some v_notches, none, none, none, none]) rfl ?_
    obtain ⟨t1, e_t1, hm⟩ := bs hm
    refine q_expr (ev_callP (res := fun r => DD K (eN r)) (a := a.1) e_t1 (ea_d (ev_d (K := K) rfl h_bells) ea_nil)) ok (fun G H s1 ok => ?_)
    have h_bells := dp_up s1 _ h_bells
    have h_notches := dp_up s1 _ h_notches
    have sg := sg.trans s1
    obtain ⟨t8, e_t8, hm⟩ := bs hm
    obtain ⟨t9, e_t9, hm⟩ := bs hm
    refine q_expr (ev_callP (res := fun r => DD K (eN r)) (a := (a.2, t8)) e_t9 (ea_d (ev_d (K := K) rfl h_notches) (ea_d (EvL.ev (el_lcM (ea := (eP2 Dat.str Dat.int)) (eb := Dat.str) (xs := a.1) (ys := t8) (hf := e_t8) (src_tup (ev_d (K := K) rfl h_bells)) (fun x2 _ Mx6 _ _ he7 sM5 sG4 hv3 => by cases he7; exact (tg_name ⟨rfl, (ev_ixT (d := Dat.str x2.1) rfl (ev_d (K := K) rfl hv3) ev_int)⟩)))) ea_nil))) ok (fun G H s1 ok => ?_)
    have h_bells := dp_up s1 _ h_bells
    have h_notches := dp_up s1 _ h_notches
    have sg := sg.trans s1
    refine q_fld (K := K) (ns := []) T.cl_Peal T.na_Peal_bells (ev_d (K := K) rfl h_bells) (ev_own rfl) rfl (by decide +kernel) (by decide) ok (fun vf_bells G H s1 ok hf_bells => ?_)
    have h_bells := dp_up s1 _ h_bells
    have h_notches := dp_up s1 _ h_notches
    have sg := sg.trans s1
    refine q_fld (K := K) (ns := ["bells"]) T.cl_Peal T.na_Peal_notches (ev_d (K := K) rfl h_notches) (ev_own rfl) rfl (by decide +kernel) (by decide) ok (fun vf_notches G H s1 ok hf_notches => ?_)
    have h_bells := dp_up s1 _ h_bells
    have h_notches := dp_up s1 _ h_notches
    have hf_bells := dp_up s1 _ hf_bells
    have sg := sg.trans s1
    obtain ⟨t10, e_t10, hm⟩ := bs hm
    refine q_fld (K := K) (ns := ["bells", "notches"]) T.cl_Peal T.na_Peal_sizes (ev_dictT (e := Dat.int) e_t10 (ea_d (ev_d (K := K) rfl h_bells) ea_nil)) (ev_own rfl) rfl (by decide +kernel) (by decide) ok (fun vf_sizes G H s1 ok hf_sizes => ?_)
    have h_bells := dp_up s1 _ h_bells
    have h_notches := dp_up s1 _ h_notches
    have hf_bells := dp_up s1 _ hf_bells
    have hf_notches := dp_up s1 _ hf_notches
    have sg := sg.trans s1
    obtain ⟨t20, e_t20, hm⟩ := bs hm
    refine q_fld (K := K) (ns := ["bells", "notches", "sizes"]) T.cl_Peal T.na_Peal_turning (ev_dcP (e := Dat.int) (ea := (eP3 Dat.str Dat.str Dat.int)) (xs := a.2) (hf := e_t20) (src_tup (ev_d (K := K) rfl h_notches)) (fun x11 _ Mx15 _ _ he16 sM14 sG13 hv12 => by cases he16; exact (tg_t3 hv12 fun _ _ _ h17 h18 h19 => (tg_name (tg_name (tg_name ⟨rfl, (ev_rtup (ea_consD (ev_d (K := K) rfl h17) (ea_consD (ev_d (K := K) rfl h18) (ea_nilD (K := K))))), (ev_d (K := K) rfl h19)⟩)))))) (ev_own rfl) rfl (by decide +kernel) (by decide) ok (fun vf_turning G H s1 ok hf_turning => ?_)
    have h_bells := dp_up s1 _ h_bells
    have h_notches := dp_up s1 _ h_notches
    have hf_bells := dp_up s1 _ hf_bells
    have hf_notches := dp_up s1 _ hf_notches
    have hf_sizes := dp_up s1 _ hf_sizes
    have sg := sg.trans s1
    refine q_nil ?_
    cases hm
    exact q _ _ _ sg ok rfl (.cons hf_bells (.cons hf_notches (.cons hf_sizes (.cons hf_turning .nil))))
/-! ### Peal___eq__ -/
theorem sc_Peal___eq__ : FnScope ["self", "other"] ["self", "other"] (defScope s_Peal___eq__) := ⟨rfl, rfl, rfl, by decide +kernel, rfl, by decide +kernel, by decide +kernel⟩
def a_Peal___eq__ (K : PySem.W.Frag) (a : ((List (Str × Int)) × (List (Str × Str × Int)) × (List (Str × Int)) × (List ((Str × Str) × Int))) × ((List (Str × Int)) × (List (Str × Str × Int)) × (List (Str × Int)) × (List ((Str × Str) × Int)))) : List V → Hp → Prop := conP (DD K (eX_Peal a.1)) (conP (DD K (eX_Peal a.2)) (nilP))
def m_Peal___eq__ (a : ((List (Str × Int)) × (List (Str × Str × Int)) × (List (Str × Int)) × (List ((Str × Str) × Int))) × ((List (Str × Int)) × (List (Str × Str × Int)) × (List (Str × Int)) × (List ((Str × Str) × Int)))) : Option Bool :=
  some (true && (decide ((a.1.1, a.1.2.1) = (a.2.1, a.2.2.1))))
abbrev sp_Peal___eq__ [Tb] (K : PySem.W.Frag) : Sp := spP (a_Peal___eq__ K) (m_Peal___eq__) fun r => DD K (Dat.bool r)
theorem ok_Peal___eq__ [Tb] {P : Program} {w : World} {K : PySem.W.Frag} {mg : Str → Option Value} {base : Heap} (T : Txt K mg) : FnOk P w K mg base CX0 (1) T.a_Peal___eq__ T.d_Peal___eq__ ["self", "other"] (sp_Peal___eq__ K) := by
  refine T.F_Peal___eq__.ok sc_Peal___eq__ (fun vs H Q E h => ?_) (fun cdv A outer s0 H vs Q E hr h => ?_)
  · obtain ⟨G, M0, a, r, ok, ⟨v_self, _, rfl, h_self, v_other, _, rfl, h_other, rfl⟩, hm, q⟩ := h
    rfl
  · obtain ⟨G, M0, a, r, ok, ⟨v_self, _, rfl, h_self, v_other, _, rfl, h_other, rfl⟩, hm, q⟩ := h
    unfold m_Peal___eq__ at hm
    have sg := Same.refl G
    have hB := Same.refl M0
    refine ⟨_, (pss_cons (ps_ret (pe_and (pe_callB (call_isiKK (K := K)) (by rfl) T.n_isinstance (by decide +kernel) (pa_cons (pv 1) (pa_cons (pe_glob (v := .ref (clsAt K "Peal")) (by rfl) T.mg_Peal rfl) pa_nil))) (pe_one (pe_cmpR (op_eqDK (K := K) hr.units) (pe_tupF (pa_cons (pe_fldK (K := K) (pv 0)) (pa_cons (pe_fldK (K := K) (pv 0)) pa_nil))) (pe_tupF (pa_cons (pe_fldK (K := K) (pv 1)) (pa_cons (pe_fldK (K := K) (pv 1)) pa_nil))) (nomark _))))) pss_nil), ?_⟩
    refine nrm (σ' := [some v_self, some v_other]) rfl ?_
    refine q_ret (ev_and (ev_isiX (b := true) T.co_Peal T.ki_Peal (ea_d (ev_d (K := K) rfl h_other) (ea_cons mo_clx ev_clx ea_nil))) fun _ => (ev_eqE (e := (eP2 (eT (eP2 Dat.str Dat.int)) (eT (eP3 Dat.str Dat.str Dat.int)))) (x := (a.1.1, a.1.2.1)) (y := (a.2.1, a.2.2.1)) (eqe_P2 (eqe_T (eqe_P2 eqe_str eqe_int)) (eqe_T (eqe_P3 eqe_str eqe_str eqe_int))) (by decide) (ev_tup (ea_consD (ev_fld (d := (eT (eP2 Dat.str Dat.int)) a.1.1) (i := 0) T.cl_Peal T.na_Peal_bells (by decide +kernel) rfl (ev_d (K := K) rfl h_self)) (ea_consD (ev_fld (d := (eT (eP3 Dat.str Dat.str Dat.int)) a.1.2.1) (i := 1) T.cl_Peal T.na_Peal_notches (by decide +kernel) rfl (ev_d (K := K) rfl h_self)) (ea_nilD (K := K))))) (ev_tup (ea_consD (ev_fld (d := (eT (eP2 Dat.str Dat.int)) a.2.1) (i := 0) T.cl_Peal T.na_Peal_bells (by decide +kernel) rfl (ev_d (K := K) rfl h_other)) (ea_consD (ev_fld (d := (eT (eP3 Dat.str Dat.str Dat.int)) a.2.2.1) (i := 1) T.cl_Peal T.na_Peal_notches (by decide +kernel) rfl (ev_d (K := K) rfl h_other)) (ea_nilD (K := K))))))) ok (fun v G H s1 ok hv => ?_)
    have sg := sg.trans s1
    cases hm
    exact q v G H sg (ok.less hB) hv
/-! ### Peal___str__ -/
theorem sc_Peal___str__ : FnScope ["self", "rows", "name", "marks", "other", "number"] ["self"] (defScope s_Peal___str__) := ⟨rfl, rfl, rfl, by decide +kernel, rfl, by decide +kernel, by decide +kernel⟩
def a_Peal___str__ (K : PySem.W.Frag) (a : ((List (Str × Int)) × (List (Str × Str × Int)) × (List (Str × Int)) × (List ((Str × Str) × Int)))) : List V → Hp → Prop := conP (DD K (eX_Peal a)) (nilP)
def m_Peal___str__ (a : ((List (Str × Int)) × (List (Str × Str × Int)) × (List (Str × Int)) × (List ((Str × Str) × Int)))) : Option Str :=
  (lcO (fun x1 : (Str × Int) => (fitO x1.1).bind fun t9 => (strIO x1.2).bind fun t10 => (fmtO [(Str.ofString "bell "), t9, (Str.ofString " "), t10]).bind fun t11 => some t11) a.1).bind fun t12 => (lcO (fun x13 : (Str × Str × Int) => (fitO x13.1).bind fun t22 => (fitO x13.2.1).bind fun t23 => (strIO x13.2.2).bind fun t24 => (fmtO [t22, (Str.ofString " turns "), t23, (Str.ofString " "), t24]).bind fun t25 => some t25) a.2.1).bind fun t26 => (catO t12 t26).bind fun t27 => (joinO (Str.ofString "
") t27).bind fun t28 => some t28
abbrev sp_Peal___str__ [Tb] (K : PySem.W.Frag) : Sp := spP (a_Peal___str__ K) (m_Peal___str__) fun r => DD K (Dat.str r)
theorem ok_Peal___str__ [Tb] {P : Program} {w : World} {K : PySem.W.Frag} {mg : Str → Option Value} {base : Heap} (T : Txt K mg) : FnOk P w K mg base CX0 (1) T.a_Peal___str__ T.d_Peal___str__ ["self"] (sp_Peal___str__ K) := by
  refine T.F_Peal___str__.ok sc_Peal___str__ (fun vs H Q E h => ?_) (fun cdv A outer s0 H vs Q E hr h => ?_)
  · obtain ⟨G, M0, a, r, ok, ⟨v_self, _, rfl, h_self, rfl⟩, hm, q⟩ := h
    rfl
  · obtain ⟨G, M0, a, r, ok, ⟨v_self, _, rfl, h_self, rfl⟩, hm, q⟩ := h
    unfold m_Peal___str__ at hm
    have sg := Same.refl G
    have hB := Same.refl M0
    refine ⟨_, (pss_cons (ps_setLc (i := 1) (own := [("name", 2), ("marks", 3)]) (g := (gTup K 2 (gCons (gName 2) (gCons (gName 3) gNil)))) (tt := tYes) rfl sc_Peal___str__.nd rfl rfl (sw_true rfl rfl rfl (by decide +kernel)) (pi_tupK (K := K) (pe_fldK (K := K) (pv 0))) (blkOk_by (own := [("name", 2), ("marks", 3)]) (N := ["self", "rows", "name", "marks", "other", "number"]) (sc := defScope s_Peal___str__) (by decide +kernel)) (fun _ _ _ _ _ => (pg_tup rfl (pgs_cons (pg_name (i := 2) sc_Peal___str__.nd rfl (by first | exact .inl rfl | exact .inr rfl)) (pgs_cons (pg_name (i := 3) sc_Peal___str__.nd rfl (by first | exact .inl rfl | exact .inr rfl)) pgs_nil)))) (fun _ _ _ _ _ => pts_nil) (fun _ _ _ _ _ => (pe_joined (PJ.cons pe_str (PJ.cons (pe_fmt (pv 2)) (PJ.cons pe_str (PJ.cons (pe_fmt (pv 3)) PJ.nil))))))) (pss_cons (ps_aug (i := 1) sc_Peal___str__.nd rfl (.inl rfl) (pe_lc (own := [("name", 2), ("other", 4), ("number", 5)]) (g := (gTup K 3 (gCons (gName 2) (gCons (gName 4) (gCons (gName 5) gNil))))) (tt := tYes) rfl sc_Peal___str__.nd (pi_tupK (K := K) (pe_fldK (K := K) (pv 0))) (blkOk_by (own := [("name", 2), ("other", 4), ("number", 5)]) (N := ["self", "rows", "name", "marks", "other", "number"]) (sc := defScope s_Peal___str__) (by decide +kernel)) (fun _ _ _ _ _ => (pg_tup rfl (pgs_cons (pg_name (i := 2) sc_Peal___str__.nd rfl (by first | exact .inl rfl | exact .inr rfl)) (pgs_cons (pg_name (i := 4) sc_Peal___str__.nd rfl (by first | exact .inl rfl | exact .inr rfl)) (pgs_cons (pg_name (i := 5) sc_Peal___str__.nd rfl (by first | exact .inl rfl | exact .inr rfl)) pgs_nil))))) (fun _ _ _ _ _ => pts_nil) (fun _ _ _ _ _ => (pe_joined (PJ.cons (pe_fmt (pv 2)) (PJ.cons pe_str (PJ.cons (pe_fmt (pv 4)) (PJ.cons pe_str (PJ.cons (pe_fmt (pv 5)) PJ.nil)))))))) ip_ext) (pss_cons (ps_ret (pe_m1 PySem.F.slot_str_join PySem.F.type_str_join (mt_joinK (K := K) rfl) pe_str (pv 1))) pss_nil))), ?_⟩
    refine nrm (σ' := [some v_self, none, none, none, none, none]) rfl ?_
    obtain ⟨t12, e_t12, hm⟩ := bs hm
    refine q_setL (σ' := fun v => [some v_self, some v, none, none, none, none]) (el_lcM (ea := (eP2 Dat.str Dat.int)) (eb := Dat.str) (xs := a.1) (ys := t12) (hf := e_t12) (src_tup (ev_fld (d := (eT (eP2 Dat.str Dat.int)) a.1) (i := 0) T.cl_Peal T.na_Peal_bells (by decide +kernel) rfl (ev_d (K := K) rfl h_self))) (fun x1 _ Mx5 _ _ he6 sM4 sG3 hv2 => by (obtain ⟨t9, e_t9, he6⟩ := bs he6); (obtain ⟨t10, e_t10, he6⟩ := bs he6); (obtain ⟨t11, e_t11, he6⟩ := bs he6); (have he6 := Option.some.inj he6); subst he6; exact (tg_t2 hv2 fun _ _ h7 h8 => (tg_name (tg_name ⟨rfl, (ev_joined e_t11 (ej_cons (ev_str (K := K) (by decide +kernel)) (ej_cons (ev_fmtSO e_t9 (ev_d (K := K) rfl h7)) (ej_cons (ev_str (K := K) (by decide +kernel)) (ej_cons (ev_fmtI e_t10 (ev_d (K := K) rfl h8)) (ej_nil (K := K)))))))⟩))))) ok (fun _ => rfl) (fun p_rows vs_rows G H s1 ok hn hd_rows => ?_)
    have h_self := dp_up s1 _ h_self
    have sg := sg.trans s1
    have h0_rows : M0 p_rows = none := sB_none (M := M0) hB hn
    have hd_rows : DqAll K G vs_rows (t12.map Dat.str) := hd_rows
    have ok : Ok _ (upd M0 p_rows (.lst vs_rows)) _ := ok
    have hB : Same M0 (upd M0 p_rows (.lst vs_rows)) := (sB_own hB h0_rows)
    have hp_rows : (upd M0 p_rows (.lst vs_rows)) p_rows = some (.lst vs_rows) := upd_same
    obtain ⟨M, eM⟩ : ∃ m, m = (upd M0 p_rows (.lst vs_rows)) := ⟨_, rfl⟩
    rw [← eM] at ok hB hp_rows
    clear eM
    obtain ⟨t26, e_t26, hm⟩ := bs hm
    obtain ⟨t27, e_t27, hm⟩ := bs hm
    obtain ⟨hl_t27, ea_t27⟩ := catO_of e_t27
    refine q_augExt (ds := t26.map Dat.str) rfl (EvL.ev (el_lcM (ea := (eP3 Dat.str Dat.str Dat.int)) (eb := Dat.str) (xs := a.2.1) (ys := t26) (hf := e_t26) (src_tup (ev_fld (d := (eT (eP3 Dat.str Dat.str Dat.int)) a.2.1) (i := 1) T.cl_Peal T.na_Peal_notches (by decide +kernel) rfl (ev_d (K := K) rfl h_self))) (fun x13 _ Mx17 _ _ he18 sM16 sG15 hv14 => by (obtain ⟨t22, e_t22, he18⟩ := bs he18); (obtain ⟨t23, e_t23, he18⟩ := bs he18); (obtain ⟨t24, e_t24, he18⟩ := bs he18); (obtain ⟨t25, e_t25, he18⟩ := bs he18); (have he18 := Option.some.inj he18); subst he18; exact (tg_t3 hv14 fun _ _ _ h19 h20 h21 => (tg_name (tg_name (tg_name ⟨rfl, (ev_joined e_t25 (ej_cons (ev_fmtSO e_t22 (ev_d (K := K) rfl h19)) (ej_cons (ev_str (K := K) (by decide +kernel)) (ej_cons (ev_fmtSO e_t23 (ev_d (K := K) rfl h20)) (ej_cons (ev_str (K := K) (by decide +kernel)) (ej_cons (ev_fmtI e_t24 (ev_d (K := K) rfl h21)) (ej_nil (K := K))))))))⟩))))))) hp_rows (by rw [dpAll_len hd_rows, List.length_map, List.length_map]; exact szl hl_t27) rfl ok (fun ws G H s1 ok hv => ?_)
    have h_self := dp_up s1 _ h_self
    have hd_rows := dpAll_up s1 _ hd_rows
    have sg := sg.trans s1
    have hd_rows : DqAll K G (vs_rows ++ ws) (t27.map Dat.str) := by rw [ea_t27, List.map_append]; exact dpAll_app hd_rows hv
    have ok : Ok _ (upd M p_rows (.lst (vs_rows ++ ws))) _ := ok
    have hB : Same M0 (upd M p_rows (.lst (vs_rows ++ ws))) := (sB_own hB h0_rows)
    have hp_rows : (upd M p_rows (.lst (vs_rows ++ ws))) p_rows = some (.lst (vs_rows ++ ws)) := upd_same
    obtain ⟨M, eM⟩ : ∃ m, m = (upd M p_rows (.lst (vs_rows ++ ws))) := ⟨_, rfl⟩
    rw [← eM] at ok hB hp_rows
    clear eM
    obtain ⟨vs_rows, e_vs⟩ : ∃ m, m = (vs_rows ++ ws) := ⟨_, rfl⟩
    rw [← e_vs] at hp_rows hd_rows
    clear e_vs
    refine k_frz ok hp_rows h0_rows hB (fun G s1 hg ok => ?_)
    have h_self := dp_up s1 _ h_self
    have hd_rows := dpAll_up s1 _ hd_rows
    have sg := sg.trans s1
    have h_rows : Dq K G (.ref p_rows) ((eL Dat.str) t27) := .lst hg hd_rows
    have hB : Same M0 M0 := Same.refl _
    obtain ⟨t28, e_t28, hm⟩ := bs hm
    refine q_ret (ev_joinL e_t28 (ev_str (K := K) (by decide +kernel)) (ev_d (K := K) rfl h_rows)) ok (fun v G H s1 ok hv => ?_)
    have sg := sg.trans s1
    cases hm
    exact q v G H sg (ok.less hB) hv
/-! ### Peal___repr__ -/
theorem sc_Peal___repr__ : FnScope ["self"] ["self"] (defScope s_Peal___repr__) := ⟨rfl, rfl, rfl, by decide +kernel, rfl, by decide +kernel, by decide +kernel⟩
def a_Peal___repr__ (K : PySem.W.Frag) (a : ((List (Str × Int)) × (List (Str × Str × Int)) × (List (Str × Int)) × (List ((Str × Str) × Int)))) : List V → Hp → Prop := conP (DD K (eX_Peal a)) (nilP)
def m_Peal___repr__ (a : ((List (Str × Int)) × (List (Str × Str × Int)) × (List (Str × Int)) × (List ((Str × Str) × Int)))) : Option Str :=
  (strIO (a.1.length : Int)).bind fun t1 => (strIO (a.2.1.length : Int)).bind fun t2 => (fmtO [(Str.ofString "Peal("), t1, (Str.ofString " bells, "), t2, (Str.ofString " notches)")]).bind fun t3 => some t3
abbrev sp_Peal___repr__ [Tb] (K : PySem.W.Frag) : Sp := spP (a_Peal___repr__ K) (m_Peal___repr__) fun r => DD K (Dat.str r)
theorem ok_Peal___repr__ [Tb] {P : Program} {w : World} {K : PySem.W.Frag} {mg : Str → Option Value} {base : Heap} (T : Txt K mg) : FnOk P w K mg base CX0 (1) T.a_Peal___repr__ T.d_Peal___repr__ ["self"] (sp_Peal___repr__ K) := by
  refine T.F_Peal___repr__.ok sc_Peal___repr__ (fun vs H Q E h => ?_) (fun cdv A outer s0 H vs Q E hr h => ?_)
  · obtain ⟨G, M0, a, r, ok, ⟨v_self, _, rfl, h_self, rfl⟩, hm, q⟩ := h
    rfl
  · obtain ⟨G, M0, a, r, ok, ⟨v_self, _, rfl, h_self, rfl⟩, hm, q⟩ := h
    unfold m_Peal___repr__ at hm
    have sg := Same.refl G
    have hB := Same.refl M0
    refine ⟨_, (pss_cons (ps_ret (pe_joined (PJ.cons pe_str (PJ.cons (pe_fmt (pe_callB (cl_lenK (K := K)) (by rfl) T.n_len (by decide +kernel) (pa_cons (pe_fldK (K := K) (pv 0)) pa_nil))) (PJ.cons pe_str (PJ.cons (pe_fmt (pe_callB (cl_lenK (K := K)) (by rfl) T.n_len (by decide +kernel) (pa_cons (pe_fldK (K := K) (pv 0)) pa_nil))) (PJ.cons pe_str PJ.nil))))))) pss_nil), ?_⟩
    refine nrm (σ' := [some v_self]) rfl ?_
    obtain ⟨t1, e_t1, hm⟩ := bs hm
    obtain ⟨t2, e_t2, hm⟩ := bs hm
    obtain ⟨t3, e_t3, hm⟩ := bs hm
    refine q_ret (ev_joined e_t3 (ej_cons (ev_str (K := K) (by decide +kernel)) (ej_cons (ev_fmtI e_t1 (ev_lenTM (e := (eP2 Dat.str Dat.int)) (ea_d (ev_fld (d := (eT (eP2 Dat.str Dat.int)) a.1) (i := 0) T.cl_Peal T.na_Peal_bells (by decide +kernel) rfl (ev_d (K := K) rfl h_self)) ea_nil))) (ej_cons (ev_str (K := K) (by decide +kernel)) (ej_cons (ev_fmtI e_t2 (ev_lenTM (e := (eP3 Dat.str Dat.str Dat.int)) (ea_d (ev_fld (d := (eT (eP3 Dat.str Dat.str Dat.int)) a.2.1) (i := 1) T.cl_Peal T.na_Peal_notches (by decide +kernel) rfl (ev_d (K := K) rfl h_self)) ea_nil))) (ej_cons (ev_str (K := K) (by decide +kernel)) (ej_nil (K := K)))))))) ok (fun v G H s1 ok hv => ?_)
    have sg := sg.trans s1
    cases hm
    exact q v G H sg (ok.less hB) hv
/-! ### number_of -/
theorem sc_number_of : FnScope ["word"] ["word"] (defScope s_number_of) := ⟨rfl, rfl, rfl, by decide +kernel, rfl, by decide +kernel, by decide +kernel⟩
def a_number_of (K : PySem.W.Frag) (a : Str) : List V → Hp → Prop := conP (DD K (Dat.str a)) (nilP)
def m_number_of (a : Str) : Option (Option Int) :=
  (m_is_figures a).bind fun t1 => (cond t1 ((lenS a).bind fun t2 => some (decide (t2 < (3 : Int)))) (some false)).bind fun t3 => (cond t3 ((intSO a).bind fun t4 => some (some t4)) (some (none : (Option Int)))).bind fun t5 => some t5
abbrev sp_number_of [Tb] (K : PySem.W.Frag) : Sp := spP (a_number_of K) (m_number_of) fun r => DD K ((eO Dat.int) r)
theorem ok_number_of [Tb] {P : Program} {w : World} {K : PySem.W.Frag} {mg : Str → Option Value} {base : Heap} (T : Txt K mg) (O_is_figures : FnOk P w K mg base CX0 1 T.a_is_figures T.d_is_figures ["word"] (sp_is_figures K)) : FnOk P w K mg base CX0 (2) T.a_number_of T.d_number_of ["word"] (sp_number_of K) := by
  refine T.F_number_of.ok sc_number_of (fun vs H Q E h => ?_) (fun cdv A outer s0 H vs Q E hr h => ?_)
  · obtain ⟨G, M0, a, r, ok, ⟨v_word, _, rfl, h_word, rfl⟩, hm, q⟩ := h
    rfl
  · obtain ⟨G, M0, a, r, ok, ⟨v_word, _, rfl, h_word, rfl⟩, hm, q⟩ := h
    unfold m_number_of at hm
    have sg := Same.refl G
    have hB := Same.refl M0
    refine ⟨_, (pss_cons (ps_ret (pe_ifExp (PW.pt (pw_and (pt_val (pe_call O_is_figures (hr.mono (by decide)) (by rfl) T.g_is_figures T.F_is_figures.kp T.b_is_figures .nil pass0 (pa_cons (pv 0) pa_nil))) (pw_and1 (pt_cmpR op_lt (pe_callB cl_lenS (by rfl) T.n_len (by decide +kernel) (pa_cons (pv 0) pa_nil)) pe_int (nomark _))))) (pe_callTy call_int_str (by rfl) T.n_int (by decide +kernel) (pa_cons (pv 0) pa_nil)) pe_non)) pss_nil), ?_⟩
    refine nrm (σ' := [some v_word]) rfl ?_
    obtain ⟨t1, e_t1, hm⟩ := bs hm
    obtain ⟨t3, e_t3, hm⟩ := bs hm
    obtain ⟨t5, e_t5, hm⟩ := bs hm
    refine q_ret (ev_if (P := DD K ((eO Dat.int) t5)) (et_andG (c := t3) (et_B (ev_callP (res := fun r => DD K (Dat.bool r)) (a := a) e_t1 (ea_d (ev_d (K := K) rfl h_word) ea_nil))) (fun eb => by have e1 := cond_t eb e_t3; (obtain ⟨t2, e_t2, e1⟩ := bs e1); (have e1 := Option.some.inj e1); subst e1; exact (et_test (ev_lt (ev_lenS e_t2 (ea_d (ev_d (K := K) rfl h_word) ea_nil)) (ev_int (K := K))))) (fun eb => by have e1 := cond_f eb e_t3; cases e1; exact ⟨rfl, rfl⟩)) (fun eb => by have e1 := cond_t eb e_t5; (obtain ⟨t4, e_t4, e1⟩ := bs e1); cases e1; exact (ev_intS e_t4 (ea_d (ev_d (K := K) rfl h_word) ea_nil))) (fun eb => by have e1 := cond_f eb e_t5; cases e1; exact (ev_non (K := K)))) ok (fun v G H s1 ok hv => ?_)
    have sg := sg.trans s1
    cases hm
    exact q v G H sg (ok.less hB) hv
/-! ### bell_of -/
theorem sc_bell_of : FnScope ["words", "bells", "bell"] ["words", "bells"] (defScope s_bell_of) := ⟨rfl, rfl, rfl, by decide +kernel, rfl, by decide +kernel, by decide +kernel⟩
def a_bell_of (K : PySem.W.Frag) (a : (List Str) × (List (Str × Int))) : List V → Hp → Prop := conP (DD K ((eL Dat.str) a.1)) (conP (DD K ((eL (eP2 Dat.str Dat.int)) a.2)) (nilP))
def m_bell_of (a : (List Str) × (List (Str × Int))) : Option (Option (Str × Int)) :=
  (cond (!decide ((a.1.length : Int) = (3 : Int))) (some true) ((atI a.1 (0 : Int)).bind fun t1 => some ((!decide (t1 = (Str.ofString "bell"))) || (decide ((a.2.length : Int) = (8 : Int)))))).bind fun t2 => cond t2 (some (none : (Option (Str × Int)))) ((atI a.1 (1 : Int)).bind fun t3 => (atI a.1 (2 : Int)).bind fun t4 => (m_number_of t4).bind fun t5 => ((t3, t5).2).bind fun t6 => (m_is_bell ((t3, t5).1, t6)).bind fun t7 => (cond (!t7) (some true) ((cond (!decide (a.2 = ([] : (List (Str × Int))))) ((atI a.2 (-(1 : Int))).bind fun t8 => some (!sLt t8.1 (t3, t5).1)) (some false)).bind fun t9 => some t9)).bind fun t10 => cond t10 (some (none : (Option (Str × Int)))) (((t3, t5).2).bind fun t11 => some (some ((t3, t5).1, t11))))
abbrev sp_bell_of [Tb] (K : PySem.W.Frag) : Sp := spP (a_bell_of K) (m_bell_of) fun r => DD K ((eO (eP2 Dat.str Dat.int)) r)
theorem ok_bell_of [Tb] {P : Program} {w : World} {K : PySem.W.Frag} {mg : Str → Option Value} {base : Heap} (T : Txt K mg) (O_number_of : FnOk P w K mg base CX0 2 T.a_number_of T.d_number_of ["word"] (sp_number_of K)) (O_is_bell : FnOk P w K mg base CX0 3 T.a_is_bell T.d_is_bell ["thing"] (sp_is_bell K)) : FnOk P w K mg base CX0 (4) T.a_bell_of T.d_bell_of ["words", "bells"] (sp_bell_of K) := by
  refine T.F_bell_of.ok sc_bell_of (fun vs H Q E h => ?_) (fun cdv A outer s0 H vs Q E hr h => ?_)
  · obtain ⟨G, M0, a, r, ok, ⟨v_words, _, rfl, h_words, v_bells, _, rfl, h_bells, rfl⟩, hm, q⟩ := h
    rfl
  · obtain ⟨G, M0, a, r, ok, ⟨v_words, _, rfl, h_words, v_bells, _, rfl, h_bells, rfl⟩, hm, q⟩ := h
    unfold m_bell_of at hm
    have sg := Same.refl G
    have hB := Same.refl M0
    refine ⟨_, (pss_cons (ps_if (PW.pt (pw_or (pt_cmpR op_ne (pe_callB (cl_lenK (K := K)) (by rfl) T.n_len (by decide +kernel) (pa_cons (pv 0) pa_nil)) pe_int (nomark _)) (pw_or (pt_cmpR op_ne (pe_ix (ix_listK (K := K)) (pv 0) pe_int (fun _ _ => rfl)) pe_str (nomark _)) (pw_or1 (pt_cmpR op_eq (pe_callB (cl_lenK (K := K)) (by rfl) T.n_len (by decide +kernel) (pa_cons (pv 1) pa_nil)) (pe_glob (v := .int 8) (by rfl) T.c_MOST_BELLS ⟨_, rfl⟩) (nomark _)))))) (pss_cons (ps_ret pe_non) pss_nil) pss_nil) (pss_cons (ps_set (i := 2) sc_bell_of.nd rfl (.inl rfl) (pe_tupF (pa_cons (pe_ix (ix_listK (K := K)) (pv 0) pe_int (fun _ _ => rfl)) (pa_cons (pe_call O_number_of (hr.mono (by decide)) (by rfl) T.g_number_of T.F_number_of.kp T.b_number_of .nil pass0 (pa_cons (pe_ix (ix_listK (K := K)) (pv 0) pe_int (fun _ _ => rfl)) pa_nil)) pa_nil)))) (pss_cons (ps_if (PW.pt (pw_or (pt_not (pt_val (pe_call O_is_bell (hr.mono (by decide)) (by rfl) T.g_is_bell T.F_is_bell.kp T.b_is_bell .nil pass0 (pa_cons (pv 2) pa_nil)))) (pw_or1 (PW.pt (pw_and (pt_cmpR (op_neDK (K := K) hr.units) (pv 1) (pe_lst pa_nil) (nomark _)) (pw_and1 (pt_cmpR op_le_str (pe_ix (ix_tupK (K := K)) (pv 2) pe_int (fun _ _ => rfl)) (pe_ix (ix_tupK (K := K)) (pe_ix (ix_listK (K := K)) (pv 1) (pe_un un_neg pe_int) (fun _ _ => rfl)) pe_int (fun _ _ => rfl)) (nomark _)))))))) (pss_cons (ps_ret pe_non) pss_nil) pss_nil) (pss_cons (ps_ret (pv 2)) pss_nil)))), ?_⟩
    refine nrm (σ' := [some v_words, some v_bells, none]) rfl ?_
    obtain ⟨t2, e_t2, hm⟩ := bs hm
    refine q_if (et_orG (c := t2) (et_test (ev_neI (ev_lenLM (e := Dat.str) (ea_d (ev_d (K := K) rfl h_words) ea_nil)) (ev_int (K := K)))) (fun eb => by have e1 := cond_f eb e_t2; (obtain ⟨t1, e_t1, e1⟩ := bs e1); (have e1 := Option.some.inj e1); subst e1; exact (et_or (et_test (ev_neS (ev_ixLM (e := Dat.str) e_t1 (ev_d (K := K) rfl h_words) (ev_int (K := K))) (ev_str (K := K) (by decide +kernel)))) fun _ => (et_test (ev_eqI (ev_lenLM (e := (eP2 Dat.str Dat.int)) (ea_d (ev_d (K := K) rfl h_bells) ea_nil)) (ev_int (K := K)))))) (fun eb => by have e1 := cond_t eb e_t2; cases e1; exact ⟨rfl, rfl⟩)) ok (fun hb G H s1 ok => ?_) (fun hb G H s1 ok => ?_)
    · have hm := cond_t hb hm
      have h_words := dp_up s1 _ h_words
      have h_bells := dp_up s1 _ h_bells
      have sg := sg.trans s1
      refine q_ret (ev_non (K := K)) ok (fun v G H s1 ok hv => ?_)
      have sg := sg.trans s1
      cases hm
      exact q v G H sg (ok.less hB) hv
    · have hm := cond_f hb hm
      have h_words := dp_up s1 _ h_words
      have h_bells := dp_up s1 _ h_bells
      have sg := sg.trans s1
      refine q_nilU ?_
      obtain ⟨t3, e_t3, hm⟩ := bs hm
      obtain ⟨t4, e_t4, hm⟩ := bs hm
      obtain ⟨t5, e_t5, hm⟩ := bs hm
      refine q_set (σ' := fun v => [some v_words, some v_bells, some v]) (ev_tup (ea_consD (ev_ixLM (e := Dat.str) e_t3 (ev_d (K := K) rfl h_words) (ev_int (K := K))) (ea_consD (ev_callP (res := fun r => DD K ((eO Dat.int) r)) (a := t4) e_t5 (ea_d (ev_ixLM (e := Dat.str) e_t4 (ev_d (K := K) rfl h_words) (ev_int (K := K))) ea_nil)) (ea_nilD (K := K))))) ok (fun _ => rfl) (fun v_bell G H s1 ok h_bell => ?_)
      have h_words := dp_up s1 _ h_words
      have h_bells := dp_up s1 _ h_bells
      have sg := sg.trans s1
      obtain ⟨t6, e_t6, hm⟩ := bs hm
      obtain ⟨t7, e_t7, hm⟩ := bs hm
      obtain ⟨t10, e_t10, hm⟩ := bs hm
      refine q_if (et_orG (c := t10) (et_not (et_B (ev_callP (res := fun r => DD K (Dat.bool r)) (a := ((t3, t5).1, t6)) e_t7 (ea_d (ev_is (ev_d (K := K) rfl h_bell) (congrArg (fun o => Dat.tuple [Dat.str (t3, t5).1, (eO Dat.int) o]) e_t6)) ea_nil)))) (fun eb => by have e1 := cond_f eb e_t10; (obtain ⟨t9, e_t9, e1⟩ := bs e1); (have e1 := Option.some.inj e1); subst e1; exact (et_andG (c := t9) (et_test (ev_neE (e := (eL (eP2 Dat.str Dat.int))) (x := a.2) (y := ([] : (List (Str × Int)))) (eqe_L (eqe_P2 eqe_str eqe_int)) (by decide) (ev_d (K := K) rfl h_bells) (EvL.ev (el_lst (ea_nilD (K := K)))))) (fun eb => by have e1 := cond_t eb e_t9; (obtain ⟨t8, e_t8, e1⟩ := bs e1); (have e1 := Option.some.inj e1); subst e1; exact (et_test (ev_leS (ev_ixT (d := Dat.str (t3, t5).1) rfl (ev_d (K := K) rfl h_bell) ev_int) (ev_ixT (d := Dat.str t8.1) rfl (ev_ixLM (e := (eP2 Dat.str Dat.int)) e_t8 (ev_d (K := K) rfl h_bells) (ev_neg (ev_int (K := K)))) ev_int)))) (fun eb => by have e1 := cond_f eb e_t9; cases e1; exact ⟨rfl, rfl⟩))) (fun eb => by have e1 := cond_t eb e_t10; cases e1; exact ⟨rfl, rfl⟩)) ok (fun hb G H s1 ok => ?_) (fun hb G H s1 ok => ?_)
      · have hm := cond_t hb hm
        have h_words := dp_up s1 _ h_words
        have h_bells := dp_up s1 _ h_bells
        have h_bell := dp_up s1 _ h_bell
        have sg := sg.trans s1
        refine q_ret (ev_non (K := K)) ok (fun v G H s1 ok hv => ?_)
        have sg := sg.trans s1
        cases hm
        exact q v G H sg (ok.less hB) hv
      · have hm := cond_f hb hm
        have h_words := dp_up s1 _ h_words
        have h_bells := dp_up s1 _ h_bells
        have h_bell := dp_up s1 _ h_bell
        have sg := sg.trans s1
        refine q_nilU ?_
        obtain ⟨t11, e_t11, hm⟩ := bs hm
        refine q_ret (ev_is (ev_d (K := K) rfl h_bell) (congrArg (fun o => Dat.tuple [Dat.str (t3, t5).1, (eO Dat.int) o]) e_t11)) ok (fun v G H s1 ok hv => ?_)
        have sg := sg.trans s1
        cases hm
        exact q v G H sg (ok.less hB) hv
/-! ### notch_of -/
theorem sc_notch_of : FnScope ["words", "bells", "notches", "notch", "bell"] ["words", "bells", "notches"] (defScope s_notch_of) := ⟨rfl, rfl, rfl, by decide +kernel, rfl, by decide +kernel, by decide +kernel⟩
def a_notch_of (K : PySem.W.Frag) (a : (List Str) × (List (Str × Int)) × (List (Str × Str × Int))) : List V → Hp → Prop := conP (DD K ((eL Dat.str) a.1)) (conP (DD K ((eL (eP2 Dat.str Dat.int)) a.2.1)) (conP (DD K ((eL (eP3 Dat.str Dat.str Dat.int)) a.2.2)) (nilP)))
def m_notch_of (a : (List Str) × (List (Str × Int)) × (List (Str × Str × Int))) : Option (Option (Str × Str × Int)) :=
  (cond (!decide ((a.1.length : Int) = (4 : Int))) (some true) ((atI a.1 (1 : Int)).bind fun t1 => some (!decide (t1 = (Str.ofString "turns"))))).bind fun t2 => cond t2 (some (none : (Option (Str × Str × Int)))) ((atI a.1 (0 : Int)).bind fun t3 => (atI a.1 (2 : Int)).bind fun t4 => (atI a.1 (3 : Int)).bind fun t5 => (m_number_of t5).bind fun t6 => ((t3, t4, t6).2.2).bind fun t7 => (lcO (fun x8 : (Str × Int) => some x8.1) a.2.1).bind fun t14 => (m_is_notch (((t3, t4, t6).1, (t3, t4, t6).2.1, t7), t14)).bind fun t15 => (cond (!t15) (some true) ((cond (!decide (a.2.2 = ([] : (List (Str × Str × Int))))) ((atI a.2.2 (-(1 : Int))).bind fun t16 => some (!ltP (t16.1, t16.2.1) ((t3, t4, t6).1, (t3, t4, t6).2.1))) (some false)).bind fun t17 => some t17)).bind fun t18 => cond t18 (some (none : (Option (Str × Str × Int)))) (((t3, t4, t6).2.2).bind fun t19 => some (some ((t3, t4, t6).1, (t3, t4, t6).2.1, t19))))
abbrev sp_notch_of [Tb] (K : PySem.W.Frag) : Sp := spP (a_notch_of K) (m_notch_of) fun r => DD K ((eO (eP3 Dat.str Dat.str Dat.int)) r)
theorem ok_notch_of [Tb] {P : Program} {w : World} {K : PySem.W.Frag} {mg : Str → Option Value} {base : Heap} (T : Txt K mg) (O_number_of : FnOk P w K mg base CX0 2 T.a_number_of T.d_number_of ["word"] (sp_number_of K)) (O_is_notch : FnOk P w K mg base CX0 3 T.a_is_notch T.d_is_notch ["thing", "names"] (sp_is_notch K)) : FnOk P w K mg base CX0 (4) T.a_notch_of T.d_notch_of ["words", "bells", "notches"] (sp_notch_of K) := by
  refine T.F_notch_of.ok sc_notch_of (fun vs H Q E h => ?_) (fun cdv A outer s0 H vs Q E hr h => ?_)
  · obtain ⟨G, M0, a, r, ok, ⟨v_words, _, rfl, h_words, v_bells, _, rfl, h_bells, v_notches, _, rfl, h_notches, rfl⟩, hm, q⟩ := h
    rfl
  · obtain ⟨G, M0, a, r, ok, ⟨v_words, _, rfl, h_words, v_bells, _, rfl, h_bells, v_notches, _, rfl, h_notches, rfl⟩, hm, q⟩ := h
    unfold m_notch_of at hm
    have sg := Same.refl G
    have hB := Same.refl M0
    refine ⟨_, (pss_cons (ps_if (PW.pt (pw_or (pt_cmpR op_ne (pe_callB (cl_lenK (K := K)) (by rfl) T.n_len (by decide +kernel) (pa_cons (pv 0) pa_nil)) pe_int (nomark _)) (pw_or1 (pt_cmpR op_ne (pe_ix (ix_listK (K := K)) (pv 0) pe_int (fun _ _ => rfl)) pe_str (nomark _))))) (pss_cons (ps_ret pe_non) pss_nil) pss_nil) (pss_cons (ps_set (i := 3) sc_notch_of.nd rfl (.inl rfl) (pe_tupF (pa_cons (pe_ix (ix_listK (K := K)) (pv 0) pe_int (fun _ _ => rfl)) (pa_cons (pe_ix (ix_listK (K := K)) (pv 0) pe_int (fun _ _ => rfl)) (pa_cons (pe_call O_number_of (hr.mono (by decide)) (by rfl) T.g_number_of T.F_number_of.kp T.b_number_of .nil pass0 (pa_cons (pe_ix (ix_listK (K := K)) (pv 0) pe_int (fun _ _ => rfl)) pa_nil)) pa_nil))))) (pss_cons (ps_if (PW.pt (pw_or (pt_not (pt_val (pe_call O_is_notch (hr.mono (by decide)) (by rfl) T.g_is_notch T.F_is_notch.kp T.b_is_notch .nil pass0 (pa_cons (pv 3) (pa_cons (pe_lc (own := [("bell", 4)]) (g := (gName 4)) (tt := tYes) rfl sc_notch_of.nd (pi_listK (K := K) (pv 1)) (blkOk_by (own := [("bell", 4)]) (N := ["words", "bells", "notches", "notch", "bell"]) (sc := defScope s_notch_of) (by decide +kernel)) (fun _ _ _ _ _ => (pg_name (i := 4) sc_notch_of.nd rfl (by first | exact .inl rfl | exact .inr rfl))) (fun _ _ _ _ _ => pts_nil) (fun _ _ _ _ _ => (pe_ix (ix_tupK (K := K)) (pv 4) pe_int (fun _ _ => rfl)))) pa_nil))))) (pw_or1 (PW.pt (pw_and (pt_cmpR (op_neDK (K := K) hr.units) (pv 2) (pe_lst pa_nil) (nomark _)) (pw_and1 (pt_cmpR (op_leD (K := K) hr.units) (pe_slice (sl_tupK (K := K)) (pv 3) po_none (po_some pe_int)) (pe_slice (sl_tupK (K := K)) (pe_ix (ix_listK (K := K)) (pv 2) (pe_un un_neg pe_int) (fun _ _ => rfl)) po_none (po_some pe_int)) (nomark _)))))))) (pss_cons (ps_ret pe_non) pss_nil) pss_nil) (pss_cons (ps_ret (pv 3)) pss_nil)))), ?_⟩
    refine nrm (σ' := [some v_words, some v_bells, some v_notches, none, none]) rfl ?_
    obtain ⟨t2, e_t2, hm⟩ := bs hm
    refine q_if (et_orG (c := t2) (et_test (ev_neI (ev_lenLM (e := Dat.str) (ea_d (ev_d (K := K) rfl h_words) ea_nil)) (ev_int (K := K)))) (fun eb => by have e1 := cond_f eb e_t2; (obtain ⟨t1, e_t1, e1⟩ := bs e1); (have e1 := Option.some.inj e1); subst e1; exact (et_test (ev_neS (ev_ixLM (e := Dat.str) e_t1 (ev_d (K := K) rfl h_words) (ev_int (K := K))) (ev_str (K := K) (by decide +kernel))))) (fun eb => by have e1 := cond_t eb e_t2; cases e1; exact ⟨rfl, rfl⟩)) ok (fun hb G H s1 ok => ?_) (fun hb G H s1 ok => ?_)
    · have hm := cond_t hb hm
      have h_words := dp_up s1 _ h_words
      have h_bells := dp_up s1 _ h_bells
      have h_notches := dp_up s1 _ h_notches
      have sg := sg.trans s1
      refine q_ret (ev_non (K := K)) ok (fun v G H s1 ok hv => ?_)
      have sg := sg.trans s1
      cases hm
      exact q v G H sg (ok.less hB) hv
    · have hm := cond_f hb hm
      have h_words := dp_up s1 _ h_words
      have h_bells := dp_up s1 _ h_bells
      have h_notches := dp_up s1 _ h_notches
      have sg := sg.trans s1
      refine q_nilU ?_
      obtain ⟨t3, e_t3, hm⟩ := bs hm
      obtain ⟨t4, e_t4, hm⟩ := bs hm
      obtain ⟨t5, e_t5, hm⟩ := bs hm
      obtain ⟨t6, e_t6, hm⟩ := bs hm
      refine q_set (σ' := fun v => [some v_words, some v_bells, some v_notches, some v, none]) (ev_tup (ea_consD (ev_ixLM (e := Dat.str) e_t3 (ev_d (K := K) rfl h_words) (ev_int (K := K))) (ea_consD (ev_ixLM (e := Dat.str) e_t4 (ev_d (K := K) rfl h_words) (ev_int (K := K))) (ea_consD (ev_callP (res := fun r => DD K ((eO Dat.int) r)) (a := t5) e_t6 (ea_d (ev_ixLM (e := Dat.str) e_t5 (ev_d (K := K) rfl h_words) (ev_int (K := K))) ea_nil)) (ea_nilD (K := K)))))) ok (fun _ => rfl) (fun v_notch G H s1 ok h_notch => ?_)
      have h_words := dp_up s1 _ h_words
      have h_bells := dp_up s1 _ h_bells
      have h_notches := dp_up s1 _ h_notches
      have sg := sg.trans s1
      obtain ⟨t7, e_t7, hm⟩ := bs hm
      obtain ⟨t14, e_t14, hm⟩ := bs hm
      obtain ⟨t15, e_t15, hm⟩ := bs hm
      obtain ⟨t18, e_t18, hm⟩ := bs hm
      refine q_if (et_orG (c := t18) (et_not (et_B (ev_callP (res := fun r => DD K (Dat.bool r)) (a := (((t3, t4, t6).1, (t3, t4, t6).2.1, t7), t14)) e_t15 (ea_d (ev_is (ev_d (K := K) rfl h_notch) (congrArg (fun o => Dat.tuple [Dat.str (t3, t4, t6).1, Dat.str (t3, t4, t6).2.1, (eO Dat.int) o]) e_t7)) (ea_d (EvL.ev (el_lcM (ea := (eP2 Dat.str Dat.int)) (eb := Dat.str) (xs := a.2.1) (ys := t14) (hf := e_t14) (src_list (ev_d (K := K) rfl h_bells)) (fun x8 _ Mx12 _ _ he13 sM11 sG10 hv9 => by cases he13; exact (tg_name ⟨rfl, (ev_ixT (d := Dat.str x8.1) rfl (ev_d (K := K) rfl hv9) ev_int)⟩)))) ea_nil))))) (fun eb => by have e1 := cond_f eb e_t18; (obtain ⟨t17, e_t17, e1⟩ := bs e1); (have e1 := Option.some.inj e1); subst e1; exact (et_andG (c := t17) (et_test (ev_neE (e := (eL (eP3 Dat.str Dat.str Dat.int))) (x := a.2.2) (y := ([] : (List (Str × Str × Int)))) (eqe_L (eqe_P3 eqe_str eqe_str eqe_int)) (by decide) (ev_d (K := K) rfl h_notches) (EvL.ev (el_lst (ea_nilD (K := K)))))) (fun eb => by have e1 := cond_t eb e_t17; (obtain ⟨t16, e_t16, e1⟩ := bs e1); (have e1 := Option.some.inj e1); subst e1; exact (et_test (ev_leP (a := ((t3, t4, t6).1, (t3, t4, t6).2.1)) (b := (t16.1, t16.2.1)) (ev_is (ev_slT (ev_d (K := K) rfl h_notch) eo_none (eo_some (ev_int (K := K)))) rfl) (ev_is (ev_slT (ev_ixLM (e := (eP3 Dat.str Dat.str Dat.int)) e_t16 (ev_d (K := K) rfl h_notches) (ev_neg (ev_int (K := K)))) eo_none (eo_some (ev_int (K := K)))) rfl)))) (fun eb => by have e1 := cond_f eb e_t17; cases e1; exact ⟨rfl, rfl⟩))) (fun eb => by have e1 := cond_t eb e_t18; cases e1; exact ⟨rfl, rfl⟩)) ok (fun hb G H s1 ok => ?_) (fun hb G H s1 ok => ?_)
      · have hm := cond_t hb hm
        have h_words := dp_up s1 _ h_words
        have h_bells := dp_up s1 _ h_bells
        have h_notches := dp_up s1 _ h_notches
        have h_notch := dp_up s1 _ h_notch
        have sg := sg.trans s1
        refine q_ret (ev_non (K := K)) ok (fun v G H s1 ok hv => ?_)
        have sg := sg.trans s1
        cases hm
        exact q v G H sg (ok.less hB) hv
      · have hm := cond_f hb hm
        have h_words := dp_up s1 _ h_words
        have h_bells := dp_up s1 _ h_bells
        have h_notches := dp_up s1 _ h_notches
        have h_notch := dp_up s1 _ h_notch
        have sg := sg.trans s1
        refine q_nilU ?_
        obtain ⟨t19, e_t19, hm⟩ := bs hm
        refine q_ret (ev_is (ev_d (K := K) rfl h_notch) (congrArg (fun o => Dat.tuple [Dat.str (t3, t4, t6).1, Dat.str (t3, t4, t6).2.1, (eO Dat.int) o]) e_t19)) ok (fun v G H s1 ok hv => ?_)
        have sg := sg.trans s1
        cases hm
        exact q v G H sg (ok.less hB) hv
/-! ### read_peal -/
theorem sc_read_peal : FnScope ["text", "bells", "notches", "row", "line", "words", "bell", "notch"] ["text"] (defScope s_read_peal) := ⟨rfl, rfl, rfl, by decide +kernel, rfl, by decide +kernel, by decide +kernel⟩
def a_read_peal (K : PySem.W.Frag) (a : Str) : List V → Hp → Prop := conP (DD K (Dat.str a)) (nilP)
def m_read_peal (a : Str) : Option ((List (Str × Int)) × (List (Str × Str × Int)) × (List (Str × Int)) × (List ((Str × Str) × Int))) :=
  cond (!true) (none) ((splitO a (Str.ofString "
")).bind fun t1 => (forO (fun (st3 : (List (Str × Int)) × (List (Str × Str × Int))) (x4 : (Int × Str)) => (splitO x4.2 (Str.ofString " ")).bind fun t13 => (cond (decide (st3.2 = ([] : (List (Str × Str × Int))))) ((m_bell_of (t13, st3.1)).bind fun t16 => some t16) (some (none : (Option (Str × Int))))).bind fun t17 => (m_notch_of (t13, st3.1, st3.2)).bind fun t20 => cond ((t17).isNone && (t20).isNone) (none) (cond (t17).isSome ((t17).bind fun t21 => (appO st3.1 t21).bind fun t22 => some (t22, st3.2)) ((t20).bind fun t23 => (appO st3.2 t23).bind fun t24 => some (st3.1, t24)))) (enum t1) (([] : (List (Str × Int))), ([] : (List (Str × Str × Int))))).bind fun fin2 => (m_Peal___init__ (fin2.1, fin2.2)).bind fun t25 => some t25)
abbrev sp_read_peal [Tb] (K : PySem.W.Frag) : Sp := spP (a_read_peal K) (m_read_peal) fun r => DD K (eX_Peal r)
theorem ok_read_peal [Tb] {P : Program} {w : World} {K : PySem.W.Frag} {mg : Str → Option Value} {base : Heap} (T : Txt K mg) (O_bell_of : FnOk P w K mg base CX0 4 T.a_bell_of T.d_bell_of ["words", "bells"] (sp_bell_of K)) (O_notch_of : FnOk P w K mg base CX0 4 T.a_notch_of T.d_notch_of ["words", "bells", "notches"] (sp_notch_of K)) (O_Peal___init__ : FnOk P w K mg base CX0 5 T.a_Peal___init__ T.d_Peal___init__ ["self", "bells", "notches"] (sp_Peal___init__ K)) : FnOk P w K mg base CX0 (7) T.a_read_peal T.d_read_peal ["text"] (sp_read_peal K) := by
  refine T.F_read_peal.ok sc_read_peal (fun vs H Q E h => ?_) (fun cdv A outer s0 H vs Q E hr h => ?_)
  · obtain ⟨G, M0, a, r, ok, ⟨v_text, _, rfl, h_text, rfl⟩, hm, q⟩ := h
    rfl
  · obtain ⟨G, M0, a, r, ok, ⟨v_text, _, rfl, h_text, rfl⟩, hm, q⟩ := h
    unfold m_read_peal at hm
    have sg := Same.refl G
    have hB := Same.refl M0
    refine ⟨_, (pss_cons (ps_if (pt_not (pt_val (pe_callB (call_isiKK (K := K)) (by rfl) T.n_isinstance (by decide +kernel) (pa_cons (pv 0) (pa_cons (pe_bltn (v := .ty "str") (by rfl) T.n_str (by decide +kernel) rfl) pa_nil))))) (pss_cons ps_never pss_nil) pss_nil) (pss_cons (ps_par (i := 1) (j := 2) rfl sc_read_peal.nd rfl rfl (by decide) rfl rfl (pa_cons (pe_lst pa_nil) (pa_cons (pe_lst pa_nil) pa_nil)) (by rfl)) (pss_cons (ps_for PassesOwn.never rfl (pi_enumK (K := K) (by rfl) T.n_enumerate (pa_cons (pe_split (pv 0) pe_str) pa_nil)) (pg_tup rfl (pgs_cons (pg_name (i := 3) sc_read_peal.nd rfl (.inl rfl)) (pgs_cons (pg_name (i := 4) sc_read_peal.nd rfl (.inl rfl)) pgs_nil))) (pss_cons (ps_set (i := 5) sc_read_peal.nd rfl (.inl rfl) (pe_split (pv 4) pe_str)) (pss_cons (ps_set (i := 6) sc_read_peal.nd rfl (.inl rfl) (pe_ifExp (pt_cmpR (op_eqDK (K := K) hr.units) (pv 2) (pe_lst pa_nil) (nomark _)) (pe_call O_bell_of (hr.mono (by decide)) (by rfl) T.g_bell_of T.F_bell_of.kp T.b_bell_of .nil pass0 (pa_cons (pv 5) (pa_cons (pv 1) pa_nil))) pe_non)) (pss_cons (ps_set (i := 7) sc_read_peal.nd rfl (.inl rfl) (pe_call O_notch_of (hr.mono (by decide)) (by rfl) T.g_notch_of T.F_notch_of.kp T.b_notch_of .nil pass0 (pa_cons (pv 5) (pa_cons (pv 1) (pa_cons (pv 2) pa_nil))))) (pss_cons (ps_if (PW.pt (pw_and (pt_cmpR op_isN (pv 6) pe_non (nomark _)) (pw_and1 (pt_cmpR op_isN (pv 7) pe_non (nomark _))))) (pss_cons ps_never pss_nil) pss_nil) (pss_cons (ps_if (pt_cmpR op_notN (pv 6) pe_non (nomark _)) (pss_cons (ps_expr (pe_bm PySem.F.plainAttrs_list PySem.F.slot_list_append PySem.F.type_list_append mt_append (pv 1) (pa_cons (pv 6) pa_nil))) pss_nil) (pss_cons (ps_expr (pe_bm PySem.F.plainAttrs_list PySem.F.slot_list_append PySem.F.type_list_append mt_append (pv 2) (pa_cons (pv 7) pa_nil))) pss_nil)) pss_nil)))))) (pss_cons (ps_ret (pe_make T.mk_Peal O_Peal___init__ (hr.mono (by decide)) (by rfl) T.mg_Peal T.b_Peal___init__ .nil pass0 (pa_cons (pe_callTy (cl_tupleK (K := K)) (by rfl) T.n_tuple (by decide +kernel) (pa_cons (pv 1) pa_nil)) (pa_cons (pe_callTy (cl_tupleK (K := K)) (by rfl) T.n_tuple (by decide +kernel) (pa_cons (pv 2) pa_nil)) pa_nil)))) pss_nil)))), ?_⟩
    refine nrm (σ' := [some v_text, none, none, none, none, none, none, none]) rfl ?_
    refine q_if (et_not (et_B (ev_isi (d := Dat.str a) (n := "str") (b := true) rfl (show kitB "str" "str" = some true by decide +kernel) (ea_d (ev_d (K := K) rfl h_text) (ea_cons mo_cls ev_cls ea_nil))))) ok (fun hb G H s1 ok => ?_) (fun hb G H s1 ok => ?_)
    · have hm := cond_t hb hm
      have h_text := dp_up s1 _ h_text
      have sg := sg.trans s1
      cases hm
    · have hm := cond_f hb hm
      have h_text := dp_up s1 _ h_text
      have sg := sg.trans s1
      refine q_nilU ?_
      refine q_parX (ex_L (el_lst (ea_nilD (K := K))) fun p_bells vs_bells hn_bells => (ex_L (el_lst (ea_nilD (K := K))) fun p_notches vs_notches hn_notches => ex_nil)) ok (fun vs G M H s1 okN hx => ?_)
      obtain ⟨p_bells, vs_bells, _, rfl, hn_bells, hd_bells, p_notches, vs_notches, _, rfl, hn_notches, hd_notches, rfl, rfl⟩ := hx
      have ok := okN
      refine ⟨_, _, rfl, ?_⟩
      have h_text := dp_up s1 _ h_text
      have sg := sg.trans s1
      have h0_bells : M0 p_bells = none := sB_none (M := M0) hB hn_bells
      have hd_bells : DqAll K G vs_bells (([] : (List (Str × Int))).map (eP2 Dat.str Dat.int)) := hd_bells
      have n_bells_notches : p_bells ≠ p_notches := ne_of_none upd_same hn_notches
      have n_notches_bells := n_bells_notches.symm
      have h0_notches : M0 p_notches = none := sB_none (M := (upd M0 p_bells (.lst vs_bells))) (sB_own hB h0_bells) hn_notches
      have hd_notches : DqAll K G vs_notches (([] : (List (Str × Str × Int))).map (eP3 Dat.str Dat.str Dat.int)) := hd_notches
      refine nrm (σ' := [some v_text, some (.ref p_bells), some (.ref p_notches), none, none, none, none, none]) rfl ?_
      have ok : Ok _ (upd (upd M0 p_bells (.lst vs_bells)) p_notches (.lst vs_notches)) _ := ok
      have hB : Same M0 (upd (upd M0 p_bells (.lst vs_bells)) p_notches (.lst vs_notches)) := (sB_own (sB_own hB h0_bells) h0_notches)
      have hp_bells : (upd (upd M0 p_bells (.lst vs_bells)) p_notches (.lst vs_notches)) p_bells = some (.lst vs_bells) := (up_ne n_bells_notches upd_same)
      have hp_notches : (upd (upd M0 p_bells (.lst vs_bells)) p_notches (.lst vs_notches)) p_notches = some (.lst vs_notches) := upd_same
      obtain ⟨M, eM⟩ : ∃ m, m = (upd (upd M0 p_bells (.lst vs_bells)) p_notches (.lst vs_notches)) := ⟨_, rfl⟩
      rw [← eM] at ok hB hp_bells hp_notches
      clear eM
      obtain ⟨t1, e_t1, hm⟩ := bs hm
      obtain ⟨fin2, e_fin2, hm⟩ := bs hm
      have hmo5 := hm
      refine q_forO (ea := (eR2 Dat.int Dat.str)) (Src.is (src_enumL (ea_d (ev_split e_t1 (ev_d (K := K) rfl h_text) (ev_str (K := K) (by decide +kernel))) ea_nil)) enumD_map) ok (fun (st3 : (List (Str × Int)) × (List (Str × Str × Int))) σ1 G1 M1 => ∃ (y_words : Option V) (y_bell : Option V) (y_notch : Option V) (y_row : Option V) (y_line : Option V) (vs_bells : List V) (vs_notches : List V), σ1 = [some v_text, some (.ref p_bells), some (.ref p_notches), y_row, y_line, y_words, y_bell, y_notch] ∧ (DqAll K G1 vs_bells (st3.1.map (eP2 Dat.str Dat.int))) ∧ (M1 p_bells = some (.lst vs_bells)) ∧ (DqAll K G1 vs_notches (st3.2.map (eP3 Dat.str Dat.str Dat.int))) ∧ (M1 p_notches = some (.lst vs_notches)) ∧ (Same M0 M1)) e_fin2 (fun G1 s1 => ⟨_, _, _, _, _, _, _, rfl, dpAll_up s1 _ hd_bells, hp_bells, dpAll_up s1 _ hd_notches, hp_notches, hB⟩) (by rintro _ _ _ _ _ ⟨y_words, y_bell, y_notch, y_row, y_line, vs_bells, vs_notches, rfl, hd_bells, hp_bells, hd_notches, hp_notches, hB⟩ s2; exact ⟨_, _, _, _, _, _, _, rfl, dpAll_up s2 _ hd_bells, hp_bells, dpAll_up s2 _ hd_notches, hp_notches, hB⟩) (fun x4 xv7 st3 st' σ1 G M H N hm hj s1 ok hv hN => ?_) (fun σ1 G M H s1 ok hj => ?_)
      · obtain ⟨y_words, y_bell, y_notch, y_row, y_line, vs_bells, vs_notches, rfl, hd_bells, hp_bells, hd_notches, hp_notches, hB⟩ := hj
        have h_text := dp_up s1 _ h_text
        have sg := sg.trans s1
        have sl8 := Same.refl G
        refine gr2 hv ok.g (fun w9 w10 hw11 hw12 => ?_)
        refine gn ?_
        have h_row := hw11
        cases h_row
        refine gn ?_
        have h_line := hw12
        refine nrm (σ' := [some v_text, some (.ref p_bells), some (.ref p_notches), some (.int x4.1), some w10, y_words, y_bell, y_notch]) rfl ?_
        obtain ⟨t13, e_t13, hm⟩ := bs hm
        refine q_set (σ' := fun v => [some v_text, some (.ref p_bells), some (.ref p_notches), some (.int x4.1), some w10, some v, y_bell, y_notch]) (ev_split e_t13 (ev_d (K := K) rfl h_line) (ev_str (K := K) (by decide +kernel))) ok (fun _ => rfl) (fun v_words G H s1 ok h_words => ?_)
        have h_text := dp_up s1 _ h_text
        have hd_bells := dpAll_up s1 _ hd_bells
        have hd_notches := dpAll_up s1 _ hd_notches
        have h_line := dp_up s1 _ h_line
        have sg := sg.trans s1
        have sl8 := sl8.trans s1
        obtain ⟨t17, e_t17, hm⟩ := bs hm
        refine q_set (σ' := fun v => [some v_text, some (.ref p_bells), some (.ref p_notches), some (.int x4.1), some w10, some v_words, some v, y_notch]) (ev_if (P := DD K ((eO (eP2 Dat.str Dat.int)) t17)) (et_lend hp_notches (fun Gl14 hGl14 sl14 => (et_test (ev_eqE (e := (eL (eP3 Dat.str Dat.str Dat.int))) (x := st3.2) (y := ([] : (List (Str × Str × Int)))) (eqe_L (eqe_P3 eqe_str eqe_str eqe_int)) (by decide) (ev_d (K := K) rfl (.lst hGl14 (dpAll_up sl14 _ hd_notches))) (EvL.ev (el_lst (ea_nilD (K := K)))))))) (fun eb => by have e1 := cond_t eb e_t17; (obtain ⟨t16, e_t16, e1⟩ := bs e1); cases e1; exact (ev_lend (d := _) hp_bells ((noL_O (fun _ => rfl)) _) (fun Gl15 hGl15 sl15 => (ev_callP (res := fun r => DD K ((eO (eP2 Dat.str Dat.int)) r)) (a := (t13, st3.1)) e_t16 (ea_d (ev_d (K := K) rfl (dp_up sl15 _ h_words)) (ea_d (ev_d (K := K) rfl (.lst hGl15 (dpAll_up sl15 _ hd_bells))) ea_nil)))))) (fun eb => by have e1 := cond_f eb e_t17; cases e1; exact (ev_non (K := K)))) ok (fun _ => rfl) (fun v_bell G H s1 ok h_bell => ?_)
        have h_text := dp_up s1 _ h_text
        have hd_bells := dpAll_up s1 _ hd_bells
        have hd_notches := dpAll_up s1 _ hd_notches
        have h_line := dp_up s1 _ h_line
        have h_words := dp_up s1 _ h_words
        have sg := sg.trans s1
        have sl8 := sl8.trans s1
        obtain ⟨t20, e_t20, hm⟩ := bs hm
        refine q_set (σ' := fun v => [some v_text, some (.ref p_bells), some (.ref p_notches), some (.int x4.1), some w10, some v_words, some v_bell, some v]) (ev_lend (d := _) hp_bells ((noL_O (fun _ => rfl)) _) (fun Gl18 hGl18 sl18 => (ev_lend (d := _) (drop_hp n_notches_bells hp_notches) ((noL_O (fun _ => rfl)) _) (fun Gl19 hGl19 sl19 => (ev_callP (res := fun r => DD K ((eO (eP3 Dat.str Dat.str Dat.int)) r)) (a := (t13, st3.1, st3.2)) e_t20 (ea_d (ev_d (K := K) rfl (dp_up sl19 _ (dp_up sl18 _ h_words))) (ea_d (ev_d (K := K) rfl (dp_up sl19 _ (.lst hGl18 (dpAll_up sl18 _ hd_bells)))) (ea_d (ev_d (K := K) rfl (.lst hGl19 (dpAll_up sl19 _ (dpAll_up sl18 _ hd_notches)))) ea_nil)))))))) ok (fun _ => rfl) (fun v_notch G H s1 ok h_notch => ?_)
        have h_text := dp_up s1 _ h_text
        have hd_bells := dpAll_up s1 _ hd_bells
        have hd_notches := dpAll_up s1 _ hd_notches
        have h_line := dp_up s1 _ h_line
        have h_words := dp_up s1 _ h_words
        have h_bell := dp_up s1 _ h_bell
        have sg := sg.trans s1
        have sl8 := sl8.trans s1
        refine q_if (et_and (et_test (ev_isNO (e := (eP2 Dat.str Dat.int)) (o := t17) (fun _ h => Dat.noConfusion h) (ev_d (K := K) rfl h_bell) (ev_non (K := K)))) fun _ => (et_test (ev_isNO (e := (eP3 Dat.str Dat.str Dat.int)) (o := t20) (fun _ h => Dat.noConfusion h) (ev_d (K := K) rfl h_notch) (ev_non (K := K))))) ok (fun hb G H s1 ok => ?_) (fun hb G H s1 ok => ?_)
        · have hm := cond_t hb hm
          have h_text := dp_up s1 _ h_text
          have hd_bells := dpAll_up s1 _ hd_bells
          have hd_notches := dpAll_up s1 _ hd_notches
          have h_line := dp_up s1 _ h_line
          have h_words := dp_up s1 _ h_words
          have h_bell := dp_up s1 _ h_bell
          have h_notch := dp_up s1 _ h_notch
          have sg := sg.trans s1
          have sl8 := sl8.trans s1
          cases hm
        · have hm := cond_f hb hm
          have h_text := dp_up s1 _ h_text
          have hd_bells := dpAll_up s1 _ hd_bells
          have hd_notches := dpAll_up s1 _ hd_notches
          have h_line := dp_up s1 _ h_line
          have h_words := dp_up s1 _ h_words
          have h_bell := dp_up s1 _ h_bell
          have h_notch := dp_up s1 _ h_notch
          have sg := sg.trans s1
          have sl8 := sl8.trans s1
          refine q_nilU ?_
          refine q_if (et_test (ev_notNO (e := (eP2 Dat.str Dat.int)) (o := t17) (fun _ h => Dat.noConfusion h) (ev_d (K := K) rfl h_bell) (ev_non (K := K)))) ok (fun hb G H s1 ok => ?_) (fun hb G H s1 ok => ?_)
          · have hm := cond_t hb hm
            have h_text := dp_up s1 _ h_text
            have hd_bells := dpAll_up s1 _ hd_bells
            have hd_notches := dpAll_up s1 _ hd_notches
            have h_line := dp_up s1 _ h_line
            have h_words := dp_up s1 _ h_words
            have h_bell := dp_up s1 _ h_bell
            have h_notch := dp_up s1 _ h_notch
            have sg := sg.trans s1
            have sl8 := sl8.trans s1
            obtain ⟨t21, e_t21, hm⟩ := bs hm
            obtain ⟨t22, e_t22, hm⟩ := bs hm
            obtain ⟨hl_t22, ea_t22⟩ := appO_of e_t22
            refine q_append (ev_own rfl) (ea_d (ev_unO (e := (eP2 Dat.str Dat.int)) e_t21 (ev_d (K := K) rfl h_bell)) ea_nil) hp_bells hp_bells (by rw [dpAll_len hd_bells, List.length_map]; exact szlt hl_t22) ok (fun v G H s1 ok hv => ?_)
            have h_text := dp_up s1 _ h_text
            have hd_bells := dpAll_up s1 _ hd_bells
            have hd_notches := dpAll_up s1 _ hd_notches
            have h_line := dp_up s1 _ h_line
            have h_words := dp_up s1 _ h_words
            have h_bell := dp_up s1 _ h_bell
            have h_notch := dp_up s1 _ h_notch
            have sg := sg.trans s1
            have sl8 := sl8.trans s1
            have hd_bells : DqAll K G (vs_bells ++ [v]) (t22.map (eP2 Dat.str Dat.int)) := by rw [ea_t22, List.map_append]; exact dpAll_app hd_bells (.cons hv .nil)
            have ok : Ok _ (upd M p_bells (.lst (vs_bells ++ [v]))) _ := ok
            have hB : Same M0 (upd M p_bells (.lst (vs_bells ++ [v]))) := (sB_own hB h0_bells)
            have hp_bells : (upd M p_bells (.lst (vs_bells ++ [v]))) p_bells = some (.lst (vs_bells ++ [v])) := upd_same
            have hp_notches : (upd M p_bells (.lst (vs_bells ++ [v]))) p_notches = some (.lst vs_notches) := (up_ne n_notches_bells hp_notches)
            obtain ⟨M, eM⟩ : ∃ m, m = (upd M p_bells (.lst (vs_bells ++ [v]))) := ⟨_, rfl⟩
            rw [← eM] at ok hB hp_bells hp_notches
            clear eM
            obtain ⟨vs_bells, e_vs⟩ : ∃ m, m = (vs_bells ++ [v]) := ⟨_, rfl⟩
            rw [← e_vs] at hp_bells hd_bells
            clear e_vs
            refine q_nilU ?_
            refine q_nil ?_
            cases hm
            exact hN _ _ _ _ sl8 ok ⟨_, _, _, _, _, _, _, rfl, hd_bells, hp_bells, hd_notches, hp_notches, hB⟩
          · have hm := cond_f hb hm
            have h_text := dp_up s1 _ h_text
            have hd_bells := dpAll_up s1 _ hd_bells
            have hd_notches := dpAll_up s1 _ hd_notches
            have h_line := dp_up s1 _ h_line
            have h_words := dp_up s1 _ h_words
            have h_bell := dp_up s1 _ h_bell
            have h_notch := dp_up s1 _ h_notch
            have sg := sg.trans s1
            have sl8 := sl8.trans s1
            obtain ⟨t23, e_t23, hm⟩ := bs hm
            obtain ⟨t24, e_t24, hm⟩ := bs hm
            obtain ⟨hl_t24, ea_t24⟩ := appO_of e_t24
            refine q_append (ev_own rfl) (ea_d (ev_unO (e := (eP3 Dat.str Dat.str Dat.int)) e_t23 (ev_d (K := K) rfl h_notch)) ea_nil) hp_notches hp_notches (by rw [dpAll_len hd_notches, List.length_map]; exact szlt hl_t24) ok (fun v G H s1 ok hv => ?_)
            have h_text := dp_up s1 _ h_text
            have hd_bells := dpAll_up s1 _ hd_bells
            have hd_notches := dpAll_up s1 _ hd_notches
            have h_line := dp_up s1 _ h_line
            have h_words := dp_up s1 _ h_words
            have h_bell := dp_up s1 _ h_bell
            have h_notch := dp_up s1 _ h_notch
            have sg := sg.trans s1
            have sl8 := sl8.trans s1
            have hd_notches : DqAll K G (vs_notches ++ [v]) (t24.map (eP3 Dat.str Dat.str Dat.int)) := by rw [ea_t24, List.map_append]; exact dpAll_app hd_notches (.cons hv .nil)
            have ok : Ok _ (upd M p_notches (.lst (vs_notches ++ [v]))) _ := ok
            have hB : Same M0 (upd M p_notches (.lst (vs_notches ++ [v]))) := (sB_own hB h0_notches)
            have hp_bells : (upd M p_notches (.lst (vs_notches ++ [v]))) p_bells = some (.lst vs_bells) := (up_ne n_bells_notches hp_bells)
            have hp_notches : (upd M p_notches (.lst (vs_notches ++ [v]))) p_notches = some (.lst (vs_notches ++ [v])) := upd_same
            obtain ⟨M, eM⟩ : ∃ m, m = (upd M p_notches (.lst (vs_notches ++ [v]))) := ⟨_, rfl⟩
            rw [← eM] at ok hB hp_bells hp_notches
            clear eM
            obtain ⟨vs_notches, e_vs⟩ : ∃ m, m = (vs_notches ++ [v]) := ⟨_, rfl⟩
            rw [← e_vs] at hp_notches hd_notches
            clear e_vs
            refine q_nilU ?_
            refine q_nil ?_
            cases hm
            exact hN _ _ _ _ sl8 ok ⟨_, _, _, _, _, _, _, rfl, hd_bells, hp_bells, hd_notches, hp_notches, hB⟩
      · obtain ⟨y_words, y_bell, y_notch, y_row, y_line, vs_bells, vs_notches, rfl, hd_bells, hp_bells, hd_notches, hp_notches, hB⟩ := hj
        have h_text := dp_up s1 _ h_text
        have sg := sg.trans s1
        obtain ⟨t25, e_t25, hm⟩ := bs hm
        refine q_ret (ev_make (a := (fin2.1, fin2.2)) e_t25 (ea_d (ev_tupO hp_bells hd_bells (ea_cons mo_ow (ev_own rfl) ea_nil)) (ea_d (ev_tupO hp_notches hd_notches (ea_cons mo_ow (ev_own rfl) ea_nil)) ea_nil))) ok (fun v G H s1 ok hv => ?_)
        have sg := sg.trans s1
        cases hm
        exact q v G H sg (ok.less hB) hv
/-! ### read_peal_2 -/
def a_read_peal_2 (K : PySem.W.Frag) (a : Str) : List V → Hp → Prop := conP (DD K (Dat.str a)) (nilP)
def m_read_peal_2 (a : Str) : Option (((List (Str × Int)) × (List (Str × Str × Int)) × (List (Str × Int)) × (List ((Str × Str) × Int))) ⊕ Ex) :=
  cond (!true) (some (.inr ("NoText", some ("row", (Dat.int (0 : Int)))))) ((splitO a (Str.ofString "
")).bind fun t1 => (forR (R := (((List (Str × Int)) × (List (Str × Str × Int)) × (List (Str × Int)) × (List ((Str × Str) × Int))) ⊕ Ex)) (fun (st3 : (List (Str × Int)) × (List (Str × Str × Int))) (x4 : (Int × Str)) => (splitO x4.2 (Str.ofString " ")).bind fun t13 => (cond (decide (st3.2 = ([] : (List (Str × Str × Int))))) ((m_bell_of (t13, st3.1)).bind fun t16 => some t16) (some (none : (Option (Str × Int))))).bind fun t17 => (m_notch_of (t13, st3.1, st3.2)).bind fun t20 => cond ((t17).isNone && (t20).isNone) (some (.inr (.inr ("NoText", some ("row", (Dat.int x4.1)))))) (cond (t17).isSome ((t17).bind fun t21 => (appO st3.1 t21).bind fun t22 => some (.inl (t22, st3.2))) ((t20).bind fun t23 => (appO st3.2 t23).bind fun t24 => some (.inl (st3.1, t24))))) (enum t1) (([] : (List (Str × Int))), ([] : (List (Str × Str × Int))))).bind fun fin2 => orR fin2 (fun fin2s => (m_Peal___init__ (fin2s.1, fin2s.2)).bind fun t25 => some (.inl t25)) (fun r => some r))
abbrev sp_read_peal_2 [Tb] (K : PySem.W.Frag) : Sp := spX K (a_read_peal_2 K) (m_read_peal_2) fun r => DD K (eX_Peal r)
theorem ok_read_peal_2 [Tb] {P : Program} {w : World} {K : PySem.W.Frag} {mg : Str → Option Value} {base : Heap} (T : Txt K mg) (O_NoText___init__ : FnOk P w K mg base CX0 1 T.a_NoText___init__ T.d_NoText___init__ ["self", "row"] (sp_NoText___init__ K)) (O_bell_of : FnOk P w K mg base CX0 4 T.a_bell_of T.d_bell_of ["words", "bells"] (sp_bell_of K)) (O_notch_of : FnOk P w K mg base CX0 4 T.a_notch_of T.d_notch_of ["words", "bells", "notches"] (sp_notch_of K)) (O_Peal___init__ : FnOk P w K mg base CX0 5 T.a_Peal___init__ T.d_Peal___init__ ["self", "bells", "notches"] (sp_Peal___init__ K)) : FnOk P w K mg base (L2N.CX P w) (7) T.a_read_peal T.d_read_peal ["text"] (sp_read_peal_2 K) := by
  refine okXN T.F_read_peal sc_read_peal (fun vs H Q E h => ?_) (fun cdv A outer s0 H vs Q E hr h => ?_)
  · obtain ⟨G, M0, a, r, ok, ⟨v_text, _, rfl, h_text, rfl⟩, hm, q, qx⟩ := h
    rfl
  · obtain ⟨G, M0, a, r, ok, ⟨v_text, _, rfl, h_text, rfl⟩, hm, q, qx⟩ := h
    unfold m_read_peal_2 at hm
    have sg := Same.refl G
    have hB := Same.refl M0
    refine ⟨_, (pss_cons (ps_if (pt_not (pt_val (pe_callB (call_isiKK (K := K)) (by rfl) T.n_isinstance (by decide +kernel) (pa_cons (pv 0) (pa_cons (pe_bltn (v := .ty "str") (by rfl) T.n_str (by decide +kernel) rfl) pa_nil))))) (pss_cons (L2N.ps_raise rfl (L2N.takes_of rfl rfl rfl rfl) (pmk_oexG T.ox_NoText T.xn_NoText T.xf_NoText O_NoText___init__ (hr.mono (by decide)) T.b_NoText___init__ .nil pass0 (by rfl) T.mx_NoText (pa_cons pe_int pa_nil))) pss_nil) pss_nil) (pss_cons (ps_par (i := 1) (j := 2) rfl sc_read_peal.nd rfl rfl (by decide) rfl rfl (pa_cons (pe_lst pa_nil) (pa_cons (pe_lst pa_nil) pa_nil)) (by rfl)) (pss_cons (ps_for (passes_of rfl) rfl (pi_enumK (K := K) (by rfl) T.n_enumerate (pa_cons (pe_split (pv 0) pe_str) pa_nil)) (pg_tup rfl (pgs_cons (pg_name (i := 3) sc_read_peal.nd rfl (.inl rfl)) (pgs_cons (pg_name (i := 4) sc_read_peal.nd rfl (.inl rfl)) pgs_nil))) (pss_cons (ps_set (i := 5) sc_read_peal.nd rfl (.inl rfl) (pe_split (pv 4) pe_str)) (pss_cons (ps_set (i := 6) sc_read_peal.nd rfl (.inl rfl) (pe_ifExp (pt_cmpR (op_eqDK (K := K) hr.units) (pv 2) (pe_lst pa_nil) (nomark _)) (pe_call O_bell_of (hr.mono (by decide)) (by rfl) T.g_bell_of T.F_bell_of.kp T.b_bell_of .nil pass0 (pa_cons (pv 5) (pa_cons (pv 1) pa_nil))) pe_non)) (pss_cons (ps_set (i := 7) sc_read_peal.nd rfl (.inl rfl) (pe_call O_notch_of (hr.mono (by decide)) (by rfl) T.g_notch_of T.F_notch_of.kp T.b_notch_of .nil pass0 (pa_cons (pv 5) (pa_cons (pv 1) (pa_cons (pv 2) pa_nil))))) (pss_cons (ps_if (PW.pt (pw_and (pt_cmpR op_isN (pv 6) pe_non (nomark _)) (pw_and1 (pt_cmpR op_isN (pv 7) pe_non (nomark _))))) (pss_cons (L2N.ps_raise rfl (L2N.takes_of rfl rfl rfl rfl) (pmk_oexG T.ox_NoText T.xn_NoText T.xf_NoText O_NoText___init__ (hr.mono (by decide)) T.b_NoText___init__ .nil pass0 (by rfl) T.mx_NoText (pa_cons (pv 3) pa_nil))) pss_nil) pss_nil) (pss_cons (ps_if (pt_cmpR op_notN (pv 6) pe_non (nomark _)) (pss_cons (ps_expr (pe_bm PySem.F.plainAttrs_list PySem.F.slot_list_append PySem.F.type_list_append mt_append (pv 1) (pa_cons (pv 6) pa_nil))) pss_nil) (pss_cons (ps_expr (pe_bm PySem.F.plainAttrs_list PySem.F.slot_list_append PySem.F.type_list_append mt_append (pv 2) (pa_cons (pv 7) pa_nil))) pss_nil)) pss_nil)))))) (pss_cons (ps_ret (pe_make T.mk_Peal O_Peal___init__ (hr.mono (by decide)) (by rfl) T.mg_Peal T.b_Peal___init__ .nil pass0 (pa_cons (pe_callTy (cl_tupleK (K := K)) (by rfl) T.n_tuple (by decide +kernel) (pa_cons (pv 1) pa_nil)) (pa_cons (pe_callTy (cl_tupleK (K := K)) (by rfl) T.n_tuple (by decide +kernel) (pa_cons (pv 2) pa_nil)) pa_nil)))) pss_nil)))), ?_⟩
    refine nrm (σ' := [some v_text, none, none, none, none, none, none, none]) rfl ?_
    refine q_if (et_not (et_B (ev_isi (d := Dat.str a) (n := "str") (b := true) rfl (show kitB "str" "str" = some true by decide +kernel) (ea_d (ev_d (K := K) rfl h_text) (ea_cons mo_cls ev_cls ea_nil))))) ok (fun hb G H s1 ok => ?_) (fun hb G H s1 ok => ?_)
    · have hm := cond_t hb hm
      have h_text := dp_up s1 _ h_text
      have sg := sg.trans s1
      refine q_raise1 (f := "row") (y := (Dat.int (0 : Int))) (c := "NoText") rfl (ea_d (ev_int (K := K)) ea_nil) ok (fun d G H s1 ok hd => ?_)
      have sg := sg.trans s1
      cases hm
      exact qx _ rfl d _ _ sg (ok.less hB) hd
    · have hm := cond_f hb hm
      have h_text := dp_up s1 _ h_text
      have sg := sg.trans s1
      refine q_nilU ?_
      refine q_parX (ex_L (el_lst (ea_nilD (K := K))) fun p_bells vs_bells hn_bells => (ex_L (el_lst (ea_nilD (K := K))) fun p_notches vs_notches hn_notches => ex_nil)) ok (fun vs G M H s1 okN hx => ?_)
      obtain ⟨p_bells, vs_bells, _, rfl, hn_bells, hd_bells, p_notches, vs_notches, _, rfl, hn_notches, hd_notches, rfl, rfl⟩ := hx
      have ok := okN
      refine ⟨_, _, rfl, ?_⟩
      have h_text := dp_up s1 _ h_text
      have sg := sg.trans s1
      have h0_bells : M0 p_bells = none := sB_none (M := M0) hB hn_bells
      have hd_bells : DqAll K G vs_bells (([] : (List (Str × Int))).map (eP2 Dat.str Dat.int)) := hd_bells
      have n_bells_notches : p_bells ≠ p_notches := ne_of_none upd_same hn_notches
      have n_notches_bells := n_bells_notches.symm
      have h0_notches : M0 p_notches = none := sB_none (M := (upd M0 p_bells (.lst vs_bells))) (sB_own hB h0_bells) hn_notches
      have hd_notches : DqAll K G vs_notches (([] : (List (Str × Str × Int))).map (eP3 Dat.str Dat.str Dat.int)) := hd_notches
      refine nrm (σ' := [some v_text, some (.ref p_bells), some (.ref p_notches), none, none, none, none, none]) rfl ?_
      have ok : Ok _ (upd (upd M0 p_bells (.lst vs_bells)) p_notches (.lst vs_notches)) _ := ok
      have hB : Same M0 (upd (upd M0 p_bells (.lst vs_bells)) p_notches (.lst vs_notches)) := (sB_own (sB_own hB h0_bells) h0_notches)
      have hp_bells : (upd (upd M0 p_bells (.lst vs_bells)) p_notches (.lst vs_notches)) p_bells = some (.lst vs_bells) := (up_ne n_bells_notches upd_same)
      have hp_notches : (upd (upd M0 p_bells (.lst vs_bells)) p_notches (.lst vs_notches)) p_notches = some (.lst vs_notches) := upd_same
      obtain ⟨M, eM⟩ : ∃ m, m = (upd (upd M0 p_bells (.lst vs_bells)) p_notches (.lst vs_notches)) := ⟨_, rfl⟩
      rw [← eM] at ok hB hp_bells hp_notches
      clear eM
      obtain ⟨t1, e_t1, hm⟩ := bs hm
      obtain ⟨fin2, e_fin2, hm⟩ := bs hm
      have hmo5 := hm
      refine q_forR (ea := (eR2 Dat.int Dat.str)) (Src.is (src_enumL (ea_d (ev_split e_t1 (ev_d (K := K) rfl h_text) (ev_str (K := K) (by decide +kernel))) ea_nil)) enumD_map) ok (fun (st3 : (List (Str × Int)) × (List (Str × Str × Int))) σ1 G1 M1 => ∃ (y_words : Option V) (y_bell : Option V) (y_notch : Option V) (y_row : Option V) (y_line : Option V) (vs_bells : List V) (vs_notches : List V), σ1 = [some v_text, some (.ref p_bells), some (.ref p_notches), y_row, y_line, y_words, y_bell, y_notch] ∧ (DqAll K G1 vs_bells (st3.1.map (eP2 Dat.str Dat.int))) ∧ (M1 p_bells = some (.lst vs_bells)) ∧ (DqAll K G1 vs_notches (st3.2.map (eP3 Dat.str Dat.str Dat.int))) ∧ (M1 p_notches = some (.lst vs_notches)) ∧ (Same M0 M1)) e_fin2 (fun G1 s1 => ⟨_, _, _, _, _, _, _, rfl, dpAll_up s1 _ hd_bells, hp_bells, dpAll_up s1 _ hd_notches, hp_notches, hB⟩) (by rintro _ _ _ _ _ ⟨y_words, y_bell, y_notch, y_row, y_line, vs_bells, vs_notches, rfl, hd_bells, hp_bells, hd_notches, hp_notches, hB⟩ s2; exact ⟨_, _, _, _, _, _, _, rfl, dpAll_up s2 _ hd_bells, hp_bells, dpAll_up s2 _ hd_notches, hp_notches, hB⟩) (fun x4 xv7 st3 st' σ1 G M H N hm hret6 hj s1 ok hv hN => ?_) (fun fin2s σ1 G M H hfin s1 ok hj => ?_)
      · obtain ⟨y_words, y_bell, y_notch, y_row, y_line, vs_bells, vs_notches, rfl, hd_bells, hp_bells, hd_notches, hp_notches, hB⟩ := hj
        have h_text := dp_up s1 _ h_text
        have sg := sg.trans s1
        have sl8 := Same.refl G
        refine gr2 hv ok.g (fun w9 w10 hw11 hw12 => ?_)
        refine gn ?_
        have h_row := hw11
        cases h_row
        refine gn ?_
        have h_line := hw12
        refine nrm (σ' := [some v_text, some (.ref p_bells), some (.ref p_notches), some (.int x4.1), some w10, y_words, y_bell, y_notch]) rfl ?_
        obtain ⟨t13, e_t13, hm⟩ := bs hm
        refine q_set (σ' := fun v => [some v_text, some (.ref p_bells), some (.ref p_notches), some (.int x4.1), some w10, some v, y_bell, y_notch]) (ev_split e_t13 (ev_d (K := K) rfl h_line) (ev_str (K := K) (by decide +kernel))) ok (fun _ => rfl) (fun v_words G H s1 ok h_words => ?_)
        have h_text := dp_up s1 _ h_text
        have hd_bells := dpAll_up s1 _ hd_bells
        have hd_notches := dpAll_up s1 _ hd_notches
        have h_line := dp_up s1 _ h_line
        have sg := sg.trans s1
        have sl8 := sl8.trans s1
        obtain ⟨t17, e_t17, hm⟩ := bs hm
        refine q_set (σ' := fun v => [some v_text, some (.ref p_bells), some (.ref p_notches), some (.int x4.1), some w10, some v_words, some v, y_notch]) (ev_if (P := DD K ((eO (eP2 Dat.str Dat.int)) t17)) (et_lend hp_notches (fun Gl14 hGl14 sl14 => (et_test (ev_eqE (e := (eL (eP3 Dat.str Dat.str Dat.int))) (x := st3.2) (y := ([] : (List (Str × Str × Int)))) (eqe_L (eqe_P3 eqe_str eqe_str eqe_int)) (by decide) (ev_d (K := K) rfl (.lst hGl14 (dpAll_up sl14 _ hd_notches))) (EvL.ev (el_lst (ea_nilD (K := K)))))))) (fun eb => by have e1 := cond_t eb e_t17; (obtain ⟨t16, e_t16, e1⟩ := bs e1); cases e1; exact (ev_lend (d := _) hp_bells ((noL_O (fun _ => rfl)) _) (fun Gl15 hGl15 sl15 => (ev_callP (res := fun r => DD K ((eO (eP2 Dat.str Dat.int)) r)) (a := (t13, st3.1)) e_t16 (ea_d (ev_d (K := K) rfl (dp_up sl15 _ h_words)) (ea_d (ev_d (K := K) rfl (.lst hGl15 (dpAll_up sl15 _ hd_bells))) ea_nil)))))) (fun eb => by have e1 := cond_f eb e_t17; cases e1; exact (ev_non (K := K)))) ok (fun _ => rfl) (fun v_bell G H s1 ok h_bell => ?_)
        have h_text := dp_up s1 _ h_text
        have hd_bells := dpAll_up s1 _ hd_bells
        have hd_notches := dpAll_up s1 _ hd_notches
        have h_line := dp_up s1 _ h_line
        have h_words := dp_up s1 _ h_words
        have sg := sg.trans s1
        have sl8 := sl8.trans s1
        obtain ⟨t20, e_t20, hm⟩ := bs hm
        refine q_set (σ' := fun v => [some v_text, some (.ref p_bells), some (.ref p_notches), some (.int x4.1), some w10, some v_words, some v_bell, some v]) (ev_lend (d := _) hp_bells ((noL_O (fun _ => rfl)) _) (fun Gl18 hGl18 sl18 => (ev_lend (d := _) (drop_hp n_notches_bells hp_notches) ((noL_O (fun _ => rfl)) _) (fun Gl19 hGl19 sl19 => (ev_callP (res := fun r => DD K ((eO (eP3 Dat.str Dat.str Dat.int)) r)) (a := (t13, st3.1, st3.2)) e_t20 (ea_d (ev_d (K := K) rfl (dp_up sl19 _ (dp_up sl18 _ h_words))) (ea_d (ev_d (K := K) rfl (dp_up sl19 _ (.lst hGl18 (dpAll_up sl18 _ hd_bells)))) (ea_d (ev_d (K := K) rfl (.lst hGl19 (dpAll_up sl19 _ (dpAll_up sl18 _ hd_notches)))) ea_nil)))))))) ok (fun _ => rfl) (fun v_notch G H s1 ok h_notch => ?_)
        have h_text := dp_up s1 _ h_text
        have hd_bells := dpAll_up s1 _ hd_bells
        have hd_notches := dpAll_up s1 _ hd_notches
        have h_line := dp_up s1 _ h_line
        have h_words := dp_up s1 _ h_words
        have h_bell := dp_up s1 _ h_bell
        have sg := sg.trans s1
        have sl8 := sl8.trans s1
        refine q_if (et_and (et_test (ev_isNO (e := (eP2 Dat.str Dat.int)) (o := t17) (fun _ h => Dat.noConfusion h) (ev_d (K := K) rfl h_bell) (ev_non (K := K)))) fun _ => (et_test (ev_isNO (e := (eP3 Dat.str Dat.str Dat.int)) (o := t20) (fun _ h => Dat.noConfusion h) (ev_d (K := K) rfl h_notch) (ev_non (K := K))))) ok (fun hb G H s1 ok => ?_) (fun hb G H s1 ok => ?_)
        · have hm := cond_t hb hm
          have h_text := dp_up s1 _ h_text
          have hd_bells := dpAll_up s1 _ hd_bells
          have hd_notches := dpAll_up s1 _ hd_notches
          have h_line := dp_up s1 _ h_line
          have h_words := dp_up s1 _ h_words
          have h_bell := dp_up s1 _ h_bell
          have h_notch := dp_up s1 _ h_notch
          have sg := sg.trans s1
          have sl8 := sl8.trans s1
          refine q_raise1 (f := "row") (y := (Dat.int x4.1)) (c := "NoText") rfl (ea_d (ev_d (K := K) rfl (.int _)) ea_nil) ok (fun d G H s1 ok hd => ?_)
          have sg := sg.trans s1
          cases hm
          have hf0 := hret6 _ rfl
          rw [hf0] at hmo5
          have hmx0 := hmo5
          cases hmx0
          exact qx _ rfl d _ _ sg (ok.less hB) hd
        · have hm := cond_f hb hm
          have h_text := dp_up s1 _ h_text
          have hd_bells := dpAll_up s1 _ hd_bells
          have hd_notches := dpAll_up s1 _ hd_notches
          have h_line := dp_up s1 _ h_line
          have h_words := dp_up s1 _ h_words
          have h_bell := dp_up s1 _ h_bell
          have h_notch := dp_up s1 _ h_notch
          have sg := sg.trans s1
          have sl8 := sl8.trans s1
          refine q_nilU ?_
          refine q_if (et_test (ev_notNO (e := (eP2 Dat.str Dat.int)) (o := t17) (fun _ h => Dat.noConfusion h) (ev_d (K := K) rfl h_bell) (ev_non (K := K)))) ok (fun hb G H s1 ok => ?_) (fun hb G H s1 ok => ?_)
          · have hm := cond_t hb hm
            have h_text := dp_up s1 _ h_text
            have hd_bells := dpAll_up s1 _ hd_bells
            have hd_notches := dpAll_up s1 _ hd_notches
            have h_line := dp_up s1 _ h_line
            have h_words := dp_up s1 _ h_words
            have h_bell := dp_up s1 _ h_bell
            have h_notch := dp_up s1 _ h_notch
            have sg := sg.trans s1
            have sl8 := sl8.trans s1
            obtain ⟨t21, e_t21, hm⟩ := bs hm
            obtain ⟨t22, e_t22, hm⟩ := bs hm
            obtain ⟨hl_t22, ea_t22⟩ := appO_of e_t22
            refine q_append (ev_own rfl) (ea_d (ev_unO (e := (eP2 Dat.str Dat.int)) e_t21 (ev_d (K := K) rfl h_bell)) ea_nil) hp_bells hp_bells (by rw [dpAll_len hd_bells, List.length_map]; exact szlt hl_t22) ok (fun v G H s1 ok hv => ?_)
            have h_text := dp_up s1 _ h_text
            have hd_bells := dpAll_up s1 _ hd_bells
            have hd_notches := dpAll_up s1 _ hd_notches
            have h_line := dp_up s1 _ h_line
            have h_words := dp_up s1 _ h_words
            have h_bell := dp_up s1 _ h_bell
            have h_notch := dp_up s1 _ h_notch
            have sg := sg.trans s1
            have sl8 := sl8.trans s1
            have hd_bells : DqAll K G (vs_bells ++ [v]) (t22.map (eP2 Dat.str Dat.int)) := by rw [ea_t22, List.map_append]; exact dpAll_app hd_bells (.cons hv .nil)
            have ok : Ok _ (upd M p_bells (.lst (vs_bells ++ [v]))) _ := ok
            have hB : Same M0 (upd M p_bells (.lst (vs_bells ++ [v]))) := (sB_own hB h0_bells)
            have hp_bells : (upd M p_bells (.lst (vs_bells ++ [v]))) p_bells = some (.lst (vs_bells ++ [v])) := upd_same
            have hp_notches : (upd M p_bells (.lst (vs_bells ++ [v]))) p_notches = some (.lst vs_notches) := (up_ne n_notches_bells hp_notches)
            obtain ⟨M, eM⟩ : ∃ m, m = (upd M p_bells (.lst (vs_bells ++ [v]))) := ⟨_, rfl⟩
            rw [← eM] at ok hB hp_bells hp_notches
            clear eM
            obtain ⟨vs_bells, e_vs⟩ : ∃ m, m = (vs_bells ++ [v]) := ⟨_, rfl⟩
            rw [← e_vs] at hp_bells hd_bells
            clear e_vs
            refine q_nilU ?_
            refine q_nil ?_
            cases hm
            exact hN _ _ _ _ _ rfl sl8 ok ⟨_, _, _, _, _, _, _, rfl, hd_bells, hp_bells, hd_notches, hp_notches, hB⟩
          · have hm := cond_f hb hm
            have h_text := dp_up s1 _ h_text
            have hd_bells := dpAll_up s1 _ hd_bells
            have hd_notches := dpAll_up s1 _ hd_notches
            have h_line := dp_up s1 _ h_line
            have h_words := dp_up s1 _ h_words
            have h_bell := dp_up s1 _ h_bell
            have h_notch := dp_up s1 _ h_notch
            have sg := sg.trans s1
            have sl8 := sl8.trans s1
            obtain ⟨t23, e_t23, hm⟩ := bs hm
            obtain ⟨t24, e_t24, hm⟩ := bs hm
            obtain ⟨hl_t24, ea_t24⟩ := appO_of e_t24
            refine q_append (ev_own rfl) (ea_d (ev_unO (e := (eP3 Dat.str Dat.str Dat.int)) e_t23 (ev_d (K := K) rfl h_notch)) ea_nil) hp_notches hp_notches (by rw [dpAll_len hd_notches, List.length_map]; exact szlt hl_t24) ok (fun v G H s1 ok hv => ?_)
            have h_text := dp_up s1 _ h_text
            have hd_bells := dpAll_up s1 _ hd_bells
            have hd_notches := dpAll_up s1 _ hd_notches
            have h_line := dp_up s1 _ h_line
            have h_words := dp_up s1 _ h_words
            have h_bell := dp_up s1 _ h_bell
            have h_notch := dp_up s1 _ h_notch
            have sg := sg.trans s1
            have sl8 := sl8.trans s1
            have hd_notches : DqAll K G (vs_notches ++ [v]) (t24.map (eP3 Dat.str Dat.str Dat.int)) := by rw [ea_t24, List.map_append]; exact dpAll_app hd_notches (.cons hv .nil)
            have ok : Ok _ (upd M p_notches (.lst (vs_notches ++ [v]))) _ := ok
            have hB : Same M0 (upd M p_notches (.lst (vs_notches ++ [v]))) := (sB_own hB h0_notches)
            have hp_bells : (upd M p_notches (.lst (vs_notches ++ [v]))) p_bells = some (.lst vs_bells) := (up_ne n_bells_notches hp_bells)
            have hp_notches : (upd M p_notches (.lst (vs_notches ++ [v]))) p_notches = some (.lst (vs_notches ++ [v])) := upd_same
            obtain ⟨M, eM⟩ : ∃ m, m = (upd M p_notches (.lst (vs_notches ++ [v]))) := ⟨_, rfl⟩
            rw [← eM] at ok hB hp_bells hp_notches
            clear eM
            obtain ⟨vs_notches, e_vs⟩ : ∃ m, m = (vs_notches ++ [v]) := ⟨_, rfl⟩
            rw [← e_vs] at hp_notches hd_notches
            clear e_vs
            refine q_nilU ?_
            refine q_nil ?_
            cases hm
            exact hN _ _ _ _ _ rfl sl8 ok ⟨_, _, _, _, _, _, _, rfl, hd_bells, hp_bells, hd_notches, hp_notches, hB⟩
      · obtain ⟨y_words, y_bell, y_notch, y_row, y_line, vs_bells, vs_notches, rfl, hd_bells, hp_bells, hd_notches, hp_notches, hB⟩ := hj
        have h_text := dp_up s1 _ h_text
        have sg := sg.trans s1
        rw [hfin] at hm
        have hm := orR_l hm
        obtain ⟨t25, e_t25, hm⟩ := bs hm
        refine q_ret (ev_make (a := (fin2s.1, fin2s.2)) e_t25 (ea_d (ev_tupO hp_bells hd_bells (ea_cons mo_ow (ev_own rfl) ea_nil)) (ea_d (ev_tupO hp_notches hd_notches (ea_cons mo_ow (ev_own rfl) ea_nil)) ea_nil))) ok (fun v G H s1 ok hv => ?_)
        have sg := sg.trans s1
        cases hm
        exact q _ rfl v G H sg (ok.less hB) hv
/-! ### _law_opened -/
theorem sc__law_opened : FnScope ["_law_script", "_law_k", "_law_cell", "_law_great"] ["_law_script", "_law_k"] (defScope s__law_opened) := ⟨rfl, rfl, rfl, by decide +kernel, rfl, by decide +kernel, by decide +kernel⟩
def a__law_opened (K : PySem.W.Frag) (a : (List Int) × Int) : List V → Hp → Prop := conP (SCP K a.1) (conP (DD K (Dat.int a.2)) (nilP))
def m__law_opened (a : (List Int) × Int) : Option Sto :=
  (mulO (90901 : Int) a.2).bind fun t1 => (cond (decide (a.2 < (a.1.length : Int))) ((atI a.1 a.2).bind fun t4 => some t4) (some (t1 + (433 : Int)))).bind fun j2 => (cond (decide (j2 < (0 : Int))) (some true) ((powO (10 : Int) (17 : Int)).bind fun t6 => some (decide (t6 < j2)))).bind fun t7 => (mulO (if j2 < 0 then -j2 else j2) (if t7 then 1 else 0 : Int)).bind fun t8 => (mulO (2 : Int) (if j2 < 0 then -j2 else j2)).bind fun t9 => (mulO (7919 : Int) a.2).bind fun t10 => (modO (((t9 + (if t7 then 1 else 0 : Int)) + t10) + (13 : Int)) (998244353 : Int)).bind fun t11 => some (t8, (t11 + (1 : Int)), (0 : Int))
abbrev sp__law_opened [Tb] (K : PySem.W.Frag) : Sp := spO (a__law_opened K) m__law_opened
theorem ok__law_opened [Tb] {P : Program} {w : World} {K : PySem.W.Frag} {mg : Str → Option Value} {base : Heap} (T : Txt K mg) : FnOk P w K mg base CX0 (1) T.a__law_opened T.d__law_opened ["_law_script", "_law_k"] (sp__law_opened K) := by
  refine T.F__law_opened.ok sc__law_opened (fun vs H Q E h => ?_) (fun cdv A outer s0 H vs Q E hr h => ?_)
  · obtain ⟨G, M0, a, r, ok, ⟨v_l_script, _, rfl, h_l_script, v_l_k, _, rfl, h_l_k, rfl⟩, hm, q⟩ := h
    rfl
  · obtain ⟨G, M0, a, r, ok, ⟨v_l_script, _, rfl, h_l_script, v_l_k, _, rfl, h_l_k, rfl⟩, hm, q⟩ := h
    unfold m__law_opened at hm
    have sg := Same.refl G
    have hB := Same.refl M0
    refine ⟨_, (pss_cons (ps_set (i := 2) sc__law_opened.nd rfl (.inl rfl) (pe_op op_add (pe_op op_mulO pe_int (pv 1)) pe_int)) (pss_cons (ps_if (pt_cmpR op_lt (pv 1) (pe_callB (cl_lenK (K := K)) (by rfl) T.n_len (by decide +kernel) (pa_cons (pv 0) pa_nil)) (nomark _)) (pss_cons (ps_set (i := 2) sc__law_opened.nd rfl (.inl rfl) (pe_ix (ix_listK (K := K)) (pv 0) (pv 1) (fun _ _ => rfl))) pss_nil) pss_nil) (pss_cons (ps_set (i := 3) sc__law_opened.nd rfl (.inl rfl) (pe_callTy cl_int (by rfl) T.n_int (by decide +kernel) (pa_cons (pe_or (pe_cmpR op_lt (pv 2) pe_int (nomark _)) (pe_one (pe_cmpR op_gt (pv 2) (pe_op op_pow pe_int pe_int) (nomark _)))) pa_nil))) (pss_cons (ps_ret (pe_lst (pa_cons (pe_op op_mulO (pe_callB cl_abs (by rfl) T.n_abs (by decide +kernel) (pa_cons (pv 2) pa_nil)) (pv 3)) (pa_cons (pe_op op_add (pe_op op_modN (pe_op op_add (pe_op op_add (pe_op op_add (pe_op op_mulO pe_int (pe_callB cl_abs (by rfl) T.n_abs (by decide +kernel) (pa_cons (pv 2) pa_nil))) (pv 3)) (pe_op op_mulO pe_int (pv 1))) pe_int) pe_int) pe_int) (pa_cons pe_int pa_nil))))) pss_nil)))), ?_⟩
    cases h_l_k
    refine nrm (σ' := [some v_l_script, some (.int a.2), none, none]) rfl ?_
    obtain ⟨t1, e_t1, hm⟩ := bs hm
    refine q_set (σ' := fun v => [some v_l_script, some (.int a.2), some v, none]) (ev_add (ev_mulO e_t1 (ev_int (K := K)) (ev_d (K := K) rfl (.int _))) (ev_int (K := K))) ok (fun _ => rfl) (fun v_l_cell G H s1 ok h_l_cell => ?_)
    have h_l_script := mo_scp _ _ _ s1 h_l_script
    have sg := sg.trans s1
    cases h_l_cell
    obtain ⟨j2, e_j2, hm⟩ := bs hm
    refine q_ifJ (fun σ1 G1 M1 => σ1 = [some v_l_script, some (.int a.2), some (.int j2), none] ∧ (Same M0 M1)) (et_test (ev_lt (ev_d (K := K) rfl (.int _)) (ev_lenScr (ea_cons mo_scp (ev_var rfl mo_scp h_l_script) ea_nil)))) ok (fun hb G H D1 s1 ok _ _ _ kD => ?_) (fun hb G H D1 s1 ok _ _ _ kD => ?_) (fun σ1 G M H s1 ok hj => ?_)
    · have hm := cond_t hb e_j2
      have h_l_script := mo_scp _ _ _ s1 h_l_script
      have sg := sg.trans s1
      have sl3 := Same.refl G
      obtain ⟨t4, e_t4, hm⟩ := bs hm
      refine q_set (σ' := fun v => [some v_l_script, some (.int a.2), some v, none]) (ev_ixScr e_t4 (ev_var rfl mo_scp h_l_script) (ev_d (K := K) rfl (.int _))) ok (fun _ => rfl) (fun v_l_cell G H s1 ok h_l_cell => ?_)
      have h_l_script := mo_scp _ _ _ s1 h_l_script
      have sg := sg.trans s1
      have sl3 := sl3.trans s1
      cases h_l_cell
      refine q_nil ?_
      cases hm
      exact kD _ _ _ _ sl3 ok ⟨rfl, hB⟩
    · have hm := cond_f hb e_j2
      have h_l_script := mo_scp _ _ _ s1 h_l_script
      have sg := sg.trans s1
      have sl5 := Same.refl G
      refine q_nil ?_
      cases hm
      exact kD _ _ _ _ sl5 ok ⟨rfl, hB⟩
    · obtain ⟨rfl, hB⟩ := hj
      have h_l_script := mo_scp _ _ _ s1 h_l_script
      have sg := sg.trans s1
      obtain ⟨t7, e_t7, hm⟩ := bs hm
      refine q_set (σ' := fun v => [some v_l_script, some (.int a.2), some (.int j2), some v]) (ev_intB (ea_d (ev_orG (c := t7) (ev_lt (ev_d (K := K) rfl (.int _)) (ev_int (K := K))) (fun eb => by have e1 := cond_f eb e_t7; (obtain ⟨t6, e_t6, e1⟩ := bs e1); (have e1 := Option.some.inj e1); subst e1; exact (ev_gt (ev_d (K := K) rfl (.int _)) (ev_powO e_t6 (ev_int (K := K)) (ev_int (K := K))))) (fun eb => by have e1 := cond_t eb e_t7; cases e1; exact ⟨rfl, rfl⟩)) ea_nil)) ok (fun _ => rfl) (fun v_l_great G H s1 ok h_l_great => ?_)
      have h_l_script := mo_scp _ _ _ s1 h_l_script
      have sg := sg.trans s1
      cases h_l_great
      obtain ⟨t8, e_t8, hm⟩ := bs hm
      obtain ⟨t9, e_t9, hm⟩ := bs hm
      obtain ⟨t10, e_t10, hm⟩ := bs hm
      obtain ⟨t11, e_t11, hm⟩ := bs hm
      cases hm
      refine q_retL (el_lst (ea_consD (ev_mulO e_t8 (ev_abs (ea_d (ev_d (K := K) rfl (.int _)) ea_nil)) (ev_d (K := K) rfl (.int _))) (ea_consD (ev_add (ev_modO e_t11 (ev_add (ev_add (ev_add (ev_mulO e_t9 (ev_int (K := K)) (ev_abs (ea_d (ev_d (K := K) rfl (.int _)) ea_nil))) (ev_d (K := K) rfl (.int _))) (ev_mulO e_t10 (ev_int (K := K)) (ev_d (K := K) rfl (.int _)))) (ev_int (K := K))) (ev_int (K := K))) (ev_int (K := K))) (ea_consD (ev_int (K := K)) (ea_nilD (K := K)))))) ok (fun p vs G H s1 ok hp hd => ?_)
      have sg := sg.trans s1
      cases vs_sto hd
      exact q _ _ _ sg (ok.less (same_upd2 hB)) (hB.free hp)
/-! ### _law_pull -/
theorem sc__law_pull : FnScope ["_law_store", "_law_many", "_law_found", "_law_state"] ["_law_store", "_law_many"] (defScope s__law_pull) := ⟨rfl, rfl, rfl, by decide +kernel, rfl, by decide +kernel, by decide +kernel⟩
def a__law_pull (K : PySem.W.Frag) (a : Int) : List V → Hp → Prop := conP (DD K (Dat.int a)) (nilP)
def m__law_pull (a : Int) (z : Sto) : Option (Int × Sto) := pullM a z
abbrev sp__law_pull [Tb] (K : PySem.W.Frag) : Sp := spD (a__law_pull K) m__law_pull fun r => DD K (Dat.int r)
theorem ok__law_pull [Tb] {P : Program} {w : World} {K : PySem.W.Frag} {mg : Str → Option Value} {base : Heap} (T : Txt K mg) : FnOk P w K mg base CX0 1 T.a__law_pull T.d__law_pull ["_law_store", "_law_many"] (sp__law_pull K) := by
  refine T.F__law_pull.ok sc__law_pull (fun vs H Q E h => ?_) (fun cdv A outer s0 H vs Q E hr h => ?_)
  · obtain ⟨G, M0, s, z, z1, a, r, ws, rfl, ok, hs, ⟨v_m, _, rfl, h_m, rfl⟩, hm, q⟩ := h
    rfl
  · obtain ⟨G, M0, s, z, z1, a, r, ws, rfl, ok, hs, ⟨v_m, _, rfl, h_m, rfl⟩, hm, q⟩ := h
    cases h_m
    unfold m__law_pull pullM at hm
    refine ⟨_, (pss_cons (ps_asg (pe_op op_add (pe_ix (ix_listK (K := K)) (pv 0) pe_int (fun _ _ => rfl)) pe_int) (pg_sub (pv 0) pe_int set_list))
      (pss_cons (ps_if (pt_cmpR op_gt (pe_ix (ix_listK (K := K)) (pv 0) pe_int (fun _ _ => rfl)) pe_int (nomark _))
        (pss_cons (ps_asg (pe_callB cl_divmod (by rfl) T.n_divmod (by decide +kernel) (pa_cons (pe_ix (ix_listK (K := K)) (pv 0) pe_int (fun _ _ => rfl)) (pa_cons (pv 1) pa_nil))) (pg_tup rfl (pgs_cons (pg_sub (pv 0) pe_int set_list) (pgs_cons (pg_name (i := 2) sc__law_pull.nd rfl (.inl rfl)) pgs_nil))))
          (pss_cons (ps_ret (pv 2)) pss_nil)) pss_nil)
      (pss_cons (ps_set (i := 3) sc__law_pull.nd rfl (.inl rfl) (pe_ix (ix_listK (K := K)) (pv 0) pe_int (fun _ _ => rfl)))
      (pss_cons (ps_asg (pe_op op_modN (pe_op op_add (pe_op op_add (pe_op op_mulO (pv 3) (pe_op op_add (pe_op op_modN (pv 3) pe_int) pe_int)) (pe_op op_mulO pe_int (pe_ix (ix_listK (K := K)) (pv 0) pe_int (fun _ _ => rfl)))) pe_int) pe_int) (pg_sub (pv 0) pe_int set_list))
      (pss_cons (ps_ret (pe_op op_modN (pe_op op_fdivO (pe_ix (ix_listK (K := K)) (pv 0) pe_int (fun _ _ => rfl)) pe_int) (pv 1))) pss_nil))))), ?_⟩
    refine nrm (σ' := [some (.ref s), some (.int a), none, none]) rfl ?_
    have d3 : ∀ (x y z : Int) (G : Hp), DqAll K G [.int x, .int y, .int z] [.int x, .int y, .int z] := fun x y z G => .cons (.int x) (.cons (.int y) (.cons (.int z) .nil))
    refine q_setItem (K := K) (d := .int (z.2.2 + 1)) (ev_add (ev_ixO (ds := [.int z.1, .int z.2.1, .int z.2.2]) (d := .int z.2.2) (ev_own rfl) (ev_int (K := K)) hs (d3 _ _ _ _) rfl) (ev_int (K := K))) (ev_own rfl) (ev_int (K := K)) hs rfl ok (fun v G H s1 ok hv => ?_)
    cases hv
    have sg := s1
    have hs1 : (upd M0 s (.lst [.int z.1, .int z.2.1, .int (z.2.2 + 1)])) s = some (.lst [.int z.1, .int z.2.1, .int (z.2.2 + 1)]) := upd_same
    refine q_if (et_test (ev_gt (ev_ixO (ds := [.int z.1, .int z.2.1, .int (z.2.2 + 1)]) (d := .int z.1) (ev_own rfl) (ev_int (K := K)) hs1 (d3 _ _ _ _) rfl) (ev_int (K := K)))) ok (fun hb G H s1 ok => ?_) (fun hb G H s1 ok => ?_)
    · have hm := cond_t hb hm
      have sg := sg.trans s1
      obtain ⟨t1, e_t1, hm⟩ := bs hm
      refine q_asgG (ev_dmO e_t1 (ea_d (ev_ixO (ds := [.int z.1, .int z.2.1, .int (z.2.2 + 1)]) (d := .int z.1) (ev_own rfl) (ev_int (K := K)) hs1 (d3 _ _ _ _) rfl) (ea_d (ev_d (K := K) rfl (.int _)) ea_nil))) ok (fun v G H s1 ok hv => ?_)
      have sg := sg.trans s1
      refine gr2 hv ok.g (fun w1 w2 hw1 hw2 => ?_)
      cases hw1
      refine gs_list (K := K) (ev_own rfl) (ev_int (K := K)) hs1 rfl ok (fun G H s1 ok => ?_)
      have sg := sg.trans s1
      cases hw2
      refine gn ?_
      refine nrm (σ' := [some (.ref s), some (.int a), some (.int t1.2), none]) rfl ?_
      refine q_ret (ev_d (K := K) rfl (.int _)) ok (fun v G H s1 ok hv => ?_)
      cases hm
      rw [upd_upd] at ok
      exact q v G H (sg.trans s1) ok hv
    · have hm := cond_f hb hm
      have sg := sg.trans s1
      refine q_nilU ?_
      refine q_set (σ' := fun v => [some (.ref s), some (.int a), none, some v]) (ev_ixO (K := K) (ds := [.int z.1, .int z.2.1, .int (z.2.2 + 1)]) (d := .int z.2.1) (ev_own rfl) (ev_int (K := K)) hs1 (d3 _ _ _ _) rfl) ok (fun _ => rfl) (fun v G H s1 ok hv => ?_)
      cases hv
      have sg := sg.trans s1
      obtain ⟨t1, e_t1, hm⟩ := bs hm
      obtain ⟨t2, e_t2, hm⟩ := bs hm
      obtain ⟨t3, e_t3, hm⟩ := bs hm
      obtain ⟨t4, e_t4, hm⟩ := bs hm
      obtain ⟨t5, e_t5, hm⟩ := bs hm
      obtain ⟨t6, e_t6, hm⟩ := bs hm
      refine q_setItem (K := K) (ev_modO e_t4 (ev_add (ev_add (ev_mulO e_t2 (ev_d (K := K) rfl (.int _)) (ev_add (ev_modO e_t1 (ev_d (K := K) rfl (.int _)) (ev_int (K := K))) (ev_int (K := K)))) (ev_mulO e_t3 (ev_int (K := K)) (ev_ixO (ds := [.int z.1, .int z.2.1, .int (z.2.2 + 1)]) (d := .int (z.2.2 + 1)) (ev_own rfl) (ev_int (K := K)) hs1 (d3 _ _ _ _) rfl))) (ev_int (K := K))) (ev_int (K := K))) (ev_own rfl) (ev_int (K := K)) hs1 rfl ok (fun v G H s1 ok hv => ?_)
      cases hv
      have sg := sg.trans s1
      rw [upd_upd] at ok
      have hs2 : (upd M0 s (.lst [.int z.1, .int t4, .int (z.2.2 + 1)])) s = some (.lst [.int z.1, .int t4, .int (z.2.2 + 1)]) := upd_same
      refine q_ret (ev_modO e_t6 (ev_fdivO e_t5 (ev_ixO (K := K) (ds := [.int z.1, .int t4, .int (z.2.2 + 1)]) (d := .int t4) (ev_own rfl) (ev_int (K := K)) hs2 (d3 _ _ _ _) rfl) (ev_int (K := K))) (ev_d (K := K) rfl (.int _))) ok (fun v G H s1 ok hv => ?_)
      cases hm
      exact q v G H (sg.trans s1) ok hv
/-! ### _law_spelt -/
theorem sc__law_spelt : FnScope ["_law_figure_here", "_law_wide", "_law_word", "_law_turn"] ["_law_figure_here", "_law_wide"] (defScope s__law_spelt) := ⟨rfl, rfl, rfl, by decide +kernel, rfl, by decide +kernel, by decide +kernel⟩
def a__law_spelt (K : PySem.W.Frag) (a : Int × Int) : List V → Hp → Prop := conP (DD K (Dat.int a.1)) (conP (DD K (Dat.int a.2)) (nilP))
def m__law_spelt (a : Int × Int) : Option Str :=
  (rngO a.2).bind fun t1 => (forO (fun (st3 : Str × Int) (x4 : Int) => (modO st3.2 (26 : Int)).bind fun t9 => (atS (Str.ofString "abcdefghijklmnopqrstuvwxyz") t9).bind fun t10 => (addS t10 st3.1).bind fun t11 => (fdivO st3.2 (26 : Int)).bind fun t12 => some (t11, t12)) t1 ((Str.ofString ""), a.1)).bind fun fin2 => some fin2.1
abbrev sp__law_spelt [Tb] (K : PySem.W.Frag) : Sp := spP (a__law_spelt K) (m__law_spelt) fun r => DD K (Dat.str r)
theorem ok__law_spelt [Tb] {P : Program} {w : World} {K : PySem.W.Frag} {mg : Str → Option Value} {base : Heap} (T : Txt K mg) : FnOk P w K mg base CX0 (1) T.a__law_spelt T.d__law_spelt ["_law_figure_here", "_law_wide"] (sp__law_spelt K) := by
  refine T.F__law_spelt.ok sc__law_spelt (fun vs H Q E h => ?_) (fun cdv A outer s0 H vs Q E hr h => ?_)
  · obtain ⟨G, M0, a, r, ok, ⟨v_l_figure_here, _, rfl, h_l_figure_here, v_l_wide, _, rfl, h_l_wide, rfl⟩, hm, q⟩ := h
    rfl
  · obtain ⟨G, M0, a, r, ok, ⟨v_l_figure_here, _, rfl, h_l_figure_here, v_l_wide, _, rfl, h_l_wide, rfl⟩, hm, q⟩ := h
    unfold m__law_spelt at hm
    have sg := Same.refl G
    have hB := Same.refl M0
    refine ⟨_, (pss_cons (ps_set (i := 2) sc__law_spelt.nd rfl (.inl rfl) pe_str) (pss_cons (ps_for PassesOwn.never rfl (pi_range1 (by rfl) T.n_range (pa_cons (pv 1) pa_nil)) (pg_name (i := 3) sc__law_spelt.nd rfl (.inl rfl)) (pss_cons (ps_set (i := 2) sc__law_spelt.nd rfl (.inl rfl) (pe_op op_add_str (pe_ix ix_str pe_str (pe_op op_modN (pv 0) pe_int) (fun _ _ => rfl)) (pv 2))) (pss_cons (ps_set (i := 0) sc__law_spelt.nd rfl (.inl rfl) (pe_op op_fdivO (pv 0) pe_int)) pss_nil))) (pss_cons (ps_ret (pv 2)) pss_nil))), ?_⟩
    cases h_l_figure_here
    cases h_l_wide
    refine nrm (σ' := [some (.int a.1), some (.int a.2), none, none]) rfl ?_
    refine q_set (σ' := fun v => [some (.int a.1), some (.int a.2), some v, none]) (ev_str (K := K) (by decide +kernel)) ok (fun _ => rfl) (fun v_l_word G H s1 ok h_l_word => ?_)
    have sg := sg.trans s1
    obtain ⟨t1, e_t1, hm⟩ := bs hm
    obtain ⟨fin2, e_fin2, hm⟩ := bs hm
    have hmo5 := hm
    refine q_forO (ea := Dat.int) (src_rngO e_t1 (ea_d (ev_d (K := K) rfl (.int _)) ea_nil)) ok (fun (st3 : Str × Int) σ1 G1 M1 => ∃ (y_l_turn : Option V) (v_l_word : V), σ1 = [some (.int st3.2), some (.int a.2), some v_l_word, y_l_turn] ∧ (Dq K G1 v_l_word (Dat.str st3.1)) ∧ (Same M0 M1)) e_fin2 (fun G1 s1 => ⟨_, _, rfl, dp_up s1 _ h_l_word, hB⟩) (by rintro _ _ _ _ _ ⟨y_l_turn, v_l_word, rfl, h_l_word, hB⟩ s2; exact ⟨_, _, rfl, dp_up s2 _ h_l_word, hB⟩) (fun x4 xv7 st3 st' σ1 G M H N hm hj s1 ok hv hN => ?_) (fun σ1 G M H s1 ok hj => ?_)
    · obtain ⟨y_l_turn, v_l_word, rfl, h_l_word, hB⟩ := hj
      have sg := sg.trans s1
      have sl8 := Same.refl G
      refine gn ?_
      have h_l_turn := hv
      cases h_l_turn
      refine nrm (σ' := [some (.int st3.2), some (.int a.2), some v_l_word, some (.int x4)]) rfl ?_
      obtain ⟨t9, e_t9, hm⟩ := bs hm
      obtain ⟨t10, e_t10, hm⟩ := bs hm
      obtain ⟨t11, e_t11, hm⟩ := bs hm
      refine q_set (σ' := fun v => [some (.int st3.2), some (.int a.2), some v, some (.int x4)]) (ev_addS e_t11 (ev_ixS e_t10 (ev_str (K := K) (by decide +kernel)) (ev_modO e_t9 (ev_d (K := K) rfl (.int _)) (ev_int (K := K)))) (ev_d (K := K) rfl h_l_word)) ok (fun _ => rfl) (fun v_l_word G H s1 ok h_l_word => ?_)
      have sg := sg.trans s1
      have sl8 := sl8.trans s1
      obtain ⟨t12, e_t12, hm⟩ := bs hm
      refine q_set (σ' := fun v => [some v, some (.int a.2), some v_l_word, some (.int x4)]) (ev_fdivO e_t12 (ev_d (K := K) rfl (.int _)) (ev_int (K := K))) ok (fun _ => rfl) (fun v_l_figure_here G H s1 ok h_l_figure_here => ?_)
      have h_l_word := dp_up s1 _ h_l_word
      have sg := sg.trans s1
      have sl8 := sl8.trans s1
      cases h_l_figure_here
      refine q_nil ?_
      cases hm
      exact hN _ _ _ _ sl8 ok ⟨_, _, rfl, h_l_word, hB⟩
    · obtain ⟨y_l_turn, v_l_word, rfl, h_l_word, hB⟩ := hj
      have sg := sg.trans s1
      refine q_ret (ev_d (K := K) rfl h_l_word) ok (fun v G H s1 ok hv => ?_)
      have sg := sg.trans s1
      cases hm
      exact q v G H sg (ok.less hB) hv
/-! ### _law_calls -/
theorem sc__law_calls : FnScope ["_law_store", "_law_many", "_law_words", "_law_first", "_law_leap", "_law_wide", "_law_most", "_law_k"] ["_law_store", "_law_many"] (defScope s__law_calls) := ⟨rfl, rfl, rfl, by decide +kernel, rfl, by decide +kernel, by decide +kernel⟩
def a__law_calls (K : PySem.W.Frag) (a : Int) : List V → Hp → Prop := conP (DD K (Dat.int a)) (nilP)
def m__law_calls (a : Int) (z : Sto) : Option ((List Str) × Sto) :=
  (m__law_pull (5 : Int) z).bind fun t1 => cond (decide (t1.1 = (1 : Int))) ((m__law_pull (12 : Int) t1.2).bind fun t2 => (m__law_pull (4 : Int) t2.2).bind fun t3 => (atI ([(1 : Int), (5 : Int), (7 : Int), (11 : Int)] : (List Int)) t3.1).bind fun t4 => (rngO a).bind fun t5 => (lcO (fun x6 : Int => (mulO t4 x6).bind fun t12 => (modO (t2.1 + t12) (12 : Int)).bind fun t13 => (atI ([(Str.ofString "bell"), (Str.ofString "turns"), (Str.ofString "ring"), (Str.ofString "go"), (Str.ofString "tell"), (Str.ofString "hang"), (Str.ofString "down"), (Str.ofString "put"), (Str.ofString "strike"), (Str.ofString "back"), (Str.ofString "lots"), (Str.ofString "home")] : (List Str)) t13).bind fun t14 => some t14) t5).bind fun t15 => (sortS t15).bind fun t16 => some (t16, t3.2)) ((m__law_pull (6 : Int) t1.2).bind fun t17 => (m__law_pull (4 : Int) t17.2).bind fun t18 => (atI ([(1 : Int), (3 : Int), (7 : Int), (25 : Int)] : (List Int)) t18.1).bind fun t19 => (atI ([(26 : Int), (676 : Int), (17576 : Int), (456976 : Int), (11881376 : Int), (308915776 : Int)] : (List Int)) (((1 : Int) + t17.1) - (1 : Int))).bind fun t20 => (m__law_pull t20 t18.2).bind fun t21 => (rngO a).bind fun t22 => (lcO (fun x23 : Int => (mulO t19 x23).bind fun t29 => (modO (t21.1 + t29) t20).bind fun t30 => (m__law_spelt (t30, ((1 : Int) + t17.1))).bind fun t31 => some t31) t22).bind fun t32 => (sortS t32).bind fun t33 => some (t33, t21.2))
abbrev sp__law_calls [Tb] (K : PySem.W.Frag) : Sp := spD (a__law_calls K) (m__law_calls) fun r => DD K ((eL Dat.str) r)
theorem ok__law_calls [Tb] {P : Program} {w : World} {K : PySem.W.Frag} {mg : Str → Option Value} {base : Heap} (T : Txt K mg) (O__law_pull : FnOk P w K mg base CX0 1 T.a__law_pull T.d__law_pull ["_law_store", "_law_many"] (sp__law_pull K)) (O__law_spelt : FnOk P w K mg base CX0 1 T.a__law_spelt T.d__law_spelt ["_law_figure_here", "_law_wide"] (sp__law_spelt K)) : FnOk P w K mg base CX0 (2) T.a__law_calls T.d__law_calls ["_law_store", "_law_many"] (sp__law_calls K) := by
  refine T.F__law_calls.ok sc__law_calls (fun vs H Q E h => ?_) (fun cdv A outer s0 H vs Q E hr h => ?_)
  · obtain ⟨G, M0, s, z, z1, a, r, ws, rfl, ok, hs, ⟨v_l_many, _, rfl, h_l_many, rfl⟩, hm, q⟩ := h
    rfl
  · obtain ⟨G, M0, s, z, z1, a, r, ws, rfl, ok, hs, ⟨v_l_many, _, rfl, h_l_many, rfl⟩, hm, q⟩ := h
    unfold m__law_calls at hm
    have sg := Same.refl G
    have hB : ∀ a u, a ≠ s → M0 a = some u → M0 a = some u := fun _ _ _ h => h
    refine ⟨_, (pss_cons (ps_set (i := 2) sc__law_calls.nd rfl (.inr rfl) (pe_lst (pa_cons pe_str (pa_cons pe_str (pa_cons pe_str (pa_cons pe_str (pa_cons pe_str (pa_cons pe_str (pa_cons pe_str (pa_cons pe_str (pa_cons pe_str (pa_cons pe_str (pa_cons pe_str (pa_cons pe_str pa_nil)))))))))))))) (pss_cons (ps_if (pt_cmpR op_eq (pe_call O__law_pull (hr.mono (by decide)) (by rfl) T.g__law_pull T.F__law_pull.kp T.b__law_pull .nil pass0 (pa_cons (pv 0) (pa_cons pe_int pa_nil))) pe_int (nomark _)) (pss_cons (ps_asg (pe_tup (pa_cons (pe_call O__law_pull (hr.mono (by decide)) (by rfl) T.g__law_pull T.F__law_pull.kp T.b__law_pull .nil pass0 (pa_cons (pv 0) (pa_cons pe_int pa_nil))) (pa_cons (pe_ix (ix_listK (K := K)) (pe_lst (pa_cons pe_int (pa_cons pe_int (pa_cons pe_int (pa_cons pe_int pa_nil))))) (pe_call O__law_pull (hr.mono (by decide)) (by rfl) T.g__law_pull T.F__law_pull.kp T.b__law_pull .nil pass0 (pa_cons (pv 0) (pa_cons pe_int pa_nil))) (fun _ _ => rfl)) pa_nil))) (pg_tup rfl (pgs_cons (pg_name (i := 3) sc__law_calls.nd rfl (.inr rfl)) (pgs_cons (pg_name (i := 4) sc__law_calls.nd rfl (.inr rfl)) pgs_nil)))) (pss_cons (ps_ret (pe_callB (cr_sortedSK (K := K)) (by rfl) T.n_sorted (by decide +kernel) (pa_cons (pe_lc (own := [("_law_k", 7)]) (g := (gName 7)) (tt := tYes) rfl sc__law_calls.nd (pi_range1 (by rfl) T.n_range (pa_cons (pv 1) pa_nil)) (blkOk_by (own := [("_law_k", 7)]) (N := ["_law_store", "_law_many", "_law_words", "_law_first", "_law_leap", "_law_wide", "_law_most", "_law_k"]) (sc := defScope s__law_calls) (by decide +kernel)) (fun _ _ _ _ _ => (pg_name (i := 7) sc__law_calls.nd rfl (by first | exact .inl rfl | exact .inr rfl))) (fun _ _ _ _ _ => pts_nil) (fun _ _ _ _ _ => (pe_ix (ix_listK (K := K)) (pv 2) (pe_op op_modN (pe_op op_add (pv 3) (pe_op op_mulO (pv 4) (pv 7))) pe_int) (fun _ _ => rfl)))) pa_nil))) pss_nil)) pss_nil) (pss_cons (ps_asg (pe_tup (pa_cons (pe_op op_add pe_int (pe_call O__law_pull (hr.mono (by decide)) (by rfl) T.g__law_pull T.F__law_pull.kp T.b__law_pull .nil pass0 (pa_cons (pv 0) (pa_cons pe_int pa_nil)))) (pa_cons (pe_ix (ix_listK (K := K)) (pe_lst (pa_cons pe_int (pa_cons pe_int (pa_cons pe_int (pa_cons pe_int pa_nil))))) (pe_call O__law_pull (hr.mono (by decide)) (by rfl) T.g__law_pull T.F__law_pull.kp T.b__law_pull .nil pass0 (pa_cons (pv 0) (pa_cons pe_int pa_nil))) (fun _ _ => rfl)) pa_nil))) (pg_tup rfl (pgs_cons (pg_name (i := 5) sc__law_calls.nd rfl (.inr rfl)) (pgs_cons (pg_name (i := 4) sc__law_calls.nd rfl (.inr rfl)) pgs_nil)))) (pss_cons (ps_set (i := 6) sc__law_calls.nd rfl (.inr rfl) (pe_ix (ix_listK (K := K)) (pe_lst (pa_cons pe_int (pa_cons pe_int (pa_cons pe_int (pa_cons pe_int (pa_cons pe_int (pa_cons pe_int pa_nil))))))) (pe_op op_sub (pv 5) pe_int) (fun _ _ => rfl))) (pss_cons (ps_set (i := 3) sc__law_calls.nd rfl (.inr rfl) (pe_call O__law_pull (hr.mono (by decide)) (by rfl) T.g__law_pull T.F__law_pull.kp T.b__law_pull .nil pass0 (pa_cons (pv 0) (pa_cons (pv 6) pa_nil)))) (pss_cons (ps_ret (pe_callB (cr_sortedSK (K := K)) (by rfl) T.n_sorted (by decide +kernel) (pa_cons (pe_lc (own := [("_law_k", 7)]) (g := (gName 7)) (tt := tYes) rfl sc__law_calls.nd (pi_range1 (by rfl) T.n_range (pa_cons (pv 1) pa_nil)) (blkOk_by (own := [("_law_k", 7)]) (N := ["_law_store", "_law_many", "_law_words", "_law_first", "_law_leap", "_law_wide", "_law_most", "_law_k"]) (sc := defScope s__law_calls) (by decide +kernel)) (fun _ _ _ _ _ => (pg_name (i := 7) sc__law_calls.nd rfl (by first | exact .inl rfl | exact .inr rfl))) (fun _ _ _ _ _ => pts_nil) (fun _ _ _ _ _ => (pe_call O__law_spelt (hr.mono (by decide)) (by rfl) T.g__law_spelt T.F__law_spelt.kp T.b__law_spelt .nil pass0 (pa_cons (pe_op op_modN (pe_op op_add (pv 3) (pe_op op_mulO (pv 4) (pv 7))) (pv 6)) (pa_cons (pv 5) pa_nil))))) pa_nil))) pss_nil)))))), ?_⟩
    cases h_l_many
    refine nrm (σ' := [some (.ref s), some (.int a), none, none, none, none, none, none]) rfl ?_
    refine q_set (σ' := fun v => [some (.ref s), some (.int a), some v, none, none, none, none, none]) (EvL.ev (el_lst (ea_consD (ev_str (K := K) (by decide +kernel)) (ea_consD (ev_str (K := K) (by decide +kernel)) (ea_consD (ev_str (K := K) (by decide +kernel)) (ea_consD (ev_str (K := K) (by decide +kernel)) (ea_consD (ev_str (K := K) (by decide +kernel)) (ea_consD (ev_str (K := K) (by decide +kernel)) (ea_consD (ev_str (K := K) (by decide +kernel)) (ea_consD (ev_str (K := K) (by decide +kernel)) (ea_consD (ev_str (K := K) (by decide +kernel)) (ea_consD (ev_str (K := K) (by decide +kernel)) (ea_consD (ev_str (K := K) (by decide +kernel)) (ea_consD (ev_str (K := K) (by decide +kernel)) (ea_nilD (K := K)))))))))))))))) ok (fun _ => rfl) (fun v_l_words G H s1 ok h_l_words => ?_)
    have sg := sg.trans s1
    obtain ⟨t1, e_t1, hm⟩ := bs hm
    refine q_if (et_test (ev_eqI (ev_callD (a := (5 : Int)) (r := t1.1) (z' := t1.2) hs e_t1 (ea_cons mo_ow (ev_own rfl) (ea_d (ev_int (K := K)) ea_nil))) (ev_int (K := K)))) ok (fun hb G H s1 ok => ?_) (fun hb G H s1 ok => ?_)
    · have hm := cond_t hb hm
      have h_l_words := dp_up s1 _ h_l_words
      have sg := sg.trans s1
      have ok : Ok _ (upd M0 s (sto t1.2)) _ := ok
      have hs : (upd M0 s (sto t1.2)) s = some (sto t1.2) := upd_same
      have hB : ∀ a u, a ≠ s → M0 a = some u → (upd M0 s (sto t1.2)) a = some u := (hB_draw hB)
      obtain ⟨M, eM⟩ : ∃ m, m = (upd M0 s (sto t1.2)) := ⟨_, rfl⟩
      rw [← eM] at ok hs hB
      clear eM
      obtain ⟨t2, e_t2, hm⟩ := bs hm
      obtain ⟨t3, e_t3, hm⟩ := bs hm
      obtain ⟨t4, e_t4, hm⟩ := bs hm
      refine q_tupDD (σ' := fun v w => [some (.ref s), some (.int a), some v_l_words, some v, some w, none, none, none]) (ev_callD (a := (12 : Int)) (r := t2.1) (z' := t2.2) hs e_t2 (ea_cons mo_ow (ev_own rfl) (ea_d (ev_int (K := K)) ea_nil))) mo_dd (ev_ixLM (e := Dat.int) e_t4 (EvL.ev (el_lst (ea_consD (ev_int (K := K)) (ea_consD (ev_int (K := K)) (ea_consD (ev_int (K := K)) (ea_consD (ev_int (K := K)) (ea_nilD (K := K)))))))) (ev_callD (a := (4 : Int)) (r := t3.1) (z' := t3.2) upd_same e_t3 (ea_cons mo_ow (ev_own rfl) (ea_d (ev_int (K := K)) ea_nil)))) mo_dd ok (fun _ _ => rfl) (fun v_l_first v_l_leap G H s1 ok h_l_first h_l_leap => ?_)
      have h_l_words := dp_up s1 _ h_l_words
      have sg := sg.trans s1
      cases h_l_first
      cases h_l_leap
      have ok : Ok _ (upd (upd M s (sto t2.2)) s (sto t3.2)) _ := ok
      have hs : (upd (upd M s (sto t2.2)) s (sto t3.2)) s = some (sto t3.2) := upd_same
      have hB : ∀ a u, a ≠ s → M0 a = some u → (upd (upd M s (sto t2.2)) s (sto t3.2)) a = some u := (hB_draw (hB_draw hB))
      obtain ⟨M, eM⟩ : ∃ m, m = (upd (upd M s (sto t2.2)) s (sto t3.2)) := ⟨_, rfl⟩
      rw [← eM] at ok hs hB
      clear eM
      obtain ⟨t5, e_t5, hm⟩ := bs hm
      obtain ⟨t15, e_t15, hm⟩ := bs hm
      obtain ⟨t16, e_t16, hm⟩ := bs hm
      refine q_ret (EvL.ev (el_sortedS e_t16 (ea_d (EvL.ev (el_lcM (ea := Dat.int) (eb := Dat.str) (xs := t5) (ys := t15) (hf := e_t15) (src_rngO e_t5 (ea_d (ev_d (K := K) rfl (.int _)) ea_nil)) (fun x6 _ Mx10 _ _ he11 sM9 sG8 hv7 => by (obtain ⟨t12, e_t12, he11⟩ := bs he11); (obtain ⟨t13, e_t13, he11⟩ := bs he11); (obtain ⟨t14, e_t14, he11⟩ := bs he11); (have he11 := Option.some.inj he11); subst he11; exact (tg_name ⟨rfl, (ev_ixLM (e := Dat.str) e_t14 (ev_d (K := K) rfl (dp_up sG8 _ h_l_words)) (ev_modO e_t13 (ev_add (ev_d (K := K) rfl (.int _)) (ev_mulO e_t12 (ev_d (K := K) rfl (.int _)) (ev_d (K := K) rfl hv7))) (ev_int (K := K))))⟩)))) ea_nil))) ok (fun v G H s1 ok hv => ?_)
      have sg := sg.trans s1
      cases hm
      exact q v G H sg (ok.less (same_fin hB hs)) hv
    · have hm := cond_f hb hm
      have h_l_words := dp_up s1 _ h_l_words
      have sg := sg.trans s1
      have ok : Ok _ (upd M0 s (sto t1.2)) _ := ok
      have hs : (upd M0 s (sto t1.2)) s = some (sto t1.2) := upd_same
      have hB : ∀ a u, a ≠ s → M0 a = some u → (upd M0 s (sto t1.2)) a = some u := (hB_draw hB)
      obtain ⟨M, eM⟩ : ∃ m, m = (upd M0 s (sto t1.2)) := ⟨_, rfl⟩
      rw [← eM] at ok hs hB
      clear eM
      refine q_nilU ?_
      obtain ⟨t17, e_t17, hm⟩ := bs hm
      obtain ⟨t18, e_t18, hm⟩ := bs hm
      obtain ⟨t19, e_t19, hm⟩ := bs hm
      refine q_tupDD (σ' := fun v w => [some (.ref s), some (.int a), some v_l_words, none, some w, some v, none, none]) (ev_add (ev_int (K := K)) (ev_callD (a := (6 : Int)) (r := t17.1) (z' := t17.2) hs e_t17 (ea_cons mo_ow (ev_own rfl) (ea_d (ev_int (K := K)) ea_nil)))) mo_dd (ev_ixLM (e := Dat.int) e_t19 (EvL.ev (el_lst (ea_consD (ev_int (K := K)) (ea_consD (ev_int (K := K)) (ea_consD (ev_int (K := K)) (ea_consD (ev_int (K := K)) (ea_nilD (K := K)))))))) (ev_callD (a := (4 : Int)) (r := t18.1) (z' := t18.2) upd_same e_t18 (ea_cons mo_ow (ev_own rfl) (ea_d (ev_int (K := K)) ea_nil)))) mo_dd ok (fun _ _ => rfl) (fun v_l_wide v_l_leap G H s1 ok h_l_wide h_l_leap => ?_)
      have h_l_words := dp_up s1 _ h_l_words
      have sg := sg.trans s1
      cases h_l_wide
      cases h_l_leap
      have ok : Ok _ (upd (upd M s (sto t17.2)) s (sto t18.2)) _ := ok
      have hs : (upd (upd M s (sto t17.2)) s (sto t18.2)) s = some (sto t18.2) := upd_same
      have hB : ∀ a u, a ≠ s → M0 a = some u → (upd (upd M s (sto t17.2)) s (sto t18.2)) a = some u := (hB_draw (hB_draw hB))
      obtain ⟨M, eM⟩ : ∃ m, m = (upd (upd M s (sto t17.2)) s (sto t18.2)) := ⟨_, rfl⟩
      rw [← eM] at ok hs hB
      clear eM
      obtain ⟨t20, e_t20, hm⟩ := bs hm
      refine q_set (σ' := fun v => [some (.ref s), some (.int a), some v_l_words, none, some (.int t19), some (.int ((1 : Int) + t17.1)), some v, none]) (ev_ixLM (e := Dat.int) e_t20 (EvL.ev (el_lst (ea_consD (ev_int (K := K)) (ea_consD (ev_int (K := K)) (ea_consD (ev_int (K := K)) (ea_consD (ev_int (K := K)) (ea_consD (ev_int (K := K)) (ea_consD (ev_int (K := K)) (ea_nilD (K := K)))))))))) (ev_sub (ev_d (K := K) rfl (.int _)) (ev_int (K := K)))) ok (fun _ => rfl) (fun v_l_most G H s1 ok h_l_most => ?_)
      have h_l_words := dp_up s1 _ h_l_words
      have sg := sg.trans s1
      cases h_l_most
      obtain ⟨t21, e_t21, hm⟩ := bs hm
      refine q_set (σ' := fun v => [some (.ref s), some (.int a), some v_l_words, some v, some (.int t19), some (.int ((1 : Int) + t17.1)), some (.int t20), none]) (ev_callD (a := t20) (r := t21.1) (z' := t21.2) hs e_t21 (ea_cons mo_ow (ev_own rfl) (ea_d (ev_d (K := K) rfl (.int _)) ea_nil))) ok (fun _ => rfl) (fun v_l_first G H s1 ok h_l_first => ?_)
      have h_l_words := dp_up s1 _ h_l_words
      have sg := sg.trans s1
      cases h_l_first
      have ok : Ok _ (upd M s (sto t21.2)) _ := ok
      have hs : (upd M s (sto t21.2)) s = some (sto t21.2) := upd_same
      have hB : ∀ a u, a ≠ s → M0 a = some u → (upd M s (sto t21.2)) a = some u := (hB_draw hB)
      obtain ⟨M, eM⟩ : ∃ m, m = (upd M s (sto t21.2)) := ⟨_, rfl⟩
      rw [← eM] at ok hs hB
      clear eM
      obtain ⟨t22, e_t22, hm⟩ := bs hm
      obtain ⟨t32, e_t32, hm⟩ := bs hm
      obtain ⟨t33, e_t33, hm⟩ := bs hm
      refine q_ret (EvL.ev (el_sortedS e_t33 (ea_d (EvL.ev (el_lcM (ea := Dat.int) (eb := Dat.str) (xs := t22) (ys := t32) (hf := e_t32) (src_rngO e_t22 (ea_d (ev_d (K := K) rfl (.int _)) ea_nil)) (fun x23 _ Mx27 _ _ he28 sM26 sG25 hv24 => by (obtain ⟨t29, e_t29, he28⟩ := bs he28); (obtain ⟨t30, e_t30, he28⟩ := bs he28); (obtain ⟨t31, e_t31, he28⟩ := bs he28); (have he28 := Option.some.inj he28); subst he28; exact (tg_name ⟨rfl, (ev_callP (res := fun r => DD K (Dat.str r)) (a := (t30, ((1 : Int) + t17.1))) e_t31 (ea_d (ev_modO e_t30 (ev_add (ev_d (K := K) rfl (.int _)) (ev_mulO e_t29 (ev_d (K := K) rfl (.int _)) (ev_d (K := K) rfl hv24))) (ev_d (K := K) rfl (.int _))) (ea_d (ev_d (K := K) rfl (.int _)) ea_nil)))⟩)))) ea_nil))) ok (fun v G H s1 ok hv => ?_)
      have sg := sg.trans s1
      cases hm
      exact q v G H sg (ok.less (same_fin hB hs)) hv
/-! ### _law_figure -/
theorem sc__law_figure : FnScope ["_law_store", "_law_mode", "_law_size", "_law_some"] ["_law_store", "_law_mode", "_law_size"] (defScope s__law_figure) := ⟨rfl, rfl, rfl, by decide +kernel, rfl, by decide +kernel, by decide +kernel⟩
def a__law_figure (K : PySem.W.Frag) (a : Int × Int) : List V → Hp → Prop := conP (DD K (Dat.int a.1)) (conP (DD K (Dat.int a.2)) (nilP))
def m__law_figure (a : Int × Int) (z : Sto) : Option (Int × Sto) :=
  (m__law_pull a.2 z).bind fun t1 => (m__law_pull (99 : Int) t1.2).bind fun t2 => (mulO (2 : Int) a.2).bind fun t3 => (fdivO a.2 (2 : Int)).bind fun t4 => (m__law_pull (4 : Int) t2.2).bind fun t5 => (atI ([(0 : Int), a.2, t3, t4] : (List Int)) t5.1).bind fun t6 => (appO ([(1 : Int), ((1 : Int) + t1.1), ((1 : Int) + t2.1)] : (List Int)) t6).bind fun t7 => cond (decide (a.1 < (4 : Int))) ((atI t7 a.1).bind fun t8 => some (t8, t5.2)) ((atI t7 (1 : Int)).bind fun t9 => (m__law_pull (a.1 - (2 : Int)) t5.2).bind fun t10 => (mulO t9 (if (decide (t10.1 = (0 : Int))) then 1 else 0 : Int)).bind fun t11 => some (t11, t10.2))
abbrev sp__law_figure [Tb] (K : PySem.W.Frag) : Sp := spD (a__law_figure K) (m__law_figure) fun r => DD K (Dat.int r)
theorem ok__law_figure [Tb] {P : Program} {w : World} {K : PySem.W.Frag} {mg : Str → Option Value} {base : Heap} (T : Txt K mg) (O__law_pull : FnOk P w K mg base CX0 1 T.a__law_pull T.d__law_pull ["_law_store", "_law_many"] (sp__law_pull K)) : FnOk P w K mg base CX0 (2) T.a__law_figure T.d__law_figure ["_law_store", "_law_mode", "_law_size"] (sp__law_figure K) := by
  refine T.F__law_figure.ok sc__law_figure (fun vs H Q E h => ?_) (fun cdv A outer s0 H vs Q E hr h => ?_)
  · obtain ⟨G, M0, s, z, z1, a, r, ws, rfl, ok, hs, ⟨v_l_mode, _, rfl, h_l_mode, v_l_size, _, rfl, h_l_size, rfl⟩, hm, q⟩ := h
    rfl
  · obtain ⟨G, M0, s, z, z1, a, r, ws, rfl, ok, hs, ⟨v_l_mode, _, rfl, h_l_mode, v_l_size, _, rfl, h_l_size, rfl⟩, hm, q⟩ := h
    unfold m__law_figure at hm
    have sg := Same.refl G
    have hB : ∀ a u, a ≠ s → M0 a = some u → M0 a = some u := fun _ _ _ h => h
    refine ⟨_, (pss_cons (ps_set (i := 3) sc__law_figure.nd rfl (.inl rfl) (pe_lst (pa_cons pe_int (pa_cons (pe_op op_add pe_int (pe_call O__law_pull (hr.mono (by decide)) (by rfl) T.g__law_pull T.F__law_pull.kp T.b__law_pull .nil pass0 (pa_cons (pv 0) (pa_cons (pv 2) pa_nil)))) (pa_cons (pe_op op_add pe_int (pe_call O__law_pull (hr.mono (by decide)) (by rfl) T.g__law_pull T.F__law_pull.kp T.b__law_pull .nil pass0 (pa_cons (pv 0) (pa_cons pe_int pa_nil)))) pa_nil))))) (pss_cons (ps_expr (pe_bm PySem.F.plainAttrs_list PySem.F.slot_list_append PySem.F.type_list_append mt_append (pv 3) (pa_cons (pe_ix (ix_listK (K := K)) (pe_lst (pa_cons pe_int (pa_cons (pv 2) (pa_cons (pe_op op_mulO pe_int (pv 2)) (pa_cons (pe_op op_fdivO (pv 2) pe_int) pa_nil))))) (pe_call O__law_pull (hr.mono (by decide)) (by rfl) T.g__law_pull T.F__law_pull.kp T.b__law_pull .nil pass0 (pa_cons (pv 0) (pa_cons pe_int pa_nil))) (fun _ _ => rfl)) pa_nil))) (pss_cons (ps_if (pt_cmpR op_lt (pv 1) pe_int (nomark _)) (pss_cons (ps_ret (pe_ix (ix_listK (K := K)) (pv 3) (pv 1) (fun _ _ => rfl))) pss_nil) pss_nil) (pss_cons (ps_ret (pe_op op_mulO (pe_ix (ix_listK (K := K)) (pv 3) pe_int (fun _ _ => rfl)) (pe_callTy cl_int (by rfl) T.n_int (by decide +kernel) (pa_cons (pe_cmpR op_eq (pe_call O__law_pull (hr.mono (by decide)) (by rfl) T.g__law_pull T.F__law_pull.kp T.b__law_pull .nil pass0 (pa_cons (pv 0) (pa_cons (pe_op op_sub (pv 1) pe_int) pa_nil))) pe_int (nomark _)) pa_nil)))) pss_nil)))), ?_⟩
    cases h_l_mode
    cases h_l_size
    refine nrm (σ' := [some (.ref s), some (.int a.1), some (.int a.2), none]) rfl ?_
    obtain ⟨t1, e_t1, hm⟩ := bs hm
    obtain ⟨t2, e_t2, hm⟩ := bs hm
    refine q_setL (σ' := fun v => [some (.ref s), some (.int a.1), some (.int a.2), some v]) (el_lst (ea_consD (ev_int (K := K)) (ea_consD (ev_add (ev_int (K := K)) (ev_callD (a := a.2) (r := t1.1) (z' := t1.2) hs e_t1 (ea_cons mo_ow (ev_own rfl) (ea_d (ev_d (K := K) rfl (.int _)) ea_nil)))) (ea_consD (ev_add (ev_int (K := K)) (ev_callD (a := (99 : Int)) (r := t2.1) (z' := t2.2) upd_same e_t2 (ea_cons mo_ow (ev_own rfl) (ea_d (ev_int (K := K)) ea_nil)))) (ea_nilD (K := K)))))) ok (fun _ => rfl) (fun p_l_some vs_l_some G H s1 ok hn hd_l_some => ?_)
    have sg := sg.trans s1
    have n_l_store_l_some : s ≠ p_l_some := ne_of_none upd_same hn
    have n_l_some_l_store := n_l_store_l_some.symm
    have h0_l_some : M0 p_l_some = none := hB_none (M := (upd (upd M0 s (sto t1.2)) s (sto t2.2))) (hB_draw (hB_draw hB)) upd_same hn
    have hd_l_some : DqAll K G vs_l_some (([(1 : Int), ((1 : Int) + t1.1), ((1 : Int) + t2.1)] : (List Int)).map Dat.int) := hd_l_some
    have ok : Ok _ (upd (upd (upd M0 s (sto t1.2)) s (sto t2.2)) p_l_some (.lst vs_l_some)) _ := ok
    have hs : (upd (upd (upd M0 s (sto t1.2)) s (sto t2.2)) p_l_some (.lst vs_l_some)) s = some (sto t2.2) := (up_ne n_l_store_l_some upd_same)
    have hB : ∀ a u, a ≠ s → M0 a = some u → (upd (upd (upd M0 s (sto t1.2)) s (sto t2.2)) p_l_some (.lst vs_l_some)) a = some u := (hB_own (hB_draw (hB_draw hB)) h0_l_some)
    have hp_l_some : (upd (upd (upd M0 s (sto t1.2)) s (sto t2.2)) p_l_some (.lst vs_l_some)) p_l_some = some (.lst vs_l_some) := upd_same
    obtain ⟨M, eM⟩ : ∃ m, m = (upd (upd (upd M0 s (sto t1.2)) s (sto t2.2)) p_l_some (.lst vs_l_some)) := ⟨_, rfl⟩
    rw [← eM] at ok hs hB hp_l_some
    clear eM
    obtain ⟨t3, e_t3, hm⟩ := bs hm
    obtain ⟨t4, e_t4, hm⟩ := bs hm
    obtain ⟨t5, e_t5, hm⟩ := bs hm
    obtain ⟨t6, e_t6, hm⟩ := bs hm
    obtain ⟨t7, e_t7, hm⟩ := bs hm
    obtain ⟨hl_t7, ea_t7⟩ := appO_of e_t7
    refine q_append (ev_own rfl) (ea_d (ev_ixLM (e := Dat.int) e_t6 (EvL.ev (el_lst (ea_consD (ev_int (K := K)) (ea_consD (ev_d (K := K) rfl (.int _)) (ea_consD (ev_mulO e_t3 (ev_int (K := K)) (ev_d (K := K) rfl (.int _))) (ea_consD (ev_fdivO e_t4 (ev_d (K := K) rfl (.int _)) (ev_int (K := K))) (ea_nilD (K := K)))))))) (ev_callD (a := (4 : Int)) (r := t5.1) (z' := t5.2) hs e_t5 (ea_cons mo_ow (ev_own rfl) (ea_d (ev_int (K := K)) ea_nil)))) ea_nil) hp_l_some (up_ne n_l_some_l_store hp_l_some) (by rw [dpAll_len hd_l_some, List.length_map]; exact szlt hl_t7) ok (fun v G H s1 ok hv => ?_)
    have hd_l_some := dpAll_up s1 _ hd_l_some
    have sg := sg.trans s1
    have hd_l_some : DqAll K G (vs_l_some ++ [v]) (t7.map Dat.int) := by rw [ea_t7, List.map_append]; exact dpAll_app hd_l_some (.cons hv .nil)
    have ok : Ok _ (upd (upd M s (sto t5.2)) p_l_some (.lst (vs_l_some ++ [v]))) _ := ok
    have hs : (upd (upd M s (sto t5.2)) p_l_some (.lst (vs_l_some ++ [v]))) s = some (sto t5.2) := (up_ne n_l_store_l_some upd_same)
    have hB : ∀ a u, a ≠ s → M0 a = some u → (upd (upd M s (sto t5.2)) p_l_some (.lst (vs_l_some ++ [v]))) a = some u := (hB_own (hB_draw hB) h0_l_some)
    have hp_l_some : (upd (upd M s (sto t5.2)) p_l_some (.lst (vs_l_some ++ [v]))) p_l_some = some (.lst (vs_l_some ++ [v])) := upd_same
    obtain ⟨M, eM⟩ : ∃ m, m = (upd (upd M s (sto t5.2)) p_l_some (.lst (vs_l_some ++ [v]))) := ⟨_, rfl⟩
    rw [← eM] at ok hs hB hp_l_some
    clear eM
    obtain ⟨vs_l_some, e_vs⟩ : ∃ m, m = (vs_l_some ++ [v]) := ⟨_, rfl⟩
    rw [← e_vs] at hp_l_some hd_l_some
    clear e_vs
    refine q_if (et_test (ev_lt (ev_d (K := K) rfl (.int _)) (ev_int (K := K)))) ok (fun hb G H s1 ok => ?_) (fun hb G H s1 ok => ?_)
    · have hm := cond_t hb hm
      have hd_l_some := dpAll_up s1 _ hd_l_some
      have sg := sg.trans s1
      obtain ⟨t8, e_t8, hm⟩ := bs hm
      refine q_ret (ev_ixOM (e := Dat.int) e_t8 hp_l_some hd_l_some (ev_own rfl) (ev_d (K := K) rfl (.int _))) ok (fun v G H s1 ok hv => ?_)
      have sg := sg.trans s1
      cases hm
      exact q v G H sg (ok.less (same_fin hB hs)) hv
    · have hm := cond_f hb hm
      have hd_l_some := dpAll_up s1 _ hd_l_some
      have sg := sg.trans s1
      refine q_nilU ?_
      obtain ⟨t9, e_t9, hm⟩ := bs hm
      obtain ⟨t10, e_t10, hm⟩ := bs hm
      obtain ⟨t11, e_t11, hm⟩ := bs hm
      refine q_ret (ev_mulO e_t11 (ev_ixOM (e := Dat.int) e_t9 hp_l_some hd_l_some (ev_own rfl) (ev_int (K := K))) (ev_intB (ea_d (ev_eqI (ev_callD (a := (a.1 - (2 : Int))) (r := t10.1) (z' := t10.2) hs e_t10 (ea_cons mo_ow (ev_own rfl) (ea_d (ev_sub (ev_d (K := K) rfl (.int _)) (ev_int (K := K))) ea_nil))) (ev_int (K := K))) ea_nil))) ok (fun v G H s1 ok hv => ?_)
      have sg := sg.trans s1
      have ok : Ok _ (upd M s (sto t10.2)) _ := ok
      have hs : (upd M s (sto t10.2)) s = some (sto t10.2) := upd_same
      have hB : ∀ a u, a ≠ s → M0 a = some u → (upd M s (sto t10.2)) a = some u := (hB_draw hB)
      have hp_l_some : (upd M s (sto t10.2)) p_l_some = some (.lst vs_l_some) := (up_ne n_l_some_l_store hp_l_some)
      obtain ⟨M, eM⟩ : ∃ m, m = (upd M s (sto t10.2)) := ⟨_, rfl⟩
      rw [← eM] at ok hs hB hp_l_some
      clear eM
      cases hm
      exact q v G H sg (ok.less (same_fin hB hs)) hv
/-! ### _law_kit -/
theorem sc__law_kit : FnScope ["_law_store", "_law_upto", "_law_most", "_law_calls_here", "_law_alike", "_law_same", "_law_mode", "_law_sizes", "_law_found", "_law_call", "_law_k", "_law_figure_here"] ["_law_store", "_law_upto", "_law_most"] (defScope s__law_kit) := ⟨rfl, rfl, rfl, by decide +kernel, rfl, by decide +kernel, by decide +kernel⟩
def a__law_kit (K : PySem.W.Frag) (a : Int × Int) : List V → Hp → Prop := conP (DD K (Dat.int a.1)) (conP (DD K (Dat.int a.2)) (nilP))
def m__law_kit (a : Int × Int) (z : Sto) : Option (((List (Str × Int)) × (List (Str × Str × Int))) × Sto) :=
  (m__law_pull a.1 z).bind fun t1 => (m__law_calls ((1 : Int) + t1.1) t1.2).bind fun t2 => (m__law_pull (a.2 - (1 : Int)) t2.2).bind fun t3 => (m__law_pull (4 : Int) t3.2).bind fun t4 => (m__law_pull (6 : Int) t4.2).bind fun t5 => (lcS (fun (x6 : Str) (x6z : Sto) => (cond (decide (t4.1 = (0 : Int))) (some (((2 : Int) + t3.1), x6z)) ((m__law_pull (a.2 - (1 : Int)) x6z).bind fun t12 => some (((2 : Int) + t12.1), t12.2))).bind fun t13 => some (t13.1, t13.2)) t2.1 t5.2).bind fun t14 => (forO (fun (st16 : (List (Str × Str × Int)) × Sto) (x17 : Str) => (rngO (t2.1.length : Int)).bind fun t22 => (forO (fun (st24 : (List (Str × Str × Int)) × Sto) (x25 : Int) => (atI t14.1 x25).bind fun t30 => (m__law_figure (t5.1, t30) st24.2).bind fun t31 => (atI t2.1 x25).bind fun t32 => cond ((!decide (t32 = x17)) && (decide ((0 : Int) < t31.1))) ((atI t2.1 x25).bind fun t33 => (appO st24.1 (x17, t33, t31.1)).bind fun t34 => some (t34, t31.2)) (some (st24.1, t31.2))) t22 (st16.1, st16.2)).bind fun fin23 => some (fin23.1, fin23.2)) t2.1 (([] : (List (Str × Str × Int))), t14.2)).bind fun fin15 => (rngO (t2.1.length : Int)).bind fun t35 => (lcO (fun x36 : Int => (atI t2.1 x36).bind fun t42 => (atI t14.1 x36).bind fun t43 => some (t42, t43)) t35).bind fun t44 => some ((t44, fin15.1), fin15.2)
abbrev sp__law_kit [Tb] (K : PySem.W.Frag) : Sp := spD (a__law_kit K) (m__law_kit) fun r => DD K ((eP2 (eT (eP2 Dat.str Dat.int)) (eT (eP3 Dat.str Dat.str Dat.int))) r)
theorem ok__law_kit [Tb] {P : Program} {w : World} {K : PySem.W.Frag} {mg : Str → Option Value} {base : Heap} (T : Txt K mg) (O__law_calls : FnOk P w K mg base CX0 2 T.a__law_calls T.d__law_calls ["_law_store", "_law_many"] (sp__law_calls K)) (O__law_pull : FnOk P w K mg base CX0 1 T.a__law_pull T.d__law_pull ["_law_store", "_law_many"] (sp__law_pull K)) (O__law_figure : FnOk P w K mg base CX0 2 T.a__law_figure T.d__law_figure ["_law_store", "_law_mode", "_law_size"] (sp__law_figure K)) : FnOk P w K mg base CX0 (3) T.a__law_kit T.d__law_kit ["_law_store", "_law_upto", "_law_most"] (sp__law_kit K) := by
  refine T.F__law_kit.ok sc__law_kit (fun vs H Q E h => ?_) (fun cdv A outer s0 H vs Q E hr h => ?_)
  · obtain ⟨G, M0, s, z, z1, a, r, ws, rfl, ok, hs, ⟨v_l_upto, _, rfl, h_l_upto, v_l_most, _, rfl, h_l_most, rfl⟩, hm, q⟩ := h
    rfl
  · obtain ⟨G, M0, s, z, z1, a, r, ws, rfl, ok, hs, ⟨v_l_upto, _, rfl, h_l_upto, v_l_most, _, rfl, h_l_most, rfl⟩, hm, q⟩ := h
    unfold m__law_kit at hm
    have sg := Same.refl G
    have hB : ∀ a u, a ≠ s → M0 a = some u → M0 a = some u := fun _ _ _ h => h
    refine ⟨_, (pss_cons (ps_asg (pe_tup (pa_cons (pe_call O__law_calls (hr.mono (by decide)) (by rfl) T.g__law_calls T.F__law_calls.kp T.b__law_calls .nil pass0 (pa_cons (pv 0) (pa_cons (pe_op op_add pe_int (pe_call O__law_pull (hr.mono (by decide)) (by rfl) T.g__law_pull T.F__law_pull.kp T.b__law_pull .nil pass0 (pa_cons (pv 0) (pa_cons (pv 1) pa_nil)))) pa_nil))) (pa_cons (pe_op op_add pe_int (pe_call O__law_pull (hr.mono (by decide)) (by rfl) T.g__law_pull T.F__law_pull.kp T.b__law_pull .nil pass0 (pa_cons (pv 0) (pa_cons (pe_op op_sub (pv 2) pe_int) pa_nil)))) pa_nil))) (pg_tup rfl (pgs_cons (pg_name (i := 3) sc__law_kit.nd rfl (.inr rfl)) (pgs_cons (pg_name (i := 4) sc__law_kit.nd rfl (.inr rfl)) pgs_nil)))) (pss_cons (ps_asg (pe_tup (pa_cons (pe_cmpR op_eq (pe_call O__law_pull (hr.mono (by decide)) (by rfl) T.g__law_pull T.F__law_pull.kp T.b__law_pull .nil pass0 (pa_cons (pv 0) (pa_cons pe_int pa_nil))) pe_int (nomark _)) (pa_cons (pe_call O__law_pull (hr.mono (by decide)) (by rfl) T.g__law_pull T.F__law_pull.kp T.b__law_pull .nil pass0 (pa_cons (pv 0) (pa_cons pe_int pa_nil))) pa_nil))) (pg_tup rfl (pgs_cons (pg_name (i := 5) sc__law_kit.nd rfl (.inr rfl)) (pgs_cons (pg_name (i := 6) sc__law_kit.nd rfl (.inl rfl)) pgs_nil)))) (pss_cons (ps_set (i := 7) sc__law_kit.nd rfl (.inr rfl) (pe_lc (own := [("_law_call", 9)]) (g := (gName 9)) (tt := tYes) rfl sc__law_kit.nd (pi_listK (K := K) (pv 3)) (blkOk_by (own := [("_law_call", 9)]) (N := ["_law_store", "_law_upto", "_law_most", "_law_calls_here", "_law_alike", "_law_same", "_law_mode", "_law_sizes", "_law_found", "_law_call", "_law_k", "_law_figure_here"]) (sc := defScope s__law_kit) (by decide +kernel)) (fun _ _ _ _ _ => (pg_name (i := 9) sc__law_kit.nd rfl (by first | exact .inl rfl | exact .inr rfl))) (fun _ _ _ _ _ => pts_nil) (fun _ _ _ _ _ => (pe_ifExp (pt_val (pv 5)) (pv 4) (pe_op op_add pe_int (pe_call O__law_pull (hr.mono (by decide)) (by rfl) T.g__law_pull T.F__law_pull.kp T.b__law_pull .nil pass0 (pa_cons (pv 0) (pa_cons (pe_op op_sub (pv 2) pe_int) pa_nil)))))))) (pss_cons (ps_set (i := 8) sc__law_kit.nd rfl (.inl rfl) (pe_lst pa_nil)) (pss_cons (ps_for PassesOwn.never rfl (pi_listK (K := K) (pv 3)) (pg_name (i := 9) sc__law_kit.nd rfl (.inl rfl)) (pss_cons (ps_for PassesOwn.never rfl (pi_range1 (by rfl) T.n_range (pa_cons (pe_callB (cl_lenK (K := K)) (by rfl) T.n_len (by decide +kernel) (pa_cons (pv 3) pa_nil)) pa_nil)) (pg_name (i := 10) sc__law_kit.nd rfl (.inl rfl)) (pss_cons (ps_set (i := 11) sc__law_kit.nd rfl (.inl rfl) (pe_call O__law_figure (hr.mono (by decide)) (by rfl) T.g__law_figure T.F__law_figure.kp T.b__law_figure .nil pass0 (pa_cons (pv 0) (pa_cons (pv 6) (pa_cons (pe_ix (ix_listK (K := K)) (pv 7) (pv 10) (fun _ _ => rfl)) pa_nil))))) (pss_cons (ps_if (PW.pt (pw_and (pt_cmpR op_ne (pe_ix (ix_listK (K := K)) (pv 3) (pv 10) (fun _ _ => rfl)) (pv 9) (nomark _)) (pw_and1 (pt_cmpR op_gt (pv 11) pe_int (nomark _))))) (pss_cons (ps_expr (pe_bm PySem.F.plainAttrs_list PySem.F.slot_list_append PySem.F.type_list_append mt_append (pv 8) (pa_cons (pe_tupF (pa_cons (pv 9) (pa_cons (pe_ix (ix_listK (K := K)) (pv 3) (pv 10) (fun _ _ => rfl)) (pa_cons (pv 11) pa_nil)))) pa_nil))) pss_nil) pss_nil) pss_nil))) pss_nil)) (pss_cons (ps_ret (pe_tupF (pa_cons (pe_callTy (cl_tupleK (K := K)) (by rfl) T.n_tuple (by decide +kernel) (pa_cons (pe_lc (own := [("_law_k", 10)]) (g := (gName 10)) (tt := tYes) rfl sc__law_kit.nd (pi_range1 (by rfl) T.n_range (pa_cons (pe_callB (cl_lenK (K := K)) (by rfl) T.n_len (by decide +kernel) (pa_cons (pv 3) pa_nil)) pa_nil)) (blkOk_by (own := [("_law_k", 10)]) (N := ["_law_store", "_law_upto", "_law_most", "_law_calls_here", "_law_alike", "_law_same", "_law_mode", "_law_sizes", "_law_found", "_law_call", "_law_k", "_law_figure_here"]) (sc := defScope s__law_kit) (by decide +kernel)) (fun _ _ _ _ _ => (pg_name (i := 10) sc__law_kit.nd rfl (by first | exact .inl rfl | exact .inr rfl))) (fun _ _ _ _ _ => pts_nil) (fun _ _ _ _ _ => (pe_tupF (pa_cons (pe_ix (ix_listK (K := K)) (pv 3) (pv 10) (fun _ _ => rfl)) (pa_cons (pe_ix (ix_listK (K := K)) (pv 7) (pv 10) (fun _ _ => rfl)) pa_nil))))) pa_nil)) (pa_cons (pe_callTy (cl_tupleK (K := K)) (by rfl) T.n_tuple (by decide +kernel) (pa_cons (pv 8) pa_nil)) pa_nil)))) pss_nil)))))), ?_⟩
    cases h_l_upto
    cases h_l_most
    refine nrm (σ' := [some (.ref s), some (.int a.1), some (.int a.2), none, none, none, none, none, none, none, none, none]) rfl ?_
    obtain ⟨t1, e_t1, hm⟩ := bs hm
    obtain ⟨t2, e_t2, hm⟩ := bs hm
    obtain ⟨t3, e_t3, hm⟩ := bs hm
    refine q_tupDD (σ' := fun v w => [some (.ref s), some (.int a.1), some (.int a.2), some v, some w, none, none, none, none, none, none, none]) (ev_callD (a := ((1 : Int) + t1.1)) (r := t2.1) (z' := t2.2) upd_same e_t2 (ea_cons mo_ow (ev_own rfl) (ea_d (ev_add (ev_int (K := K)) (ev_callD (a := a.1) (r := t1.1) (z' := t1.2) hs e_t1 (ea_cons mo_ow (ev_own rfl) (ea_d (ev_d (K := K) rfl (.int _)) ea_nil)))) ea_nil))) mo_dd (ev_add (ev_int (K := K)) (ev_callD (a := (a.2 - (1 : Int))) (r := t3.1) (z' := t3.2) upd_same e_t3 (ea_cons mo_ow (ev_own rfl) (ea_d (ev_sub (ev_d (K := K) rfl (.int _)) (ev_int (K := K))) ea_nil)))) mo_dd ok (fun _ _ => rfl) (fun v_l_calls_here v_l_alike G H s1 ok h_l_calls_here h_l_alike => ?_)
    have sg := sg.trans s1
    cases h_l_alike
    have ok : Ok _ (upd (upd (upd M0 s (sto t1.2)) s (sto t2.2)) s (sto t3.2)) _ := ok
    have hs : (upd (upd (upd M0 s (sto t1.2)) s (sto t2.2)) s (sto t3.2)) s = some (sto t3.2) := upd_same
    have hB : ∀ a u, a ≠ s → M0 a = some u → (upd (upd (upd M0 s (sto t1.2)) s (sto t2.2)) s (sto t3.2)) a = some u := (hB_draw (hB_draw (hB_draw hB)))
    obtain ⟨M, eM⟩ : ∃ m, m = (upd (upd (upd M0 s (sto t1.2)) s (sto t2.2)) s (sto t3.2)) := ⟨_, rfl⟩
    rw [← eM] at ok hs hB
    clear eM
    obtain ⟨t4, e_t4, hm⟩ := bs hm
    obtain ⟨t5, e_t5, hm⟩ := bs hm
    refine q_tupDD (σ' := fun v w => [some (.ref s), some (.int a.1), some (.int a.2), some v_l_calls_here, some (.int ((2 : Int) + t3.1)), some v, some w, none, none, none, none, none]) (ev_eqI (ev_callD (a := (4 : Int)) (r := t4.1) (z' := t4.2) hs e_t4 (ea_cons mo_ow (ev_own rfl) (ea_d (ev_int (K := K)) ea_nil))) (ev_int (K := K))) mo_dd (ev_callD (a := (6 : Int)) (r := t5.1) (z' := t5.2) upd_same e_t5 (ea_cons mo_ow (ev_own rfl) (ea_d (ev_int (K := K)) ea_nil))) mo_dd ok (fun _ _ => rfl) (fun v_l_same v_l_mode G H s1 ok h_l_same h_l_mode => ?_)
    have h_l_calls_here := dp_up s1 _ h_l_calls_here
    have sg := sg.trans s1
    cases h_l_same
    cases h_l_mode
    have ok : Ok _ (upd (upd M s (sto t4.2)) s (sto t5.2)) _ := ok
    have hs : (upd (upd M s (sto t4.2)) s (sto t5.2)) s = some (sto t5.2) := upd_same
    have hB : ∀ a u, a ≠ s → M0 a = some u → (upd (upd M s (sto t4.2)) s (sto t5.2)) a = some u := (hB_draw (hB_draw hB))
    obtain ⟨M, eM⟩ : ∃ m, m = (upd (upd M s (sto t4.2)) s (sto t5.2)) := ⟨_, rfl⟩
    rw [← eM] at ok hs hB
    clear eM
    obtain ⟨t14, e_t14, hm⟩ := bs hm
    refine q_set (σ' := fun v => [some (.ref s), some (.int a.1), some (.int a.2), some v_l_calls_here, some (.int ((2 : Int) + t3.1)), some (.bl (decide (t4.1 = (0 : Int)))), some (.int t5.1), some v, none, none, none, none]) (EvL.ev (el_lcMD (ea := Dat.str) (eb := Dat.int) (xs := t2.1) (r := t14) (hf := e_t14) (src_list (ev_d (K := K) rfl h_l_calls_here)) hs (fun x6 _ x6z _ Mx10 _ _ he11 sM9 hzx6 sG8 hv7 => by (obtain ⟨t13, e_t13, he11⟩ := bs he11); cases he11; exact (tg_name ⟨rfl, (ev_if (P := DD K (Dat.int t13.1)) (et_B (ev_d (K := K) rfl (.bl _))) (fun eb => by have e1 := cond_t eb e_t13; cases e1; rw [upd_back hzx6]; exact (ev_d (K := K) rfl (.int _))) (fun eb => by have e1 := cond_f eb e_t13; (obtain ⟨t12, e_t12, e1⟩ := bs e1); cases e1; exact (ev_add (ev_int (K := K)) (ev_callD (a := (a.2 - (1 : Int))) (r := t12.1) (z' := t12.2) hzx6 e_t12 (ea_cons mo_ow (ev_own rfl) (ea_d (ev_sub (ev_d (K := K) rfl (.int _)) (ev_int (K := K))) ea_nil))))))⟩)))) ok (fun _ => rfl) (fun v_l_sizes G H s1 ok h_l_sizes => ?_)
    have h_l_calls_here := dp_up s1 _ h_l_calls_here
    have sg := sg.trans s1
    have ok : Ok _ (upd M s (sto t14.2)) _ := ok
    have hs : (upd M s (sto t14.2)) s = some (sto t14.2) := upd_same
    have hB : ∀ a u, a ≠ s → M0 a = some u → (upd M s (sto t14.2)) a = some u := (hB_draw hB)
    obtain ⟨M, eM⟩ : ∃ m, m = (upd M s (sto t14.2)) := ⟨_, rfl⟩
    rw [← eM] at ok hs hB
    clear eM
    refine q_setL (σ' := fun v => [some (.ref s), some (.int a.1), some (.int a.2), some v_l_calls_here, some (.int ((2 : Int) + t3.1)), some (.bl (decide (t4.1 = (0 : Int)))), some (.int t5.1), some v_l_sizes, some v, none, none, none]) (el_lst (ea_nilD (K := K))) ok (fun _ => rfl) (fun p_l_found vs_l_found G H s1 ok hn hd_l_found => ?_)
    have h_l_calls_here := dp_up s1 _ h_l_calls_here
    have h_l_sizes := dp_up s1 _ h_l_sizes
    have sg := sg.trans s1
    have n_l_store_l_found : s ≠ p_l_found := ne_of_none hs hn
    have n_l_found_l_store := n_l_store_l_found.symm
    have h0_l_found : M0 p_l_found = none := hB_none (M := M) hB hs hn
    have hd_l_found : DqAll K G vs_l_found (([] : (List (Str × Str × Int))).map (eP3 Dat.str Dat.str Dat.int)) := hd_l_found
    have ok : Ok _ (upd M p_l_found (.lst vs_l_found)) _ := ok
    have hs : (upd M p_l_found (.lst vs_l_found)) s = some (sto t14.2) := (up_ne n_l_store_l_found hs)
    have hB : ∀ a u, a ≠ s → M0 a = some u → (upd M p_l_found (.lst vs_l_found)) a = some u := (hB_own hB h0_l_found)
    have hp_l_found : (upd M p_l_found (.lst vs_l_found)) p_l_found = some (.lst vs_l_found) := upd_same
    obtain ⟨M, eM⟩ : ∃ m, m = (upd M p_l_found (.lst vs_l_found)) := ⟨_, rfl⟩
    rw [← eM] at ok hs hB hp_l_found
    clear eM
    obtain ⟨fin15, e_fin15, hm⟩ := bs hm
    have hmo18 := hm
    refine q_forO (ea := Dat.str) (src_list (ev_d (K := K) rfl h_l_calls_here)) ok (fun (st16 : (List (Str × Str × Int)) × Sto) σ1 G1 M1 => ∃ (y_l_k : Option V) (y_l_figure_here : Option V) (y_l_call : Option V) (vs_l_found : List V), σ1 = [some (.ref s), some (.int a.1), some (.int a.2), some v_l_calls_here, some (.int ((2 : Int) + t3.1)), some (.bl (decide (t4.1 = (0 : Int)))), some (.int t5.1), some v_l_sizes, some (.ref p_l_found), y_l_call, y_l_k, y_l_figure_here] ∧ (DqAll K G1 vs_l_found (st16.1.map (eP3 Dat.str Dat.str Dat.int))) ∧ (M1 p_l_found = some (.lst vs_l_found)) ∧ (M1 s = some (sto st16.2)) ∧ (∀ a u, a ≠ s → M0 a = some u → M1 a = some u)) e_fin15 (fun G1 s1 => ⟨_, _, _, _, rfl, dpAll_up s1 _ hd_l_found, hp_l_found, hs, hB⟩) (by rintro _ _ _ _ _ ⟨y_l_k, y_l_figure_here, y_l_call, vs_l_found, rfl, hd_l_found, hp_l_found, hs, hB⟩ s2; exact ⟨_, _, _, _, rfl, dpAll_up s2 _ hd_l_found, hp_l_found, hs, hB⟩) (fun x17 xv20 st16 st' σ1 G M H N hm hj s1 ok hv hN => ?_) (fun σ1 G M H s1 ok hj => ?_)
    · obtain ⟨y_l_k, y_l_figure_here, y_l_call, vs_l_found, rfl, hd_l_found, hp_l_found, hs, hB⟩ := hj
      have h_l_calls_here := dp_up s1 _ h_l_calls_here
      have h_l_sizes := dp_up s1 _ h_l_sizes
      have sg := sg.trans s1
      have sl21 := Same.refl G
      refine gn ?_
      have h_l_call := hv
      refine nrm (σ' := [some (.ref s), some (.int a.1), some (.int a.2), some v_l_calls_here, some (.int ((2 : Int) + t3.1)), some (.bl (decide (t4.1 = (0 : Int)))), some (.int t5.1), some v_l_sizes, some (.ref p_l_found), some xv20, y_l_k, y_l_figure_here]) rfl ?_
      obtain ⟨t22, e_t22, hm⟩ := bs hm
      obtain ⟨fin23, e_fin23, hm⟩ := bs hm
      have hmo26 := hm
      refine q_forO (ea := Dat.int) (src_rngO e_t22 (ea_d (ev_lenLM (e := Dat.str) (ea_d (ev_d (K := K) rfl h_l_calls_here) ea_nil)) ea_nil)) ok (fun (st24 : (List (Str × Str × Int)) × Sto) σ1 G1 M1 => ∃ (y_l_figure_here : Option V) (y_l_k : Option V) (vs_l_found : List V), σ1 = [some (.ref s), some (.int a.1), some (.int a.2), some v_l_calls_here, some (.int ((2 : Int) + t3.1)), some (.bl (decide (t4.1 = (0 : Int)))), some (.int t5.1), some v_l_sizes, some (.ref p_l_found), some xv20, y_l_k, y_l_figure_here] ∧ (DqAll K G1 vs_l_found (st24.1.map (eP3 Dat.str Dat.str Dat.int))) ∧ (M1 p_l_found = some (.lst vs_l_found)) ∧ (M1 s = some (sto st24.2)) ∧ (∀ a u, a ≠ s → M0 a = some u → M1 a = some u)) e_fin23 (fun G1 s1 => ⟨_, _, _, rfl, dpAll_up s1 _ hd_l_found, hp_l_found, hs, hB⟩) (by rintro _ _ _ _ _ ⟨y_l_figure_here, y_l_k, vs_l_found, rfl, hd_l_found, hp_l_found, hs, hB⟩ s2; exact ⟨_, _, _, rfl, dpAll_up s2 _ hd_l_found, hp_l_found, hs, hB⟩) (fun x25 xv28 st24 st' σ1 G M H N hm hj s1 ok hv hN => ?_) (fun σ1 G M H s1 ok hj => ?_)
      · obtain ⟨y_l_figure_here, y_l_k, vs_l_found, rfl, hd_l_found, hp_l_found, hs, hB⟩ := hj
        have h_l_calls_here := dp_up s1 _ h_l_calls_here
        have h_l_sizes := dp_up s1 _ h_l_sizes
        have h_l_call := dp_up s1 _ h_l_call
        have sg := sg.trans s1
        have sl21 := sl21.trans s1
        have sl29 := Same.refl G
        refine gn ?_
        have h_l_k := hv
        cases h_l_k
        refine nrm (σ' := [some (.ref s), some (.int a.1), some (.int a.2), some v_l_calls_here, some (.int ((2 : Int) + t3.1)), some (.bl (decide (t4.1 = (0 : Int)))), some (.int t5.1), some v_l_sizes, some (.ref p_l_found), some xv20, some (.int x25), y_l_figure_here]) rfl ?_
        obtain ⟨t30, e_t30, hm⟩ := bs hm
        obtain ⟨t31, e_t31, hm⟩ := bs hm
        refine q_set (σ' := fun v => [some (.ref s), some (.int a.1), some (.int a.2), some v_l_calls_here, some (.int ((2 : Int) + t3.1)), some (.bl (decide (t4.1 = (0 : Int)))), some (.int t5.1), some v_l_sizes, some (.ref p_l_found), some xv20, some (.int x25), some v]) (ev_callD (a := (t5.1, t30)) (r := t31.1) (z' := t31.2) hs e_t31 (ea_cons mo_ow (ev_own rfl) (ea_d (ev_d (K := K) rfl (.int _)) (ea_d (ev_ixLM (e := Dat.int) e_t30 (ev_d (K := K) rfl h_l_sizes) (ev_d (K := K) rfl (.int _))) ea_nil)))) ok (fun _ => rfl) (fun v_l_figure_here G H s1 ok h_l_figure_here => ?_)
        have h_l_calls_here := dp_up s1 _ h_l_calls_here
        have h_l_sizes := dp_up s1 _ h_l_sizes
        have hd_l_found := dpAll_up s1 _ hd_l_found
        have h_l_call := dp_up s1 _ h_l_call
        have sg := sg.trans s1
        have sl29 := sl29.trans s1
        have sl21 := sl21.trans s1
        cases h_l_figure_here
        have ok : Ok _ (upd M s (sto t31.2)) _ := ok
        have hs : (upd M s (sto t31.2)) s = some (sto t31.2) := upd_same
        have hB : ∀ a u, a ≠ s → M0 a = some u → (upd M s (sto t31.2)) a = some u := (hB_draw hB)
        have hp_l_found : (upd M s (sto t31.2)) p_l_found = some (.lst vs_l_found) := (up_ne n_l_found_l_store hp_l_found)
        obtain ⟨M, eM⟩ : ∃ m, m = (upd M s (sto t31.2)) := ⟨_, rfl⟩
        rw [← eM] at ok hs hB hp_l_found
        clear eM
        obtain ⟨t32, e_t32, hm⟩ := bs hm
        refine q_if (et_and (et_test (ev_neS (ev_ixLM (e := Dat.str) e_t32 (ev_d (K := K) rfl h_l_calls_here) (ev_d (K := K) rfl (.int _))) (ev_d (K := K) rfl h_l_call))) fun _ => (et_test (ev_gt (ev_d (K := K) rfl (.int _)) (ev_int (K := K))))) ok (fun hb G H s1 ok => ?_) (fun hb G H s1 ok => ?_)
        · have hm := cond_t hb hm
          have h_l_calls_here := dp_up s1 _ h_l_calls_here
          have h_l_sizes := dp_up s1 _ h_l_sizes
          have hd_l_found := dpAll_up s1 _ hd_l_found
          have h_l_call := dp_up s1 _ h_l_call
          have sg := sg.trans s1
          have sl29 := sl29.trans s1
          have sl21 := sl21.trans s1
          obtain ⟨t33, e_t33, hm⟩ := bs hm
          obtain ⟨t34, e_t34, hm⟩ := bs hm
          obtain ⟨hl_t34, ea_t34⟩ := appO_of e_t34
          refine q_append (ev_own rfl) (ea_d (ev_tup (ea_consD (ev_d (K := K) rfl h_l_call) (ea_consD (ev_ixLM (e := Dat.str) e_t33 (ev_d (K := K) rfl h_l_calls_here) (ev_d (K := K) rfl (.int _))) (ea_consD (ev_d (K := K) rfl (.int _)) (ea_nilD (K := K)))))) ea_nil) hp_l_found hp_l_found (by rw [dpAll_len hd_l_found, List.length_map]; exact szlt hl_t34) ok (fun v G H s1 ok hv => ?_)
          have h_l_calls_here := dp_up s1 _ h_l_calls_here
          have h_l_sizes := dp_up s1 _ h_l_sizes
          have hd_l_found := dpAll_up s1 _ hd_l_found
          have h_l_call := dp_up s1 _ h_l_call
          have sg := sg.trans s1
          have sl29 := sl29.trans s1
          have sl21 := sl21.trans s1
          have hd_l_found : DqAll K G (vs_l_found ++ [v]) (t34.map (eP3 Dat.str Dat.str Dat.int)) := by rw [ea_t34, List.map_append]; exact dpAll_app hd_l_found (.cons hv .nil)
          have ok : Ok _ (upd M p_l_found (.lst (vs_l_found ++ [v]))) _ := ok
          have hs : (upd M p_l_found (.lst (vs_l_found ++ [v]))) s = some (sto t31.2) := (up_ne n_l_store_l_found hs)
          have hB : ∀ a u, a ≠ s → M0 a = some u → (upd M p_l_found (.lst (vs_l_found ++ [v]))) a = some u := (hB_own hB h0_l_found)
          have hp_l_found : (upd M p_l_found (.lst (vs_l_found ++ [v]))) p_l_found = some (.lst (vs_l_found ++ [v])) := upd_same
          obtain ⟨M, eM⟩ : ∃ m, m = (upd M p_l_found (.lst (vs_l_found ++ [v]))) := ⟨_, rfl⟩
          rw [← eM] at ok hs hB hp_l_found
          clear eM
          obtain ⟨vs_l_found, e_vs⟩ : ∃ m, m = (vs_l_found ++ [v]) := ⟨_, rfl⟩
          rw [← e_vs] at hp_l_found hd_l_found
          clear e_vs
          refine q_nilU ?_
          refine q_nil ?_
          cases hm
          exact hN _ _ _ _ sl29 ok ⟨_, _, _, rfl, hd_l_found, hp_l_found, hs, hB⟩
        · have hm := cond_f hb hm
          have h_l_calls_here := dp_up s1 _ h_l_calls_here
          have h_l_sizes := dp_up s1 _ h_l_sizes
          have hd_l_found := dpAll_up s1 _ hd_l_found
          have h_l_call := dp_up s1 _ h_l_call
          have sg := sg.trans s1
          have sl29 := sl29.trans s1
          have sl21 := sl21.trans s1
          refine q_nilU ?_
          refine q_nil ?_
          cases hm
          exact hN _ _ _ _ sl29 ok ⟨_, _, _, rfl, hd_l_found, hp_l_found, hs, hB⟩
      · obtain ⟨y_l_figure_here, y_l_k, vs_l_found, rfl, hd_l_found, hp_l_found, hs, hB⟩ := hj
        have h_l_calls_here := dp_up s1 _ h_l_calls_here
        have h_l_sizes := dp_up s1 _ h_l_sizes
        have h_l_call := dp_up s1 _ h_l_call
        have sg := sg.trans s1
        have sl21 := sl21.trans s1
        refine q_nil ?_
        cases hm
        exact hN _ _ _ _ sl21 ok ⟨_, _, _, _, rfl, hd_l_found, hp_l_found, hs, hB⟩
    · obtain ⟨y_l_k, y_l_figure_here, y_l_call, vs_l_found, rfl, hd_l_found, hp_l_found, hs, hB⟩ := hj
      have h_l_calls_here := dp_up s1 _ h_l_calls_here
      have h_l_sizes := dp_up s1 _ h_l_sizes
      have sg := sg.trans s1
      obtain ⟨t35, e_t35, hm⟩ := bs hm
      obtain ⟨t44, e_t44, hm⟩ := bs hm
      refine q_ret (ev_tup (ea_consD (ev_tupL (ea_d (EvL.ev (el_lcM (ea := Dat.int) (eb := (eP2 Dat.str Dat.int)) (xs := t35) (ys := t44) (hf := e_t44) (src_rngO e_t35 (ea_d (ev_lenLM (e := Dat.str) (ea_d (ev_d (K := K) rfl h_l_calls_here) ea_nil)) ea_nil)) (fun x36 _ Mx40 _ _ he41 sM39 sG38 hv37 => by (obtain ⟨t42, e_t42, he41⟩ := bs he41); (obtain ⟨t43, e_t43, he41⟩ := bs he41); cases he41; exact (tg_name ⟨rfl, (ev_tup (ea_consD (ev_ixLM (e := Dat.str) e_t42 (ev_d (K := K) rfl (dp_up sG38 _ h_l_calls_here)) (ev_d (K := K) rfl hv37)) (ea_consD (ev_ixLM (e := Dat.int) e_t43 (ev_d (K := K) rfl (dp_up sG38 _ h_l_sizes)) (ev_d (K := K) rfl hv37)) (ea_nilD (K := K)))))⟩)))) ea_nil)) (ea_consD (ev_tupO hp_l_found hd_l_found (ea_cons mo_ow (ev_own rfl) ea_nil)) (ea_nilD (K := K))))) ok (fun v G H s1 ok hv => ?_)
      have sg := sg.trans s1
      cases hm
      exact q v G H sg (ok.less (same_fin hB hs)) hv
/-! ### _law_sort -/
theorem sc__law_sort : FnScope ["_law_e", "_law_kinds", "_law_at", "_law_family", "_law_homes", "_law_outer", "_law_words", "_law_k"] ["_law_e"] (defScope s__law_sort) := ⟨rfl, rfl, rfl, by decide +kernel, rfl, by decide +kernel, by decide +kernel⟩
def a__law_sort (K : PySem.W.Frag) (p : Addr) (d : Option Addr) (a : Dat) : List V → Hp → Prop := conP (XP K p d "NoText" (some ("row", a))) (nilP)
def m__law_sort (a : Dat) : Option Str :=
  (catO ([false, false, false, true] : (List Bool)) ([false, false, false, false] : (List Bool))).bind fun t1 => (catO t1 ([false, false, false] : (List Bool))).bind fun t2 => (catO t2 ([false, false, false] : (List Bool))).bind fun t3 => (catO t3 ([false, false, false, false] : (List Bool))).bind fun t4 => (catO t4 ([false, false, false, false] : (List Bool))).bind fun t5 => (appO t5 false).bind fun t6 => cond (!decide ((cntE true t6 : Int) = (1 : Int))) (some (Str.ofString "other")) ((idxE true t6).bind fun t7 => (rngO (3 : Int)).bind fun t8 => (lcO (fun x9 : Int => some (decide (x9 = ((if (decide ((18 : Int) < (t7 : Int))) then 1 else 0 : Int) + (if (decide ((21 : Int) < (t7 : Int))) then 1 else 0 : Int))))) t8).bind fun t15 => cond ((!decide (([true, false, false] : (List Bool)) = t15)) || (!decide (([true, false, false] : (List Bool)) = ([true, false, false] : (List Bool))))) (some (Str.ofString "other")) ((catO ([(Str.ofString "peal"), (Str.ofString "bells"), (Str.ofString "notches"), (Str.ofString "text"), (Str.ofString "standing"), (Str.ofString "row"), (Str.ofString "dials"), (Str.ofString "rings"), (Str.ofString "course"), (Str.ofString "number"), (Str.ofString "moduli")] : (List Str)) ([(Str.ofString "vectors"), (Str.ofString "vector"), (Str.ofString "weights"), (Str.ofString "truth"), (Str.ofString "histories"), (Str.ofString "deed"), (Str.ofString "log"), (Str.ofString "say"), (Str.ofString "name"), (Str.ofString "place")] : (List Str))).bind fun t16 => (catO t16 ([(Str.ofString "back"), (Str.ofString "many")] : (List Str))).bind fun t17 => (atI t17 (t7 : Int)).bind fun t18 => some t18))
abbrev sp__law_sort [Tb] (K : PySem.W.Frag) : Addr → Value → Option Addr → Sp := spS K "NoText" (a__law_sort K) m__law_sort fun r => DD K (Dat.str r)
theorem ok__law_sort [Tb] {P : Program} {w : World} {K : PySem.W.Frag} {mg : Str → Option Value} {base : Heap} (T : Txt K mg) : FnE P w K mg base CX0 (1) T.a__law_sort T.d__law_sort ["_law_e"] (sp__law_sort K) := by
  refine okE T.F__law_sort sc__law_sort (fun e cls d vs H Q E h => ?_) (fun cdv A outer s0 H vs Q E p cls d hgd hot hz hr h => ?_)
  · obtain ⟨rfl, G, M0, a, r, ok, ⟨v_l_e, _, rfl, h_l_e, rfl⟩, hm, q⟩ := h
    rfl
  · obtain ⟨rfl, G, M0, a, r, ok, ⟨v_l_e, _, rfl, h_l_e, rfl⟩, hm, q⟩ := h
    unfold m__law_sort at hm
    have sg := Same.refl G
    have hB := Same.refl M0
    refine ⟨_, (pss_cons (ps_set (i := 1) sc__law_sort.nd rfl (.inl rfl) (pe_lst (pa_cons (pe_callB (call_isP List.mem_cons_self T.ec_NoText hz (Hot1.flds hot)) (by rfl) T.n_isinstance (by decide +kernel) (pa_cons (pv 0) (pa_cons (pe_glob (v := .ref (clsAt K "NoPeal")) (by rfl) T.mc_NoPeal rfl) pa_nil))) (pa_cons (pe_callB (call_isP List.mem_cons_self T.ec_NoText hz (Hot1.flds hot)) (by rfl) T.n_isinstance (by decide +kernel) (pa_cons (pv 0) (pa_cons (pe_glob (v := .ref (clsAt K "NoBells")) (by rfl) T.mc_NoBells rfl) pa_nil))) (pa_cons (pe_callB (call_isP List.mem_cons_self T.ec_NoText hz (Hot1.flds hot)) (by rfl) T.n_isinstance (by decide +kernel) (pa_cons (pv 0) (pa_cons (pe_glob (v := .ref (clsAt K "NoNotches")) (by rfl) T.mc_NoNotches rfl) pa_nil))) (pa_cons (pe_callB (call_isP List.mem_cons_self T.ec_NoText hz (Hot1.flds hot)) (by rfl) T.n_isinstance (by decide +kernel) (pa_cons (pv 0) (pa_cons (pe_glob (v := .ref (clsAt K "NoText")) (by rfl) T.mc_NoText rfl) pa_nil))) pa_nil)))))) (pss_cons (ps_set (i := 1) sc__law_sort.nd rfl (.inl rfl) (pe_op op_cat (pv 1) (pe_lst (pa_cons (pe_callB (call_isP List.mem_cons_self T.ec_NoText hz (Hot1.flds hot)) (by rfl) T.n_isinstance (by decide +kernel) (pa_cons (pv 0) (pa_cons (pe_glob (v := .ref (clsAt K "NoStanding")) (by rfl) T.mc_NoStanding rfl) pa_nil))) (pa_cons (pe_callB (call_isP List.mem_cons_self T.ec_NoText hz (Hot1.flds hot)) (by rfl) T.n_isinstance (by decide +kernel) (pa_cons (pv 0) (pa_cons (pe_glob (v := .ref (clsAt K "NoRow")) (by rfl) T.mc_NoRow rfl) pa_nil))) (pa_cons (pe_callB (call_isP List.mem_cons_self T.ec_NoText hz (Hot1.flds hot)) (by rfl) T.n_isinstance (by decide +kernel) (pa_cons (pv 0) (pa_cons (pe_glob (v := .ref (clsAt K "NoDials")) (by rfl) T.mc_NoDials rfl) pa_nil))) (pa_cons (pe_callB (call_isP List.mem_cons_self T.ec_NoText hz (Hot1.flds hot)) (by rfl) T.n_isinstance (by decide +kernel) (pa_cons (pv 0) (pa_cons (pe_glob (v := .ref (clsAt K "NoRings")) (by rfl) T.mc_NoRings rfl) pa_nil))) pa_nil))))))) (pss_cons (ps_set (i := 1) sc__law_sort.nd rfl (.inl rfl) (pe_op op_cat (pv 1) (pe_lst (pa_cons (pe_callB (call_isP List.mem_cons_self T.ec_NoText hz (Hot1.flds hot)) (by rfl) T.n_isinstance (by decide +kernel) (pa_cons (pv 0) (pa_cons (pe_glob (v := .ref (clsAt K "NoCourse")) (by rfl) T.mc_NoCourse rfl) pa_nil))) (pa_cons (pe_callB (call_isP List.mem_cons_self T.ec_NoText hz (Hot1.flds hot)) (by rfl) T.n_isinstance (by decide +kernel) (pa_cons (pv 0) (pa_cons (pe_glob (v := .ref (clsAt K "NoNumber")) (by rfl) T.mc_NoNumber rfl) pa_nil))) (pa_cons (pe_callB (call_isP List.mem_cons_self T.ec_NoText hz (Hot1.flds hot)) (by rfl) T.n_isinstance (by decide +kernel) (pa_cons (pv 0) (pa_cons (pe_glob (v := .ref (clsAt K "NoModuli")) (by rfl) T.mc_NoModuli rfl) pa_nil))) pa_nil)))))) (pss_cons (ps_set (i := 1) sc__law_sort.nd rfl (.inl rfl) (pe_op op_cat (pv 1) (pe_lst (pa_cons (pe_callB (call_isP List.mem_cons_self T.ec_NoText hz (Hot1.flds hot)) (by rfl) T.n_isinstance (by decide +kernel) (pa_cons (pv 0) (pa_cons (pe_glob (v := .ref (clsAt K "NoVectors")) (by rfl) T.mc_NoVectors rfl) pa_nil))) (pa_cons (pe_callB (call_isP List.mem_cons_self T.ec_NoText hz (Hot1.flds hot)) (by rfl) T.n_isinstance (by decide +kernel) (pa_cons (pv 0) (pa_cons (pe_glob (v := .ref (clsAt K "NoVector")) (by rfl) T.mc_NoVector rfl) pa_nil))) (pa_cons (pe_callB (call_isP List.mem_cons_self T.ec_NoText hz (Hot1.flds hot)) (by rfl) T.n_isinstance (by decide +kernel) (pa_cons (pv 0) (pa_cons (pe_glob (v := .ref (clsAt K "NoWeights")) (by rfl) T.mc_NoWeights rfl) pa_nil))) pa_nil)))))) (pss_cons (ps_set (i := 1) sc__law_sort.nd rfl (.inl rfl) (pe_op op_cat (pv 1) (pe_lst (pa_cons (pe_callB (call_isP List.mem_cons_self T.ec_NoText hz (Hot1.flds hot)) (by rfl) T.n_isinstance (by decide +kernel) (pa_cons (pv 0) (pa_cons (pe_glob (v := .ref (clsAt K "NoTruth")) (by rfl) T.mc_NoTruth rfl) pa_nil))) (pa_cons (pe_callB (call_isP List.mem_cons_self T.ec_NoText hz (Hot1.flds hot)) (by rfl) T.n_isinstance (by decide +kernel) (pa_cons (pv 0) (pa_cons (pe_glob (v := .ref (clsAt K "NoHistories")) (by rfl) T.mc_NoHistories rfl) pa_nil))) (pa_cons (pe_callB (call_isP List.mem_cons_self T.ec_NoText hz (Hot1.flds hot)) (by rfl) T.n_isinstance (by decide +kernel) (pa_cons (pv 0) (pa_cons (pe_glob (v := .ref (clsAt K "NoDeed")) (by rfl) T.mc_NoDeed rfl) pa_nil))) (pa_cons (pe_callB (call_isP List.mem_cons_self T.ec_NoText hz (Hot1.flds hot)) (by rfl) T.n_isinstance (by decide +kernel) (pa_cons (pv 0) (pa_cons (pe_glob (v := .ref (clsAt K "NoLog")) (by rfl) T.mc_NoLog rfl) pa_nil))) pa_nil))))))) (pss_cons (ps_set (i := 1) sc__law_sort.nd rfl (.inl rfl) (pe_op op_cat (pv 1) (pe_lst (pa_cons (pe_callB (call_isP List.mem_cons_self T.ec_NoText hz (Hot1.flds hot)) (by rfl) T.n_isinstance (by decide +kernel) (pa_cons (pv 0) (pa_cons (pe_glob (v := .ref (clsAt K "NoSay")) (by rfl) T.mc_NoSay rfl) pa_nil))) (pa_cons (pe_callB (call_isP List.mem_cons_self T.ec_NoText hz (Hot1.flds hot)) (by rfl) T.n_isinstance (by decide +kernel) (pa_cons (pv 0) (pa_cons (pe_glob (v := .ref (clsAt K "NoName")) (by rfl) T.mc_NoName rfl) pa_nil))) (pa_cons (pe_callB (call_isP List.mem_cons_self T.ec_NoText hz (Hot1.flds hot)) (by rfl) T.n_isinstance (by decide +kernel) (pa_cons (pv 0) (pa_cons (pe_glob (v := .ref (clsAt K "NoPlace")) (by rfl) T.mc_NoPlace rfl) pa_nil))) (pa_cons (pe_callB (call_isP List.mem_cons_self T.ec_NoText hz (Hot1.flds hot)) (by rfl) T.n_isinstance (by decide +kernel) (pa_cons (pv 0) (pa_cons (pe_glob (v := .ref (clsAt K "NoBack")) (by rfl) T.mc_NoBack rfl) pa_nil))) pa_nil))))))) (pss_cons (ps_expr (pe_bm PySem.F.plainAttrs_list PySem.F.slot_list_append PySem.F.type_list_append mt_append (pv 1) (pa_cons (pe_callB (call_isP List.mem_cons_self T.ec_NoText hz (Hot1.flds hot)) (by rfl) T.n_isinstance (by decide +kernel) (pa_cons (pv 0) (pa_cons (pe_glob (v := .ref (clsAt K "TooMany")) (by rfl) T.mc_TooMany rfl) pa_nil))) pa_nil))) (pss_cons (ps_if (pt_cmpR op_ne (pe_bm PySem.F.plainAttrs_list PySem.F.slot_list_count PySem.F.type_list_count (mt_countDK (K := K) hr.un65) (pv 1) (pa_cons pe_bl pa_nil)) pe_int (nomark _)) (pss_cons (ps_ret pe_str) pss_nil) pss_nil) (pss_cons (ps_set (i := 2) sc__law_sort.nd rfl (.inl rfl) (pe_bm PySem.F.plainAttrs_list PySem.F.slot_list_index PySem.F.type_list_index (mt_indexDK (K := K) hr.un65) (pv 1) (pa_cons pe_bl pa_nil))) (pss_cons (ps_set (i := 3) sc__law_sort.nd rfl (.inr rfl) (pe_op op_add (pe_callTy cl_int (by rfl) T.n_int (by decide +kernel) (pa_cons (pe_cmpR op_gt (pv 2) pe_int (nomark _)) pa_nil)) (pe_callTy cl_int (by rfl) T.n_int (by decide +kernel) (pa_cons (pe_cmpR op_gt (pv 2) pe_int (nomark _)) pa_nil)))) (pss_cons (ps_set (i := 4) sc__law_sort.nd rfl (.inl rfl) (pe_lst (pa_cons (pe_callB (call_isP List.mem_cons_self T.ec_NoText hz (Hot1.flds hot)) (by rfl) T.n_isinstance (by decide +kernel) (pa_cons (pv 0) (pa_cons (pe_glob (v := .ref (clsAt K "BellError")) (by rfl) T.mc_BellError rfl) pa_nil))) (pa_cons (pe_callB (call_isP List.mem_cons_self T.ec_NoText hz (Hot1.flds hot)) (by rfl) T.n_isinstance (by decide +kernel) (pa_cons (pv 0) (pa_cons (pe_glob (v := .ref (clsAt K "LostError")) (by rfl) T.mc_LostError rfl) pa_nil))) (pa_cons (pe_callB (call_isP List.mem_cons_self T.ec_NoText hz (Hot1.flds hot)) (by rfl) T.n_isinstance (by decide +kernel) (pa_cons (pv 0) (pa_cons (pe_glob (v := .ref (clsAt K "GreatError")) (by rfl) T.mc_GreatError rfl) pa_nil))) pa_nil))))) (pss_cons (ps_set (i := 5) sc__law_sort.nd rfl (.inl rfl) (pe_lst (pa_cons (pe_callB (call_isP List.mem_cons_self T.ec_NoText hz (Hot1.flds hot)) (by rfl) T.n_isinstance (by decide +kernel) (pa_cons (pv 0) (pa_cons (pe_bltn (v := .ty "ValueError") (by rfl) T.n_ValueError (by decide +kernel) rfl) pa_nil))) (pa_cons (pe_callB (call_isP List.mem_cons_self T.ec_NoText hz (Hot1.flds hot)) (by rfl) T.n_isinstance (by decide +kernel) (pa_cons (pv 0) (pa_cons (pe_bltn (v := .ty "LookupError") (by rfl) T.n_LookupError (by decide +kernel) rfl) pa_nil))) (pa_cons (pe_callB (call_isP List.mem_cons_self T.ec_NoText hz (Hot1.flds hot)) (by rfl) T.n_isinstance (by decide +kernel) (pa_cons (pv 0) (pa_cons (pe_bltn (v := .ty "ArithmeticError") (by rfl) T.n_ArithmeticError (by decide +kernel) rfl) pa_nil))) pa_nil))))) (pss_cons (ps_if (PW.pt (pw_or (pt_cmpR (op_neDK (K := K) hr.units) (pv 4) (pe_lcH (own := [("_law_k", 7)]) (g := (gName 7)) (tt := tYes) hot List.mem_cons_self sc__law_sort.nd (by rfl) T.n_range (pa_cons pe_int pa_nil) (blkOk_by (own := [("_law_k", 7)]) (N := ["_law_e", "_law_kinds", "_law_at", "_law_family", "_law_homes", "_law_outer", "_law_words", "_law_k"]) (sc := defScope s__law_sort) (by decide +kernel)) (fun _ _ _ _ _ => (pg_name (i := 7) sc__law_sort.nd rfl (by first | exact .inl rfl | exact .inr rfl))) (fun _ _ _ _ _ => pts_nil) (fun _ _ _ _ _ => (pe_cmpR op_eq (pv 7) (pv 3) (nomark _)))) (nomark _)) (pw_or1 (pt_cmpR (op_neDK (K := K) hr.units) (pv 5) (pv 4) (nomark _))))) (pss_cons (ps_ret pe_str) pss_nil) pss_nil) (pss_cons (ps_set (i := 6) sc__law_sort.nd rfl (.inl rfl) (pe_lst (pa_cons pe_str (pa_cons pe_str (pa_cons pe_str (pa_cons pe_str (pa_cons pe_str (pa_cons pe_str (pa_cons pe_str (pa_cons pe_str (pa_cons pe_str (pa_cons pe_str (pa_cons pe_str pa_nil))))))))))))) (pss_cons (ps_set (i := 6) sc__law_sort.nd rfl (.inl rfl) (pe_op op_cat (pv 6) (pe_lst (pa_cons pe_str (pa_cons pe_str (pa_cons pe_str (pa_cons pe_str (pa_cons pe_str (pa_cons pe_str (pa_cons pe_str (pa_cons pe_str (pa_cons pe_str (pa_cons pe_str pa_nil))))))))))))) (pss_cons (ps_ret (pe_ix (ix_listK (K := K)) (pe_op op_cat (pv 6) (pe_lst (pa_cons pe_str (pa_cons pe_str pa_nil)))) (pv 2) (fun _ _ => rfl))) pss_nil)))))))))))))))), ?_⟩
    refine nrm (σ' := [some v_l_e, none, none, none, none, none, none, none]) rfl ?_
    refine q_set (σ' := fun v => [some v_l_e, some v, none, none, none, none, none, none]) (EvL.ev (el_lst (ea_consD (ev_isX T.kx_NoText_NoPeal (ea_cons mo_xp (ev_x (K := K) rfl h_l_e) (ea_cons mo_clx ev_clx ea_nil))) (ea_consD (ev_isX T.kx_NoText_NoBells (ea_cons mo_xp (ev_x (K := K) rfl h_l_e) (ea_cons mo_clx ev_clx ea_nil))) (ea_consD (ev_isX T.kx_NoText_NoNotches (ea_cons mo_xp (ev_x (K := K) rfl h_l_e) (ea_cons mo_clx ev_clx ea_nil))) (ea_consD (ev_isX T.kx_NoText_NoText (ea_cons mo_xp (ev_x (K := K) rfl h_l_e) (ea_cons mo_clx ev_clx ea_nil))) (ea_nilD (K := K)))))))) ok (fun _ => rfl) (fun v_l_kinds G H s1 ok h_l_kinds => ?_)
    have h_l_e := mo_xp _ _ _ s1 h_l_e
    have sg := sg.trans s1
    obtain ⟨t1, e_t1, hm⟩ := bs hm
    refine q_set (σ' := fun v => [some v_l_e, some v, none, none, none, none, none, none]) (EvL.ev (el_catO (e := Dat.bool) e_t1 (ev_d (K := K) rfl h_l_kinds) (EvL.ev (el_lst (ea_consD (ev_isX T.kx_NoText_NoStanding (ea_cons mo_xp (ev_x (K := K) rfl h_l_e) (ea_cons mo_clx ev_clx ea_nil))) (ea_consD (ev_isX T.kx_NoText_NoRow (ea_cons mo_xp (ev_x (K := K) rfl h_l_e) (ea_cons mo_clx ev_clx ea_nil))) (ea_consD (ev_isX T.kx_NoText_NoDials (ea_cons mo_xp (ev_x (K := K) rfl h_l_e) (ea_cons mo_clx ev_clx ea_nil))) (ea_consD (ev_isX T.kx_NoText_NoRings (ea_cons mo_xp (ev_x (K := K) rfl h_l_e) (ea_cons mo_clx ev_clx ea_nil))) (ea_nilD (K := K)))))))))) ok (fun _ => rfl) (fun v_l_kinds G H s1 ok h_l_kinds => ?_)
    have h_l_e := mo_xp _ _ _ s1 h_l_e
    have sg := sg.trans s1
    obtain ⟨t2, e_t2, hm⟩ := bs hm
    refine q_set (σ' := fun v => [some v_l_e, some v, none, none, none, none, none, none]) (EvL.ev (el_catO (e := Dat.bool) e_t2 (ev_d (K := K) rfl h_l_kinds) (EvL.ev (el_lst (ea_consD (ev_isX T.kx_NoText_NoCourse (ea_cons mo_xp (ev_x (K := K) rfl h_l_e) (ea_cons mo_clx ev_clx ea_nil))) (ea_consD (ev_isX T.kx_NoText_NoNumber (ea_cons mo_xp (ev_x (K := K) rfl h_l_e) (ea_cons mo_clx ev_clx ea_nil))) (ea_consD (ev_isX T.kx_NoText_NoModuli (ea_cons mo_xp (ev_x (K := K) rfl h_l_e) (ea_cons mo_clx ev_clx ea_nil))) (ea_nilD (K := K))))))))) ok (fun _ => rfl) (fun v_l_kinds G H s1 ok h_l_kinds => ?_)
    have h_l_e := mo_xp _ _ _ s1 h_l_e
    have sg := sg.trans s1
    obtain ⟨t3, e_t3, hm⟩ := bs hm
    refine q_set (σ' := fun v => [some v_l_e, some v, none, none, none, none, none, none]) (EvL.ev (el_catO (e := Dat.bool) e_t3 (ev_d (K := K) rfl h_l_kinds) (EvL.ev (el_lst (ea_consD (ev_isX T.kx_NoText_NoVectors (ea_cons mo_xp (ev_x (K := K) rfl h_l_e) (ea_cons mo_clx ev_clx ea_nil))) (ea_consD (ev_isX T.kx_NoText_NoVector (ea_cons mo_xp (ev_x (K := K) rfl h_l_e) (ea_cons mo_clx ev_clx ea_nil))) (ea_consD (ev_isX T.kx_NoText_NoWeights (ea_cons mo_xp (ev_x (K := K) rfl h_l_e) (ea_cons mo_clx ev_clx ea_nil))) (ea_nilD (K := K))))))))) ok (fun _ => rfl) (fun v_l_kinds G H s1 ok h_l_kinds => ?_)
    have h_l_e := mo_xp _ _ _ s1 h_l_e
    have sg := sg.trans s1
    obtain ⟨t4, e_t4, hm⟩ := bs hm
    refine q_set (σ' := fun v => [some v_l_e, some v, none, none, none, none, none, none]) (EvL.ev (el_catO (e := Dat.bool) e_t4 (ev_d (K := K) rfl h_l_kinds) (EvL.ev (el_lst (ea_consD (ev_isX T.kx_NoText_NoTruth (ea_cons mo_xp (ev_x (K := K) rfl h_l_e) (ea_cons mo_clx ev_clx ea_nil))) (ea_consD (ev_isX T.kx_NoText_NoHistories (ea_cons mo_xp (ev_x (K := K) rfl h_l_e) (ea_cons mo_clx ev_clx ea_nil))) (ea_consD (ev_isX T.kx_NoText_NoDeed (ea_cons mo_xp (ev_x (K := K) rfl h_l_e) (ea_cons mo_clx ev_clx ea_nil))) (ea_consD (ev_isX T.kx_NoText_NoLog (ea_cons mo_xp (ev_x (K := K) rfl h_l_e) (ea_cons mo_clx ev_clx ea_nil))) (ea_nilD (K := K)))))))))) ok (fun _ => rfl) (fun v_l_kinds G H s1 ok h_l_kinds => ?_)
    have h_l_e := mo_xp _ _ _ s1 h_l_e
    have sg := sg.trans s1
    obtain ⟨t5, e_t5, hm⟩ := bs hm
    refine q_setL (σ' := fun v => [some v_l_e, some v, none, none, none, none, none, none]) (el_catO (e := Dat.bool) e_t5 (ev_d (K := K) rfl h_l_kinds) (EvL.ev (el_lst (ea_consD (ev_isX T.kx_NoText_NoSay (ea_cons mo_xp (ev_x (K := K) rfl h_l_e) (ea_cons mo_clx ev_clx ea_nil))) (ea_consD (ev_isX T.kx_NoText_NoName (ea_cons mo_xp (ev_x (K := K) rfl h_l_e) (ea_cons mo_clx ev_clx ea_nil))) (ea_consD (ev_isX T.kx_NoText_NoPlace (ea_cons mo_xp (ev_x (K := K) rfl h_l_e) (ea_cons mo_clx ev_clx ea_nil))) (ea_consD (ev_isX T.kx_NoText_NoBack (ea_cons mo_xp (ev_x (K := K) rfl h_l_e) (ea_cons mo_clx ev_clx ea_nil))) (ea_nilD (K := K))))))))) ok (fun _ => rfl) (fun p_l_kinds vs_l_kinds G H s1 ok hn hd_l_kinds => ?_)
    have h_l_e := mo_xp _ _ _ s1 h_l_e
    have sg := sg.trans s1
    have h0_l_kinds : M0 p_l_kinds = none := sB_none (M := M0) hB hn
    have hd_l_kinds : DqAll K G vs_l_kinds (t5.map Dat.bool) := hd_l_kinds
    have ok : Ok _ (upd M0 p_l_kinds (.lst vs_l_kinds)) _ := ok
    have hB : Same M0 (upd M0 p_l_kinds (.lst vs_l_kinds)) := (sB_own hB h0_l_kinds)
    have hp_l_kinds : (upd M0 p_l_kinds (.lst vs_l_kinds)) p_l_kinds = some (.lst vs_l_kinds) := upd_same
    obtain ⟨M, eM⟩ : ∃ m, m = (upd M0 p_l_kinds (.lst vs_l_kinds)) := ⟨_, rfl⟩
    rw [← eM] at ok hB hp_l_kinds
    clear eM
    obtain ⟨t6, e_t6, hm⟩ := bs hm
    obtain ⟨hl_t6, ea_t6⟩ := appO_of e_t6
    refine q_append (ev_own rfl) (ea_d (ev_isX T.kx_NoText_TooMany (ea_cons mo_xp (ev_x (K := K) rfl h_l_e) (ea_cons mo_clx ev_clx ea_nil))) ea_nil) hp_l_kinds hp_l_kinds (by rw [dpAll_len hd_l_kinds, List.length_map]; exact szlt hl_t6) ok (fun v G H s1 ok hv => ?_)
    have h_l_e := mo_xp _ _ _ s1 h_l_e
    have hd_l_kinds := dpAll_up s1 _ hd_l_kinds
    have sg := sg.trans s1
    have hd_l_kinds : DqAll K G (vs_l_kinds ++ [v]) (t6.map Dat.bool) := by rw [ea_t6, List.map_append]; exact dpAll_app hd_l_kinds (.cons hv .nil)
    have ok : Ok _ (upd M p_l_kinds (.lst (vs_l_kinds ++ [v]))) _ := ok
    have hB : Same M0 (upd M p_l_kinds (.lst (vs_l_kinds ++ [v]))) := (sB_own hB h0_l_kinds)
    have hp_l_kinds : (upd M p_l_kinds (.lst (vs_l_kinds ++ [v]))) p_l_kinds = some (.lst (vs_l_kinds ++ [v])) := upd_same
    obtain ⟨M, eM⟩ : ∃ m, m = (upd M p_l_kinds (.lst (vs_l_kinds ++ [v]))) := ⟨_, rfl⟩
    rw [← eM] at ok hB hp_l_kinds
    clear eM
    obtain ⟨vs_l_kinds, e_vs⟩ : ∃ m, m = (vs_l_kinds ++ [v]) := ⟨_, rfl⟩
    rw [← e_vs] at hp_l_kinds hd_l_kinds
    clear e_vs
    refine k_del ok hp_l_kinds (fun G M1 s1 hg hM ok => ?_)
    have h_l_e := mo_xp _ _ _ s1 h_l_e
    have hd_l_kinds := dpAll_up s1 _ hd_l_kinds
    have sg := sg.trans s1
    have h_l_kinds : Dq K G (.ref p_l_kinds) ((eL Dat.bool) t6) := .lst hg hd_l_kinds
    have hB := sB_del hM h0_l_kinds hB
    refine q_if (et_test (ev_neI (ev_countD (e := Dat.bool) eqe_bool (by decide) (ev_d (K := K) rfl h_l_kinds) (ea_d (ev_bl (K := K)) ea_nil)) (ev_int (K := K)))) ok (fun hb G H s1 ok => ?_) (fun hb G H s1 ok => ?_)
    · have hm := cond_t hb hm
      have h_l_e := mo_xp _ _ _ s1 h_l_e
      have h_l_kinds := dp_up s1 _ h_l_kinds
      have sg := sg.trans s1
      refine q_ret (ev_str (K := K) (by decide +kernel)) ok (fun v G H s1 ok hv => ?_)
      have sg := sg.trans s1
      cases hm
      exact q v G H sg (ok.less hB) hv
    · have hm := cond_f hb hm
      have h_l_e := mo_xp _ _ _ s1 h_l_e
      have h_l_kinds := dp_up s1 _ h_l_kinds
      have sg := sg.trans s1
      refine q_nilU ?_
      obtain ⟨t7, e_t7, hm⟩ := bs hm
      refine q_set (σ' := fun v => [some v_l_e, some (.ref p_l_kinds), some v, none, none, none, none, none]) (ev_indexD (e := Dat.bool) e_t7 eqe_bool (by decide) (ev_d (K := K) rfl h_l_kinds) (ea_d (ev_bl (K := K)) ea_nil)) ok (fun _ => rfl) (fun v_l_at G H s1 ok h_l_at => ?_)
      have h_l_e := mo_xp _ _ _ s1 h_l_e
      have h_l_kinds := dp_up s1 _ h_l_kinds
      have sg := sg.trans s1
      cases h_l_at
      refine q_set (σ' := fun v => [some v_l_e, some (.ref p_l_kinds), some (.int (t7 : Int)), some v, none, none, none, none]) (ev_add (ev_intB (ea_d (ev_gt (ev_d (K := K) rfl (.int _)) (ev_int (K := K))) ea_nil)) (ev_intB (ea_d (ev_gt (ev_d (K := K) rfl (.int _)) (ev_int (K := K))) ea_nil))) ok (fun _ => rfl) (fun v_l_family G H s1 ok h_l_family => ?_)
      have h_l_e := mo_xp _ _ _ s1 h_l_e
      have h_l_kinds := dp_up s1 _ h_l_kinds
      have sg := sg.trans s1
      cases h_l_family
      refine q_set (σ' := fun v => [some v_l_e, some (.ref p_l_kinds), some (.int (t7 : Int)), some (.int ((if (decide ((18 : Int) < (t7 : Int))) then 1 else 0 : Int) + (if (decide ((21 : Int) < (t7 : Int))) then 1 else 0 : Int))), some v, none, none, none]) (EvL.ev (el_lst (ea_consD (ev_isX T.kx_NoText_BellError (ea_cons mo_xp (ev_x (K := K) rfl h_l_e) (ea_cons mo_clx ev_clx ea_nil))) (ea_consD (ev_isX T.kx_NoText_LostError (ea_cons mo_xp (ev_x (K := K) rfl h_l_e) (ea_cons mo_clx ev_clx ea_nil))) (ea_consD (ev_isX T.kx_NoText_GreatError (ea_cons mo_xp (ev_x (K := K) rfl h_l_e) (ea_cons mo_clx ev_clx ea_nil))) (ea_nilD (K := K))))))) ok (fun _ => rfl) (fun v_l_homes G H s1 ok h_l_homes => ?_)
      have h_l_e := mo_xp _ _ _ s1 h_l_e
      have h_l_kinds := dp_up s1 _ h_l_kinds
      have sg := sg.trans s1
      refine q_set (σ' := fun v => [some v_l_e, some (.ref p_l_kinds), some (.int (t7 : Int)), some (.int ((if (decide ((18 : Int) < (t7 : Int))) then 1 else 0 : Int) + (if (decide ((21 : Int) < (t7 : Int))) then 1 else 0 : Int))), some v_l_homes, some v, none, none]) (EvL.ev (el_lst (ea_consD (ev_isXT T.kx_NoText_ValueError (ea_cons mo_xp (ev_x (K := K) rfl h_l_e) (ea_cons mo_cls ev_cls ea_nil))) (ea_consD (ev_isXT T.kx_NoText_LookupError (ea_cons mo_xp (ev_x (K := K) rfl h_l_e) (ea_cons mo_cls ev_cls ea_nil))) (ea_consD (ev_isXT T.kx_NoText_ArithmeticError (ea_cons mo_xp (ev_x (K := K) rfl h_l_e) (ea_cons mo_cls ev_cls ea_nil))) (ea_nilD (K := K))))))) ok (fun _ => rfl) (fun v_l_outer G H s1 ok h_l_outer => ?_)
      have h_l_e := mo_xp _ _ _ s1 h_l_e
      have h_l_kinds := dp_up s1 _ h_l_kinds
      have h_l_homes := dp_up s1 _ h_l_homes
      have sg := sg.trans s1
      obtain ⟨t8, e_t8, hm⟩ := bs hm
      obtain ⟨t15, e_t15, hm⟩ := bs hm
      refine q_if (et_or (et_test (ev_neE (e := (eL Dat.bool)) (x := ([true, false, false] : (List Bool))) (y := t15) (eqe_L eqe_bool) (by decide) (ev_d (K := K) rfl h_l_homes) (EvL.ev (el_lcM (ea := Dat.int) (eb := Dat.bool) (xs := t8) (ys := t15) (hf := e_t15) (src_rngO e_t8 (ea_d (ev_int (K := K)) ea_nil)) (fun x9 _ Mx13 _ _ he14 sM12 sG11 hv10 => by cases he14; exact (tg_name ⟨rfl, (ev_eqI (ev_d (K := K) rfl hv10) (ev_d (K := K) rfl (.int _)))⟩)))))) fun _ => (et_test (ev_neE (e := (eL Dat.bool)) (x := ([true, false, false] : (List Bool))) (y := ([true, false, false] : (List Bool))) (eqe_L eqe_bool) (by decide) (ev_d (K := K) rfl h_l_outer) (ev_d (K := K) rfl h_l_homes)))) ok (fun hb G H s1 ok => ?_) (fun hb G H s1 ok => ?_)
      · have hm := cond_t hb hm
        have h_l_e := mo_xp _ _ _ s1 h_l_e
        have h_l_kinds := dp_up s1 _ h_l_kinds
        have h_l_homes := dp_up s1 _ h_l_homes
        have h_l_outer := dp_up s1 _ h_l_outer
        have sg := sg.trans s1
        refine q_ret (ev_str (K := K) (by decide +kernel)) ok (fun v G H s1 ok hv => ?_)
        have sg := sg.trans s1
        cases hm
        exact q v G H sg (ok.less hB) hv
      · have hm := cond_f hb hm
        have h_l_e := mo_xp _ _ _ s1 h_l_e
        have h_l_kinds := dp_up s1 _ h_l_kinds
        have h_l_homes := dp_up s1 _ h_l_homes
        have h_l_outer := dp_up s1 _ h_l_outer
        have sg := sg.trans s1
        refine q_nilU ?_
        refine q_set (σ' := fun v => [some v_l_e, some (.ref p_l_kinds), some (.int (t7 : Int)), some (.int ((if (decide ((18 : Int) < (t7 : Int))) then 1 else 0 : Int) + (if (decide ((21 : Int) < (t7 : Int))) then 1 else 0 : Int))), some v_l_homes, some v_l_outer, some v, none]) (EvL.ev (el_lst (ea_consD (ev_str (K := K) (by decide +kernel)) (ea_consD (ev_str (K := K) (by decide +kernel)) (ea_consD (ev_str (K := K) (by decide +kernel)) (ea_consD (ev_str (K := K) (by decide +kernel)) (ea_consD (ev_str (K := K) (by decide +kernel)) (ea_consD (ev_str (K := K) (by decide +kernel)) (ea_consD (ev_str (K := K) (by decide +kernel)) (ea_consD (ev_str (K := K) (by decide +kernel)) (ea_consD (ev_str (K := K) (by decide +kernel)) (ea_consD (ev_str (K := K) (by decide +kernel)) (ea_consD (ev_str (K := K) (by decide +kernel)) (ea_nilD (K := K))))))))))))))) ok (fun _ => rfl) (fun v_l_words G H s1 ok h_l_words => ?_)
        have h_l_e := mo_xp _ _ _ s1 h_l_e
        have h_l_kinds := dp_up s1 _ h_l_kinds
        have h_l_homes := dp_up s1 _ h_l_homes
        have h_l_outer := dp_up s1 _ h_l_outer
        have sg := sg.trans s1
        obtain ⟨t16, e_t16, hm⟩ := bs hm
        refine q_set (σ' := fun v => [some v_l_e, some (.ref p_l_kinds), some (.int (t7 : Int)), some (.int ((if (decide ((18 : Int) < (t7 : Int))) then 1 else 0 : Int) + (if (decide ((21 : Int) < (t7 : Int))) then 1 else 0 : Int))), some v_l_homes, some v_l_outer, some v, none]) (EvL.ev (el_catO (e := Dat.str) e_t16 (ev_d (K := K) rfl h_l_words) (EvL.ev (el_lst (ea_consD (ev_str (K := K) (by decide +kernel)) (ea_consD (ev_str (K := K) (by decide +kernel)) (ea_consD (ev_str (K := K) (by decide +kernel)) (ea_consD (ev_str (K := K) (by decide +kernel)) (ea_consD (ev_str (K := K) (by decide +kernel)) (ea_consD (ev_str (K := K) (by decide +kernel)) (ea_consD (ev_str (K := K) (by decide +kernel)) (ea_consD (ev_str (K := K) (by decide +kernel)) (ea_consD (ev_str (K := K) (by decide +kernel)) (ea_consD (ev_str (K := K) (by decide +kernel)) (ea_nilD (K := K)))))))))))))))) ok (fun _ => rfl) (fun v_l_words G H s1 ok h_l_words => ?_)
        have h_l_e := mo_xp _ _ _ s1 h_l_e
        have h_l_kinds := dp_up s1 _ h_l_kinds
        have h_l_homes := dp_up s1 _ h_l_homes
        have h_l_outer := dp_up s1 _ h_l_outer
        have sg := sg.trans s1
        obtain ⟨t17, e_t17, hm⟩ := bs hm
        obtain ⟨t18, e_t18, hm⟩ := bs hm
        refine q_ret (ev_ixLM (e := Dat.str) e_t18 (EvL.ev (el_catO (e := Dat.str) e_t17 (ev_d (K := K) rfl h_l_words) (EvL.ev (el_lst (ea_consD (ev_str (K := K) (by decide +kernel)) (ea_consD (ev_str (K := K) (by decide +kernel)) (ea_nilD (K := K)))))))) (ev_d (K := K) rfl (.int _))) ok (fun v G H s1 ok hv => ?_)
        have sg := sg.trans s1
        cases hm
        exact q v G H sg (ok.less hB) hv
/-! ### _law_text -/
theorem sc__law_text : FnScope ["_law_ringers", "_law_teeth", "_law_rows", "_law_call", "_law_size", "_law_mate", "_law_figure_here"] ["_law_ringers", "_law_teeth"] (defScope s__law_text) := ⟨rfl, rfl, rfl, by decide +kernel, rfl, by decide +kernel, by decide +kernel⟩
def a__law_text (K : PySem.W.Frag) (a : (List (Str × Int)) × (List (Str × Str × Int))) : List V → Hp → Prop := conP (DD K ((eT (eP2 Dat.str Dat.int)) a.1)) (conP (DD K ((eT (eP3 Dat.str Dat.str Dat.int)) a.2)) (nilP))
def m__law_text (a : (List (Str × Int)) × (List (Str × Str × Int))) : Option Str :=
  (lcO (fun x1 : (Str × Int) => (addS (Str.ofString "bell ") x1.1).bind fun t9 => (addS t9 (Str.ofString " ")).bind fun t10 => (strIO x1.2).bind fun t11 => (addS t10 t11).bind fun t12 => some t12) a.1).bind fun t13 => (lcO (fun x14 : (Str × Str × Int) => (addS x14.1 (Str.ofString " turns ")).bind fun t23 => (addS t23 x14.2.1).bind fun t24 => (addS t24 (Str.ofString " ")).bind fun t25 => (strIO x14.2.2).bind fun t26 => (addS t25 t26).bind fun t27 => some t27) a.2).bind fun t28 => (catO t13 t28).bind fun t29 => (joinO (Str.ofString "
") t29).bind fun t30 => some t30
abbrev sp__law_text [Tb] (K : PySem.W.Frag) : Sp := spP (a__law_text K) (m__law_text) fun r => DD K (Dat.str r)
theorem ok__law_text [Tb] {P : Program} {w : World} {K : PySem.W.Frag} {mg : Str → Option Value} {base : Heap} (T : Txt K mg) : FnOk P w K mg base CX0 (1) T.a__law_text T.d__law_text ["_law_ringers", "_law_teeth"] (sp__law_text K) := by
  refine T.F__law_text.ok sc__law_text (fun vs H Q E h => ?_) (fun cdv A outer s0 H vs Q E hr h => ?_)
  · obtain ⟨G, M0, a, r, ok, ⟨v_l_ringers, _, rfl, h_l_ringers, v_l_teeth, _, rfl, h_l_teeth, rfl⟩, hm, q⟩ := h
    rfl
  · obtain ⟨G, M0, a, r, ok, ⟨v_l_ringers, _, rfl, h_l_ringers, v_l_teeth, _, rfl, h_l_teeth, rfl⟩, hm, q⟩ := h
    unfold m__law_text at hm
    have sg := Same.refl G
    have hB := Same.refl M0
    refine ⟨_, (pss_cons (ps_setLc (i := 2) (own := [("_law_call", 3), ("_law_size", 4)]) (g := (gTup K 2 (gCons (gName 3) (gCons (gName 4) gNil)))) (tt := tYes) rfl sc__law_text.nd rfl rfl (sw_true rfl rfl rfl (by decide +kernel)) (pi_tupK (K := K) (pv 0)) (blkOk_by (own := [("_law_call", 3), ("_law_size", 4)]) (N := ["_law_ringers", "_law_teeth", "_law_rows", "_law_call", "_law_size", "_law_mate", "_law_figure_here"]) (sc := defScope s__law_text) (by decide +kernel)) (fun _ _ _ _ _ => (pg_tup rfl (pgs_cons (pg_name (i := 3) sc__law_text.nd rfl (by first | exact .inl rfl | exact .inr rfl)) (pgs_cons (pg_name (i := 4) sc__law_text.nd rfl (by first | exact .inl rfl | exact .inr rfl)) pgs_nil)))) (fun _ _ _ _ _ => pts_nil) (fun _ _ _ _ _ => (pe_op op_add_str (pe_op op_add_str (pe_op op_add_str pe_str (pv 3)) pe_str) (pe_callTy call_str_int (by rfl) T.n_str (by decide +kernel) (pa_cons (pv 4) pa_nil))))) (pss_cons (ps_ret (pe_m1 PySem.F.slot_str_join PySem.F.type_str_join (mt_joinK (K := K) rfl) pe_str (pe_op op_cat (pv 2) (pe_lc (own := [("_law_call", 3), ("_law_mate", 5), ("_law_figure_here", 6)]) (g := (gTup K 3 (gCons (gName 3) (gCons (gName 5) (gCons (gName 6) gNil))))) (tt := tYes) rfl sc__law_text.nd (pi_tupK (K := K) (pv 1)) (blkOk_by (own := [("_law_call", 3), ("_law_mate", 5), ("_law_figure_here", 6)]) (N := ["_law_ringers", "_law_teeth", "_law_rows", "_law_call", "_law_size", "_law_mate", "_law_figure_here"]) (sc := defScope s__law_text) (by decide +kernel)) (fun _ _ _ _ _ => (pg_tup rfl (pgs_cons (pg_name (i := 3) sc__law_text.nd rfl (by first | exact .inl rfl | exact .inr rfl)) (pgs_cons (pg_name (i := 5) sc__law_text.nd rfl (by first | exact .inl rfl | exact .inr rfl)) (pgs_cons (pg_name (i := 6) sc__law_text.nd rfl (by first | exact .inl rfl | exact .inr rfl)) pgs_nil))))) (fun _ _ _ _ _ => pts_nil) (fun _ _ _ _ _ => (pe_op op_add_str (pe_op op_add_str (pe_op op_add_str (pe_op op_add_str (pv 3) pe_str) (pv 5)) pe_str) (pe_callTy call_str_int (by rfl) T.n_str (by decide +kernel) (pa_cons (pv 6) pa_nil)))))))) pss_nil)), ?_⟩
    refine nrm (σ' := [some v_l_ringers, some v_l_teeth, none, none, none, none, none]) rfl ?_
    obtain ⟨t13, e_t13, hm⟩ := bs hm
    refine q_set (σ' := fun v => [some v_l_ringers, some v_l_teeth, some v, none, none, none, none]) (EvL.ev (el_lcM (ea := (eP2 Dat.str Dat.int)) (eb := Dat.str) (xs := a.1) (ys := t13) (hf := e_t13) (src_tup (ev_d (K := K) rfl h_l_ringers)) (fun x1 _ Mx5 _ _ he6 sM4 sG3 hv2 => by (obtain ⟨t9, e_t9, he6⟩ := bs he6); (obtain ⟨t10, e_t10, he6⟩ := bs he6); (obtain ⟨t11, e_t11, he6⟩ := bs he6); (obtain ⟨t12, e_t12, he6⟩ := bs he6); (have he6 := Option.some.inj he6); subst he6; exact (tg_t2 hv2 fun _ _ h7 h8 => (tg_name (tg_name ⟨rfl, (ev_addS e_t12 (ev_addS e_t10 (ev_addS e_t9 (ev_str (K := K) (by decide +kernel)) (ev_d (K := K) rfl h7)) (ev_str (K := K) (by decide +kernel))) (ev_strI e_t11 (ea_d (ev_d (K := K) rfl h8) ea_nil)))⟩)))))) ok (fun _ => rfl) (fun v_l_rows G H s1 ok h_l_rows => ?_)
    have h_l_ringers := dp_up s1 _ h_l_ringers
    have h_l_teeth := dp_up s1 _ h_l_teeth
    have sg := sg.trans s1
    obtain ⟨t28, e_t28, hm⟩ := bs hm
    obtain ⟨t29, e_t29, hm⟩ := bs hm
    obtain ⟨t30, e_t30, hm⟩ := bs hm
    refine q_ret (ev_joinL e_t30 (ev_str (K := K) (by decide +kernel)) (EvL.ev (el_catO (e := Dat.str) e_t29 (ev_d (K := K) rfl h_l_rows) (EvL.ev (el_lcM (ea := (eP3 Dat.str Dat.str Dat.int)) (eb := Dat.str) (xs := a.2) (ys := t28) (hf := e_t28) (src_tup (ev_d (K := K) rfl h_l_teeth)) (fun x14 _ Mx18 _ _ he19 sM17 sG16 hv15 => by (obtain ⟨t23, e_t23, he19⟩ := bs he19); (obtain ⟨t24, e_t24, he19⟩ := bs he19); (obtain ⟨t25, e_t25, he19⟩ := bs he19); (obtain ⟨t26, e_t26, he19⟩ := bs he19); (obtain ⟨t27, e_t27, he19⟩ := bs he19); (have he19 := Option.some.inj he19); subst he19; exact (tg_t3 hv15 fun _ _ _ h20 h21 h22 => (tg_name (tg_name (tg_name ⟨rfl, (ev_addS e_t27 (ev_addS e_t25 (ev_addS e_t24 (ev_addS e_t23 (ev_d (K := K) rfl h20) (ev_str (K := K) (by decide +kernel))) (ev_d (K := K) rfl h21)) (ev_str (K := K) (by decide +kernel))) (ev_strI e_t26 (ea_d (ev_d (K := K) rfl h22) ea_nil)))⟩)))))))))) ok (fun v G H s1 ok hv => ?_)
    have sg := sg.trans s1
    cases hm
    exact q v G H sg (ok.less hB) hv
/-! ### _law_is_call -/
theorem sc__law_is_call : FnScope ["_law_word", "_law_letters", "_law_sign"] ["_law_word"] (defScope s__law_is_call) := ⟨rfl, rfl, rfl, by decide +kernel, rfl, by decide +kernel, by decide +kernel⟩
def a__law_is_call (K : PySem.W.Frag) (a : Str) : List V → Hp → Prop := conP (DD K (Dat.str a)) (nilP)
def m__law_is_call (a : Str) : Option Bool :=
  (lenS a).bind fun t1 => (cond ((decide ((0 : Int) < t1)) && (decide (t1 < (7 : Int)))) ((lcO (fun x2 : Str => (inSign x2 (Str.ofString "abcdefghijklmnopqrstuvwxyz")).bind fun t8 => some t8) (signs a)).bind fun t9 => some (t9.all id)) (some false)).bind fun t10 => some t10
abbrev sp__law_is_call [Tb] (K : PySem.W.Frag) : Sp := spP (a__law_is_call K) (m__law_is_call) fun r => DD K (Dat.bool r)
theorem ok__law_is_call [Tb] {P : Program} {w : World} {K : PySem.W.Frag} {mg : Str → Option Value} {base : Heap} (T : Txt K mg) : FnOk P w K mg base CX0 (1) T.a__law_is_call T.d__law_is_call ["_law_word"] (sp__law_is_call K) := by
  refine T.F__law_is_call.ok sc__law_is_call (fun vs H Q E h => ?_) (fun cdv A outer s0 H vs Q E hr h => ?_)
  · obtain ⟨G, M0, a, r, ok, ⟨v_l_word, _, rfl, h_l_word, rfl⟩, hm, q⟩ := h
    rfl
  · obtain ⟨G, M0, a, r, ok, ⟨v_l_word, _, rfl, h_l_word, rfl⟩, hm, q⟩ := h
    unfold m__law_is_call at hm
    have sg := Same.refl G
    have hB := Same.refl M0
    refine ⟨_, (pss_cons (ps_set (i := 1) sc__law_is_call.nd rfl (.inr rfl) pe_str) (pss_cons (ps_ret (pe_and (pe_chain op_lt op_lt pe_int (pe_callB cl_lenS (by rfl) T.n_len (by decide +kernel) (pa_cons (pv 0) pa_nil)) pe_int) (pe_one (pe_callB (cr_allK (K := K) rfl) (by rfl) T.n_all (by decide +kernel) (pa_cons (pe_lc (own := [("_law_sign", 2)]) (g := (gName 2)) (tt := tYes) rfl sc__law_is_call.nd (pi_str (pv 0)) (blkOk_by (own := [("_law_sign", 2)]) (N := ["_law_word", "_law_letters", "_law_sign"]) (sc := defScope s__law_is_call) (by decide +kernel)) (fun _ _ _ _ _ => (pg_name (i := 2) sc__law_is_call.nd rfl (by first | exact .inl rfl | exact .inr rfl))) (fun _ _ _ _ _ => pts_nil) (fun _ _ _ _ _ => (pe_cmpR op_in_sign (pv 2) (pv 1) (by rfl)))) pa_nil))))) pss_nil)), ?_⟩
    refine nrm (σ' := [some v_l_word, none, none]) rfl ?_
    refine q_set (σ' := fun v => [some v_l_word, some v, none]) (ev_str (K := K) (by decide +kernel)) ok (fun _ => rfl) (fun v_l_letters G H s1 ok h_l_letters => ?_)
    have h_l_word := dp_up s1 _ h_l_word
    have sg := sg.trans s1
    obtain ⟨t1, e_t1, hm⟩ := bs hm
    obtain ⟨t10, e_t10, hm⟩ := bs hm
    refine q_ret (ev_andG (c := t10) (ev_chainI (ev_int (K := K)) (ev_lenS e_t1 (ea_d (ev_d (K := K) rfl h_l_word) ea_nil)) (ev_int (K := K))) (fun eb => by have e1 := cond_t eb e_t10; (obtain ⟨t9, e_t9, e1⟩ := bs e1); (have e1 := Option.some.inj e1); subst e1; exact (ev_allL (ea_d (EvL.ev (el_lcM (ea := Dat.str) (eb := Dat.bool) (xs := (signs a)) (ys := t9) (hf := e_t9) (Src.is (src_str (ev_d (K := K) rfl h_l_word)) signs_map) (fun x2 _ Mx6 _ _ he7 sM5 sG4 hv3 => by (obtain ⟨t8, e_t8, he7⟩ := bs he7); (have he7 := Option.some.inj he7); subst he7; exact (tg_name ⟨rfl, (ev_inSign e_t8 (ev_d (K := K) rfl hv3) (ev_d (K := K) rfl (dp_up sG4 _ h_l_letters)))⟩)))) ea_nil))) (fun eb => by have e1 := cond_f eb e_t10; cases e1; exact ⟨rfl, rfl⟩)) ok (fun v G H s1 ok hv => ?_)
    have sg := sg.trans s1
    cases hm
    exact q v G H sg (ok.less hB) hv
/-! ### _law_worth_of -/
theorem sc__law_worth_of : FnScope ["_law_word", "_law_sign"] ["_law_word"] (defScope s__law_worth_of) := ⟨rfl, rfl, rfl, by decide +kernel, rfl, by decide +kernel, by decide +kernel⟩
def a__law_worth_of (K : PySem.W.Frag) (a : Str) : List V → Hp → Prop := conP (DD K (Dat.str a)) (nilP)
def m__law_worth_of (a : Str) : Option Int :=
  (cond (decide (a = (Str.ofString ""))) (some true) ((atS a (0 : Int)).bind fun t1 => (cond (decide (t1 = (Str.ofString "0"))) (some true) ((lcO (fun x2 : Str => (inSign x2 (Str.ofString "0123456789")).bind fun t8 => some t8) (signs a)).bind fun t9 => some (!(t9.all id)))).bind fun t10 => some t10)).bind fun t11 => cond t11 (some (0 : Int)) ((lenS a).bind fun t12 => (cond (decide (t12 < (4 : Int))) ((intSO a).bind fun t13 => some t13) (some (1000 : Int))).bind fun t14 => some t14)
abbrev sp__law_worth_of [Tb] (K : PySem.W.Frag) : Sp := spP (a__law_worth_of K) (m__law_worth_of) fun r => DD K (Dat.int r)
theorem ok__law_worth_of [Tb] {P : Program} {w : World} {K : PySem.W.Frag} {mg : Str → Option Value} {base : Heap} (T : Txt K mg) : FnOk P w K mg base CX0 (1) T.a__law_worth_of T.d__law_worth_of ["_law_word"] (sp__law_worth_of K) := by
  refine T.F__law_worth_of.ok sc__law_worth_of (fun vs H Q E h => ?_) (fun cdv A outer s0 H vs Q E hr h => ?_)
  · obtain ⟨G, M0, a, r, ok, ⟨v_l_word, _, rfl, h_l_word, rfl⟩, hm, q⟩ := h
    rfl
  · obtain ⟨G, M0, a, r, ok, ⟨v_l_word, _, rfl, h_l_word, rfl⟩, hm, q⟩ := h
    unfold m__law_worth_of at hm
    have sg := Same.refl G
    have hB := Same.refl M0
    refine ⟨_, (pss_cons (ps_if (PW.pt (pw_or (pt_cmpR op_eq (pv 0) pe_str (nomark _)) (pw_or (pt_cmpR op_eq (pe_ix ix_str (pv 0) pe_int (fun _ _ => rfl)) pe_str (nomark _)) (pw_or1 (pt_not (pt_val (pe_callB (cr_allK (K := K) rfl) (by rfl) T.n_all (by decide +kernel) (pa_cons (pe_lc (own := [("_law_sign", 1)]) (g := (gName 1)) (tt := tYes) rfl sc__law_worth_of.nd (pi_str (pv 0)) (blkOk_by (own := [("_law_sign", 1)]) (N := ["_law_word", "_law_sign"]) (sc := defScope s__law_worth_of) (by decide +kernel)) (fun _ _ _ _ _ => (pg_name (i := 1) sc__law_worth_of.nd rfl (by first | exact .inl rfl | exact .inr rfl))) (fun _ _ _ _ _ => pts_nil) (fun _ _ _ _ _ => (pe_cmpR op_in_sign (pv 1) pe_str (by rfl)))) pa_nil)))))))) (pss_cons (ps_ret pe_int) pss_nil) pss_nil) (pss_cons (ps_ret (pe_ifExp (pt_cmpR op_lt (pe_callB cl_lenS (by rfl) T.n_len (by decide +kernel) (pa_cons (pv 0) pa_nil)) pe_int (nomark _)) (pe_callTy call_int_str (by rfl) T.n_int (by decide +kernel) (pa_cons (pv 0) pa_nil)) pe_int)) pss_nil)), ?_⟩
    refine nrm (σ' := [some v_l_word, none]) rfl ?_
    obtain ⟨t11, e_t11, hm⟩ := bs hm
    refine q_if (et_orG (c := t11) (et_test (ev_eqS (ev_d (K := K) rfl h_l_word) (ev_str (K := K) (by decide +kernel)))) (fun eb => by have e1 := cond_f eb e_t11; (obtain ⟨t1, e_t1, e1⟩ := bs e1); (obtain ⟨t10, e_t10, e1⟩ := bs e1); (have e1 := Option.some.inj e1); subst e1; exact (et_orG (c := t10) (et_test (ev_eqS (ev_ixS e_t1 (ev_d (K := K) rfl h_l_word) (ev_int (K := K))) (ev_str (K := K) (by decide +kernel)))) (fun eb => by have e1 := cond_f eb e_t10; (obtain ⟨t9, e_t9, e1⟩ := bs e1); (have e1 := Option.some.inj e1); subst e1; exact (et_not (et_B (ev_allL (ea_d (EvL.ev (el_lcM (ea := Dat.str) (eb := Dat.bool) (xs := (signs a)) (ys := t9) (hf := e_t9) (Src.is (src_str (ev_d (K := K) rfl h_l_word)) signs_map) (fun x2 _ Mx6 _ _ he7 sM5 sG4 hv3 => by (obtain ⟨t8, e_t8, he7⟩ := bs he7); (have he7 := Option.some.inj he7); subst he7; exact (tg_name ⟨rfl, (ev_inSign e_t8 (ev_d (K := K) rfl hv3) (ev_str (K := K) (by decide +kernel)))⟩)))) ea_nil))))) (fun eb => by have e1 := cond_t eb e_t10; cases e1; exact ⟨rfl, rfl⟩))) (fun eb => by have e1 := cond_t eb e_t11; cases e1; exact ⟨rfl, rfl⟩)) ok (fun hb G H s1 ok => ?_) (fun hb G H s1 ok => ?_)
    · have hm := cond_t hb hm
      have h_l_word := dp_up s1 _ h_l_word
      have sg := sg.trans s1
      refine q_ret (ev_int (K := K)) ok (fun v G H s1 ok hv => ?_)
      have sg := sg.trans s1
      cases hm
      exact q v G H sg (ok.less hB) hv
    · have hm := cond_f hb hm
      have h_l_word := dp_up s1 _ h_l_word
      have sg := sg.trans s1
      refine q_nilU ?_
      obtain ⟨t12, e_t12, hm⟩ := bs hm
      obtain ⟨t14, e_t14, hm⟩ := bs hm
      refine q_ret (ev_if (P := DD K (Dat.int t14)) (et_test (ev_lt (ev_lenS e_t12 (ea_d (ev_d (K := K) rfl h_l_word) ea_nil)) (ev_int (K := K)))) (fun eb => by have e1 := cond_t eb e_t14; (obtain ⟨t13, e_t13, e1⟩ := bs e1); cases e1; exact (ev_intS e_t13 (ea_d (ev_d (K := K) rfl h_l_word) ea_nil))) (fun eb => by have e1 := cond_f eb e_t14; cases e1; exact (ev_int (K := K)))) ok (fun v G H s1 ok hv => ?_)
      have sg := sg.trans s1
      cases hm
      exact q v G H sg (ok.less hB) hv
/-! ### _law_read -/
theorem sc__law_read : FnScope ["_law_written", "_law_ringers", "_law_teeth", "_law_at", "_law_line", "_law_words", "_law_calls_here", "_law_good", "_law_ahead", "_law_bell", "_law_tooth"] ["_law_written"] (defScope s__law_read) := ⟨rfl, rfl, rfl, by decide +kernel, rfl, by decide +kernel, by decide +kernel⟩
def a__law_read (K : PySem.W.Frag) (a : Str) : List V → Hp → Prop := conP (DD K (Dat.str a)) (nilP)
def m__law_read (a : Str) : Option ((List (Str × Int)) × (List (Str × Str × Int)) × (Option Int)) :=
  (splitO a (Str.ofString "
")).bind fun t1 => (forR (R := ((List (Str × Int)) × (List (Str × Str × Int)) × (Option Int))) (fun (st3 : (List (Str × Int)) × (List (Str × Str × Int))) (x4 : (Int × Str)) => (splitO x4.2 (Str.ofString " ")).bind fun t13 => (lcO (fun x15 : (Str × Int) => some x15.1) st3.1).bind fun t21 => (cond (decide ((t13.length : Int) = (3 : Int))) ((atI t13 (0 : Int)).bind fun t22 => some ((decide (t22 = (Str.ofString "bell"))) && ((decide (st3.2 = ([] : (List (Str × Str × Int))))) && (decide ((t21.length : Int) < (8 : Int)))))) (some false)).bind fun t24 => (cond t24 ((atI t13 (1 : Int)).bind fun t27 => (m__law_is_call t27).bind fun t28 => (cond t28 ((atI t13 (2 : Int)).bind fun t29 => (m__law_worth_of t29).bind fun t30 => (cond ((decide ((1 : Int) < t30)) && (decide (t30 < (25 : Int)))) ((catO ([(Str.ofString "")] : (List Str)) t21).bind fun t31 => (atI t31 (-(1 : Int))).bind fun t32 => (atI t13 (1 : Int)).bind fun t33 => some (sLt t32 t33)) (some false)).bind fun t34 => some t34) (some false)).bind fun t35 => (atI t13 (1 : Int)).bind fun t36 => (atI t13 (2 : Int)).bind fun t37 => (m__law_worth_of t37).bind fun t38 => (appO st3.1 (t36, t38)).bind fun t39 => some (t35, t39, st3.2)) ((cond (decide ((t13.length : Int) = (4 : Int))) ((atI t13 (1 : Int)).bind fun t41 => some (decide (t41 = (Str.ofString "turns")))) (some false)).bind fun t42 => cond t42 ((atI t13 (0 : Int)).bind fun t43 => (cond (memB t43 t21) ((atI t13 (2 : Int)).bind fun t44 => (cond (memB t44 t21) ((atI t13 (0 : Int)).bind fun t45 => (atI t13 (2 : Int)).bind fun t46 => some (!decide (t45 = t46))) (some false)).bind fun t47 => some t47) (some false)).bind fun t48 => (lcO (fun x50 : (Str × Str × Int) => some (x50.1, x50.2.1)) st3.2).bind fun t56 => (catO ([((Str.ofString ""), (Str.ofString ""))] : (List (Str × Str))) t56).bind fun t57 => (atI t57 (-(1 : Int))).bind fun t58 => (cond t48 ((atI t13 (3 : Int)).bind fun t59 => (m__law_worth_of t59).bind fun t60 => (cond ((decide ((0 : Int) < t60)) && (decide (t60 < (100 : Int)))) ((atI t13 (0 : Int)).bind fun t61 => (atI t13 (2 : Int)).bind fun t62 => some (ltP t58 (t61, t62))) (some false)).bind fun t63 => some t63) (some false)).bind fun t64 => (atI t13 (0 : Int)).bind fun t65 => (atI t13 (2 : Int)).bind fun t66 => (atI t13 (3 : Int)).bind fun t67 => (m__law_worth_of t67).bind fun t68 => (appO st3.2 (t65, t66, t68)).bind fun t69 => some (t64, st3.1, t69)) (some (false, st3.1, st3.2)))).bind fun j25 => cond (!j25.1) (some (.inr (([] : (List (Str × Int))), ([] : (List (Str × Str × Int))), (some x4.1)))) (some (.inl (j25.2.1, j25.2.2)))) (enum t1) (([] : (List (Str × Int))), ([] : (List (Str × Str × Int))))).bind fun fin2 => orR fin2 (fun fin2s => some (fin2s.1, fin2s.2, (none : (Option Int)))) (fun r => some r)
abbrev sp__law_read [Tb] (K : PySem.W.Frag) : Sp := spP (a__law_read K) (m__law_read) fun r => DD K ((ePL3 (eT (eP2 Dat.str Dat.int)) (eT (eP3 Dat.str Dat.str Dat.int)) (eO Dat.int)) r)
theorem ok__law_read [Tb] {P : Program} {w : World} {K : PySem.W.Frag} {mg : Str → Option Value} {base : Heap} (T : Txt K mg) (O__law_is_call : FnOk P w K mg base CX0 1 T.a__law_is_call T.d__law_is_call ["_law_word"] (sp__law_is_call K)) (O__law_worth_of : FnOk P w K mg base CX0 1 T.a__law_worth_of T.d__law_worth_of ["_law_word"] (sp__law_worth_of K)) : FnOk P w K mg base CX0 (2) T.a__law_read T.d__law_read ["_law_written"] (sp__law_read K) := by
  refine T.F__law_read.ok sc__law_read (fun vs H Q E h => ?_) (fun cdv A outer s0 H vs Q E hr h => ?_)
  · obtain ⟨G, M0, a, r, ok, ⟨v_l_written, _, rfl, h_l_written, rfl⟩, hm, q⟩ := h
    rfl
  · obtain ⟨G, M0, a, r, ok, ⟨v_l_written, _, rfl, h_l_written, rfl⟩, hm, q⟩ := h
    unfold m__law_read at hm
    have sg := Same.refl G
    have hB := Same.refl M0
    refine ⟨_, (pss_cons (ps_par (i := 1) (j := 2) rfl sc__law_read.nd rfl rfl (by decide) rfl rfl (pa_cons (pe_lst pa_nil) (pa_cons (pe_lst pa_nil) pa_nil)) (by rfl)) (pss_cons (ps_for PassesOwn.never rfl (pi_enumK (K := K) (by rfl) T.n_enumerate (pa_cons (pe_split (pv 0) pe_str) pa_nil)) (pg_tup rfl (pgs_cons (pg_name (i := 3) sc__law_read.nd rfl (.inl rfl)) (pgs_cons (pg_name (i := 4) sc__law_read.nd rfl (.inl rfl)) pgs_nil))) (pss_cons (ps_par (i := 5) (j := 6) rfl sc__law_read.nd rfl rfl (by decide) rfl rfl (pa_cons (pe_split (pv 4) pe_str) (pa_cons (pe_lc (own := [("_law_bell", 9)]) (g := (gName 9)) (tt := tYes) rfl sc__law_read.nd (pi_listK (K := K) (pv 1)) (blkOk_by (own := [("_law_bell", 9)]) (N := ["_law_written", "_law_ringers", "_law_teeth", "_law_at", "_law_line", "_law_words", "_law_calls_here", "_law_good", "_law_ahead", "_law_bell", "_law_tooth"]) (sc := defScope s__law_read) (by decide +kernel)) (fun _ _ _ _ _ => (pg_name (i := 9) sc__law_read.nd rfl (by first | exact .inl rfl | exact .inr rfl))) (fun _ _ _ _ _ => pts_nil) (fun _ _ _ _ _ => (pe_ix (ix_tupK (K := K)) (pv 9) pe_int (fun _ _ => rfl)))) pa_nil)) (by rfl)) (pss_cons (ps_set (i := 7) sc__law_read.nd rfl (.inl rfl) pe_bl) (pss_cons (ps_if (PW.pt (pw_and (pt_cmpR op_eq (pe_callB (cl_lenK (K := K)) (by rfl) T.n_len (by decide +kernel) (pa_cons (pv 5) pa_nil)) pe_int (nomark _)) (pw_and (pt_cmpR op_eq (pe_ix (ix_listK (K := K)) (pv 5) pe_int (fun _ _ => rfl)) pe_str (nomark _)) (pw_and (pt_cmpR (op_eqDK (K := K) hr.units) (pv 2) (pe_lst pa_nil) (nomark _)) (pw_and1 (pt_cmpR op_lt (pe_callB (cl_lenK (K := K)) (by rfl) T.n_len (by decide +kernel) (pa_cons (pv 6) pa_nil)) pe_int (nomark _))))))) (pss_cons (ps_set (i := 7) sc__law_read.nd rfl (.inl rfl) (pe_and (pe_call O__law_is_call (hr.mono (by decide)) (by rfl) T.g__law_is_call T.F__law_is_call.kp T.b__law_is_call .nil pass0 (pa_cons (pe_ix (ix_listK (K := K)) (pv 5) pe_int (fun _ _ => rfl)) pa_nil)) (pe_and (pe_chain op_lt op_lt pe_int (pe_call O__law_worth_of (hr.mono (by decide)) (by rfl) T.g__law_worth_of T.F__law_worth_of.kp T.b__law_worth_of .nil pass0 (pa_cons (pe_ix (ix_listK (K := K)) (pv 5) pe_int (fun _ _ => rfl)) pa_nil)) pe_int) (pe_one (pe_cmpR op_lt_str (pe_ix (ix_listK (K := K)) (pe_op op_cat (pe_lst (pa_cons pe_str pa_nil)) (pv 6)) (pe_un un_neg pe_int) (fun _ _ => rfl)) (pe_ix (ix_listK (K := K)) (pv 5) pe_int (fun _ _ => rfl)) (nomark _)))))) (pss_cons (ps_expr (pe_bm PySem.F.plainAttrs_list PySem.F.slot_list_append PySem.F.type_list_append mt_append (pv 1) (pa_cons (pe_tupF (pa_cons (pe_ix (ix_listK (K := K)) (pv 5) pe_int (fun _ _ => rfl)) (pa_cons (pe_call O__law_worth_of (hr.mono (by decide)) (by rfl) T.g__law_worth_of T.F__law_worth_of.kp T.b__law_worth_of .nil pass0 (pa_cons (pe_ix (ix_listK (K := K)) (pv 5) pe_int (fun _ _ => rfl)) pa_nil)) pa_nil))) pa_nil))) pss_nil)) (pss_cons (ps_if (PW.pt (pw_and (pt_cmpR op_eq (pe_callB (cl_lenK (K := K)) (by rfl) T.n_len (by decide +kernel) (pa_cons (pv 5) pa_nil)) pe_int (nomark _)) (pw_and1 (pt_cmpR op_eq (pe_ix (ix_listK (K := K)) (pv 5) pe_int (fun _ _ => rfl)) pe_str (nomark _))))) (pss_cons (ps_set (i := 7) sc__law_read.nd rfl (.inl rfl) (pe_and (pe_cmpR (op_inSK (K := K)) (pe_ix (ix_listK (K := K)) (pv 5) pe_int (fun _ _ => rfl)) (pv 6) (by rfl)) (pe_and (pe_cmpR (op_inSK (K := K)) (pe_ix (ix_listK (K := K)) (pv 5) pe_int (fun _ _ => rfl)) (pv 6) (by rfl)) (pe_one (pe_cmpR op_ne (pe_ix (ix_listK (K := K)) (pv 5) pe_int (fun _ _ => rfl)) (pe_ix (ix_listK (K := K)) (pv 5) pe_int (fun _ _ => rfl)) (nomark _)))))) (pss_cons (ps_set (i := 8) sc__law_read.nd rfl (.inl rfl) (pe_ix (ix_listK (K := K)) (pe_op op_cat (pe_lst (pa_cons (pe_tupF (pa_cons pe_str (pa_cons pe_str pa_nil))) pa_nil)) (pe_lc (own := [("_law_tooth", 10)]) (g := (gName 10)) (tt := tYes) rfl sc__law_read.nd (pi_listK (K := K) (pv 2)) (blkOk_by (own := [("_law_tooth", 10)]) (N := ["_law_written", "_law_ringers", "_law_teeth", "_law_at", "_law_line", "_law_words", "_law_calls_here", "_law_good", "_law_ahead", "_law_bell", "_law_tooth"]) (sc := defScope s__law_read) (by decide +kernel)) (fun _ _ _ _ _ => (pg_name (i := 10) sc__law_read.nd rfl (by first | exact .inl rfl | exact .inr rfl))) (fun _ _ _ _ _ => pts_nil) (fun _ _ _ _ _ => (pe_slice (sl_tupK (K := K)) (pv 10) po_none (po_some pe_int))))) (pe_un un_neg pe_int) (fun _ _ => rfl))) (pss_cons (ps_set (i := 7) sc__law_read.nd rfl (.inl rfl) (pe_and (pv 7) (pe_and (pe_chain op_lt op_lt pe_int (pe_call O__law_worth_of (hr.mono (by decide)) (by rfl) T.g__law_worth_of T.F__law_worth_of.kp T.b__law_worth_of .nil pass0 (pa_cons (pe_ix (ix_listK (K := K)) (pv 5) pe_int (fun _ _ => rfl)) pa_nil)) pe_int) (pe_one (pe_cmpR (op_ltD (K := K) hr.units) (pv 8) (pe_tupF (pa_cons (pe_ix (ix_listK (K := K)) (pv 5) pe_int (fun _ _ => rfl)) (pa_cons (pe_ix (ix_listK (K := K)) (pv 5) pe_int (fun _ _ => rfl)) pa_nil))) (nomark _)))))) (pss_cons (ps_expr (pe_bm PySem.F.plainAttrs_list PySem.F.slot_list_append PySem.F.type_list_append mt_append (pv 2) (pa_cons (pe_tupF (pa_cons (pe_ix (ix_listK (K := K)) (pv 5) pe_int (fun _ _ => rfl)) (pa_cons (pe_ix (ix_listK (K := K)) (pv 5) pe_int (fun _ _ => rfl)) (pa_cons (pe_call O__law_worth_of (hr.mono (by decide)) (by rfl) T.g__law_worth_of T.F__law_worth_of.kp T.b__law_worth_of .nil pass0 (pa_cons (pe_ix (ix_listK (K := K)) (pv 5) pe_int (fun _ _ => rfl)) pa_nil)) pa_nil)))) pa_nil))) pss_nil)))) pss_nil) pss_nil)) (pss_cons (ps_if (pt_not (pt_val (pv 7))) (pss_cons (ps_ret (pe_lst (pa_cons (pe_tupF pa_nil) (pa_cons (pe_tupF pa_nil) (pa_cons (pv 3) pa_nil))))) pss_nil) pss_nil) pss_nil))))) (pss_cons (ps_ret (pe_lst (pa_cons (pe_callTy (cl_tupleK (K := K)) (by rfl) T.n_tuple (by decide +kernel) (pa_cons (pv 1) pa_nil)) (pa_cons (pe_callTy (cl_tupleK (K := K)) (by rfl) T.n_tuple (by decide +kernel) (pa_cons (pv 2) pa_nil)) (pa_cons pe_non pa_nil))))) pss_nil))), ?_⟩
    refine nrm (σ' := [some v_l_written, none, none, none, none, none, none, none, none, none, none]) rfl ?_
    refine q_parX (ex_L (el_lst (ea_nilD (K := K))) fun p_l_ringers vs_l_ringers hn_l_ringers => (ex_L (el_lst (ea_nilD (K := K))) fun p_l_teeth vs_l_teeth hn_l_teeth => ex_nil)) ok (fun vs G M H s1 okN hx => ?_)
    obtain ⟨p_l_ringers, vs_l_ringers, _, rfl, hn_l_ringers, hd_l_ringers, p_l_teeth, vs_l_teeth, _, rfl, hn_l_teeth, hd_l_teeth, rfl, rfl⟩ := hx
    have ok := okN
    refine ⟨_, _, rfl, ?_⟩
    have h_l_written := dp_up s1 _ h_l_written
    have sg := sg.trans s1
    have h0_l_ringers : M0 p_l_ringers = none := sB_none (M := M0) hB hn_l_ringers
    have hd_l_ringers : DqAll K G vs_l_ringers (([] : (List (Str × Int))).map (eP2 Dat.str Dat.int)) := hd_l_ringers
    have n_l_ringers_l_teeth : p_l_ringers ≠ p_l_teeth := ne_of_none upd_same hn_l_teeth
    have n_l_teeth_l_ringers := n_l_ringers_l_teeth.symm
    have h0_l_teeth : M0 p_l_teeth = none := sB_none (M := (upd M0 p_l_ringers (.lst vs_l_ringers))) (sB_own hB h0_l_ringers) hn_l_teeth
    have hd_l_teeth : DqAll K G vs_l_teeth (([] : (List (Str × Str × Int))).map (eP3 Dat.str Dat.str Dat.int)) := hd_l_teeth
    refine nrm (σ' := [some v_l_written, some (.ref p_l_ringers), some (.ref p_l_teeth), none, none, none, none, none, none, none, none]) rfl ?_
    have ok : Ok _ (upd (upd M0 p_l_ringers (.lst vs_l_ringers)) p_l_teeth (.lst vs_l_teeth)) _ := ok
    have hB : Same M0 (upd (upd M0 p_l_ringers (.lst vs_l_ringers)) p_l_teeth (.lst vs_l_teeth)) := (sB_own (sB_own hB h0_l_ringers) h0_l_teeth)
    have hp_l_ringers : (upd (upd M0 p_l_ringers (.lst vs_l_ringers)) p_l_teeth (.lst vs_l_teeth)) p_l_ringers = some (.lst vs_l_ringers) := (up_ne n_l_ringers_l_teeth upd_same)
    have hp_l_teeth : (upd (upd M0 p_l_ringers (.lst vs_l_ringers)) p_l_teeth (.lst vs_l_teeth)) p_l_teeth = some (.lst vs_l_teeth) := upd_same
    obtain ⟨M, eM⟩ : ∃ m, m = (upd (upd M0 p_l_ringers (.lst vs_l_ringers)) p_l_teeth (.lst vs_l_teeth)) := ⟨_, rfl⟩
    rw [← eM] at ok hB hp_l_ringers hp_l_teeth
    clear eM
    obtain ⟨t1, e_t1, hm⟩ := bs hm
    obtain ⟨fin2, e_fin2, hm⟩ := bs hm
    have hmo5 := hm
    refine q_forR (ea := (eR2 Dat.int Dat.str)) (Src.is (src_enumL (ea_d (ev_split e_t1 (ev_d (K := K) rfl h_l_written) (ev_str (K := K) (by decide +kernel))) ea_nil)) enumD_map) ok (fun (st3 : (List (Str × Int)) × (List (Str × Str × Int))) σ1 G1 M1 => ∃ (y_l_words : Option V) (y_l_calls_here : Option V) (y_l_good : Option V) (y_l_ahead : Option V) (y_l_at : Option V) (y_l_line : Option V) (vs_l_ringers : List V) (vs_l_teeth : List V), σ1 = [some v_l_written, some (.ref p_l_ringers), some (.ref p_l_teeth), y_l_at, y_l_line, y_l_words, y_l_calls_here, y_l_good, y_l_ahead, none, none] ∧ (DqAll K G1 vs_l_ringers (st3.1.map (eP2 Dat.str Dat.int))) ∧ (M1 p_l_ringers = some (.lst vs_l_ringers)) ∧ (DqAll K G1 vs_l_teeth (st3.2.map (eP3 Dat.str Dat.str Dat.int))) ∧ (M1 p_l_teeth = some (.lst vs_l_teeth)) ∧ (Same M0 M1)) e_fin2 (fun G1 s1 => ⟨_, _, _, _, _, _, _, _, rfl, dpAll_up s1 _ hd_l_ringers, hp_l_ringers, dpAll_up s1 _ hd_l_teeth, hp_l_teeth, hB⟩) (by rintro _ _ _ _ _ ⟨y_l_words, y_l_calls_here, y_l_good, y_l_ahead, y_l_at, y_l_line, vs_l_ringers, vs_l_teeth, rfl, hd_l_ringers, hp_l_ringers, hd_l_teeth, hp_l_teeth, hB⟩ s2; exact ⟨_, _, _, _, _, _, _, _, rfl, dpAll_up s2 _ hd_l_ringers, hp_l_ringers, dpAll_up s2 _ hd_l_teeth, hp_l_teeth, hB⟩) (fun x4 xv7 st3 st' σ1 G M H N hm hret6 hj s1 ok hv hN => ?_) (fun fin2s σ1 G M H hfin s1 ok hj => ?_)
    · obtain ⟨y_l_words, y_l_calls_here, y_l_good, y_l_ahead, y_l_at, y_l_line, vs_l_ringers, vs_l_teeth, rfl, hd_l_ringers, hp_l_ringers, hd_l_teeth, hp_l_teeth, hB⟩ := hj
      have h_l_written := dp_up s1 _ h_l_written
      have sg := sg.trans s1
      have sl8 := Same.refl G
      refine gr2 hv ok.g (fun w9 w10 hw11 hw12 => ?_)
      refine gn ?_
      have h_l_at := hw11
      cases h_l_at
      refine gn ?_
      have h_l_line := hw12
      refine nrm (σ' := [some v_l_written, some (.ref p_l_ringers), some (.ref p_l_teeth), some (.int x4.1), some w10, y_l_words, y_l_calls_here, y_l_good, y_l_ahead, none, none]) rfl ?_
      obtain ⟨t13, e_t13, hm⟩ := bs hm
      obtain ⟨t21, e_t21, hm⟩ := bs hm
      refine q_par (σ' := fun v w => [some v_l_written, some (.ref p_l_ringers), some (.ref p_l_teeth), some (.int x4.1), some w10, some v, some w, y_l_good, y_l_ahead, none, none]) (ea_d (ev_split e_t13 (ev_d (K := K) rfl h_l_line) (ev_str (K := K) (by decide +kernel))) (ea_d (EvL.ev (el_lend hp_l_ringers (noLs_map (fun _ => rfl) _) (fun Gl14 hGl14 sl14 => (el_lcM (ea := (eP2 Dat.str Dat.int)) (eb := Dat.str) (xs := st3.1) (ys := t21) (hf := e_t21) (src_list (ev_d (K := K) rfl (.lst hGl14 (dpAll_up sl14 _ hd_l_ringers)))) (fun x15 _ Mx19 _ _ he20 sM18 sG17 hv16 => by cases he20; exact (tg_name ⟨rfl, (ev_ixT (d := Dat.str x15.1) rfl (ev_d (K := K) rfl hv16) ev_int)⟩)))))) ea_nil)) ok (fun _ _ => rfl) (fun v_l_words v_l_calls_here G H s1 ok h_l_words h_l_calls_here => ?_)
      have h_l_written := dp_up s1 _ h_l_written
      have hd_l_ringers := dpAll_up s1 _ hd_l_ringers
      have hd_l_teeth := dpAll_up s1 _ hd_l_teeth
      have h_l_line := dp_up s1 _ h_l_line
      have sg := sg.trans s1
      have sl8 := sl8.trans s1
      refine q_set (σ' := fun v => [some v_l_written, some (.ref p_l_ringers), some (.ref p_l_teeth), some (.int x4.1), some w10, some v_l_words, some v_l_calls_here, some v, y_l_ahead, none, none]) (ev_bl (K := K)) ok (fun _ => rfl) (fun v_l_good G H s1 ok h_l_good => ?_)
      have h_l_written := dp_up s1 _ h_l_written
      have hd_l_ringers := dpAll_up s1 _ hd_l_ringers
      have hd_l_teeth := dpAll_up s1 _ hd_l_teeth
      have h_l_line := dp_up s1 _ h_l_line
      have h_l_words := dp_up s1 _ h_l_words
      have h_l_calls_here := dp_up s1 _ h_l_calls_here
      have sg := sg.trans s1
      have sl8 := sl8.trans s1
      cases h_l_good
      obtain ⟨t24, e_t24, hm⟩ := bs hm
      obtain ⟨j25, e_j25, hm⟩ := bs hm
      refine q_ifJ (fun σ1 G1 M1 => ∃ (y_l_ahead : Option V) (vs_l_ringers : List V) (vs_l_teeth : List V), σ1 = [some v_l_written, some (.ref p_l_ringers), some (.ref p_l_teeth), some (.int x4.1), some w10, some v_l_words, some v_l_calls_here, some (.bl j25.1), y_l_ahead, none, none] ∧ (DqAll K G1 vs_l_ringers (j25.2.1.map (eP2 Dat.str Dat.int))) ∧ (M1 p_l_ringers = some (.lst vs_l_ringers)) ∧ (DqAll K G1 vs_l_teeth (j25.2.2.map (eP3 Dat.str Dat.str Dat.int))) ∧ (M1 p_l_teeth = some (.lst vs_l_teeth)) ∧ (Same M0 M1)) (et_andG (c := t24) (et_test (ev_eqI (ev_lenLM (e := Dat.str) (ea_d (ev_d (K := K) rfl h_l_words) ea_nil)) (ev_int (K := K)))) (fun eb => by have e1 := cond_t eb e_t24; (obtain ⟨t22, e_t22, e1⟩ := bs e1); (have e1 := Option.some.inj e1); subst e1; exact (et_and (et_test (ev_eqS (ev_ixLM (e := Dat.str) e_t22 (ev_d (K := K) rfl h_l_words) (ev_int (K := K))) (ev_str (K := K) (by decide +kernel)))) fun _ => (et_and (et_lend hp_l_teeth (fun Gl23 hGl23 sl23 => (et_test (ev_eqE (e := (eL (eP3 Dat.str Dat.str Dat.int))) (x := st3.2) (y := ([] : (List (Str × Str × Int)))) (eqe_L (eqe_P3 eqe_str eqe_str eqe_int)) (by decide) (ev_d (K := K) rfl (.lst hGl23 (dpAll_up sl23 _ hd_l_teeth))) (EvL.ev (el_lst (ea_nilD (K := K)))))))) fun _ => (et_test (ev_lt (ev_lenLM (e := Dat.str) (ea_d (ev_d (K := K) rfl h_l_calls_here) ea_nil)) (ev_int (K := K))))))) (fun eb => by have e1 := cond_f eb e_t24; cases e1; exact ⟨rfl, rfl⟩)) ok (fun hb G H D1 s1 ok _ _ _ kD => ?_) (fun hb G H D1 s1 ok _ _ _ kD => ?_) (fun σ1 G M H s1 ok hj => ?_)
      · have hm := cond_t hb e_j25
        have h_l_written := dp_up s1 _ h_l_written
        have hd_l_ringers := dpAll_up s1 _ hd_l_ringers
        have hd_l_teeth := dpAll_up s1 _ hd_l_teeth
        have h_l_line := dp_up s1 _ h_l_line
        have h_l_words := dp_up s1 _ h_l_words
        have h_l_calls_here := dp_up s1 _ h_l_calls_here
        have sg := sg.trans s1
        have sl8 := sl8.trans s1
        have sl26 := Same.refl G
        obtain ⟨t27, e_t27, hm⟩ := bs hm
        obtain ⟨t28, e_t28, hm⟩ := bs hm
        obtain ⟨t35, e_t35, hm⟩ := bs hm
        refine q_set (σ' := fun v => [some v_l_written, some (.ref p_l_ringers), some (.ref p_l_teeth), some (.int x4.1), some w10, some v_l_words, some v_l_calls_here, some v, y_l_ahead, none, none]) (ev_andG (c := t35) (ev_callP (res := fun r => DD K (Dat.bool r)) (a := t27) e_t28 (ea_d (ev_ixLM (e := Dat.str) e_t27 (ev_d (K := K) rfl h_l_words) (ev_int (K := K))) ea_nil)) (fun eb => by have e1 := cond_t eb e_t35; (obtain ⟨t29, e_t29, e1⟩ := bs e1); (obtain ⟨t30, e_t30, e1⟩ := bs e1); (obtain ⟨t34, e_t34, e1⟩ := bs e1); (have e1 := Option.some.inj e1); subst e1; exact (ev_andG (c := t34) (ev_chainI (ev_int (K := K)) (ev_callP (res := fun r => DD K (Dat.int r)) (a := t29) e_t30 (ea_d (ev_ixLM (e := Dat.str) e_t29 (ev_d (K := K) rfl h_l_words) (ev_int (K := K))) ea_nil)) (ev_int (K := K))) (fun eb => by have e1 := cond_t eb e_t34; (obtain ⟨t31, e_t31, e1⟩ := bs e1); (obtain ⟨t32, e_t32, e1⟩ := bs e1); (obtain ⟨t33, e_t33, e1⟩ := bs e1); (have e1 := Option.some.inj e1); subst e1; exact (ev_ltS (ev_ixLM (e := Dat.str) e_t32 (EvL.ev (el_catO (e := Dat.str) e_t31 (EvL.ev (el_lst (ea_consD (ev_str (K := K) (by decide +kernel)) (ea_nilD (K := K))))) (ev_d (K := K) rfl h_l_calls_here))) (ev_neg (ev_int (K := K)))) (ev_ixLM (e := Dat.str) e_t33 (ev_d (K := K) rfl h_l_words) (ev_int (K := K))))) (fun eb => by have e1 := cond_f eb e_t34; cases e1; exact ⟨rfl, rfl⟩))) (fun eb => by have e1 := cond_f eb e_t35; cases e1; exact ⟨rfl, rfl⟩)) ok (fun _ => rfl) (fun v_l_good G H s1 ok h_l_good => ?_)
        have h_l_written := dp_up s1 _ h_l_written
        have hd_l_ringers := dpAll_up s1 _ hd_l_ringers
        have hd_l_teeth := dpAll_up s1 _ hd_l_teeth
        have h_l_line := dp_up s1 _ h_l_line
        have h_l_words := dp_up s1 _ h_l_words
        have h_l_calls_here := dp_up s1 _ h_l_calls_here
        have sg := sg.trans s1
        have sl26 := sl26.trans s1
        have sl8 := sl8.trans s1
        cases h_l_good
        obtain ⟨t36, e_t36, hm⟩ := bs hm
        obtain ⟨t37, e_t37, hm⟩ := bs hm
        obtain ⟨t38, e_t38, hm⟩ := bs hm
        obtain ⟨t39, e_t39, hm⟩ := bs hm
        obtain ⟨hl_t39, ea_t39⟩ := appO_of e_t39
        refine q_append (ev_own rfl) (ea_d (ev_tup (ea_consD (ev_ixLM (e := Dat.str) e_t36 (ev_d (K := K) rfl h_l_words) (ev_int (K := K))) (ea_consD (ev_callP (res := fun r => DD K (Dat.int r)) (a := t37) e_t38 (ea_d (ev_ixLM (e := Dat.str) e_t37 (ev_d (K := K) rfl h_l_words) (ev_int (K := K))) ea_nil)) (ea_nilD (K := K))))) ea_nil) hp_l_ringers hp_l_ringers (by rw [dpAll_len hd_l_ringers, List.length_map]; exact szlt hl_t39) ok (fun v G H s1 ok hv => ?_)
        have h_l_written := dp_up s1 _ h_l_written
        have hd_l_ringers := dpAll_up s1 _ hd_l_ringers
        have hd_l_teeth := dpAll_up s1 _ hd_l_teeth
        have h_l_line := dp_up s1 _ h_l_line
        have h_l_words := dp_up s1 _ h_l_words
        have h_l_calls_here := dp_up s1 _ h_l_calls_here
        have sg := sg.trans s1
        have sl26 := sl26.trans s1
        have sl8 := sl8.trans s1
        have hd_l_ringers : DqAll K G (vs_l_ringers ++ [v]) (t39.map (eP2 Dat.str Dat.int)) := by rw [ea_t39, List.map_append]; exact dpAll_app hd_l_ringers (.cons hv .nil)
        have ok : Ok _ (upd M p_l_ringers (.lst (vs_l_ringers ++ [v]))) _ := ok
        have hB : Same M0 (upd M p_l_ringers (.lst (vs_l_ringers ++ [v]))) := (sB_own hB h0_l_ringers)
        have hp_l_ringers : (upd M p_l_ringers (.lst (vs_l_ringers ++ [v]))) p_l_ringers = some (.lst (vs_l_ringers ++ [v])) := upd_same
        have hp_l_teeth : (upd M p_l_ringers (.lst (vs_l_ringers ++ [v]))) p_l_teeth = some (.lst vs_l_teeth) := (up_ne n_l_teeth_l_ringers hp_l_teeth)
        obtain ⟨M, eM⟩ : ∃ m, m = (upd M p_l_ringers (.lst (vs_l_ringers ++ [v]))) := ⟨_, rfl⟩
        rw [← eM] at ok hB hp_l_ringers hp_l_teeth
        clear eM
        obtain ⟨vs_l_ringers, e_vs⟩ : ∃ m, m = (vs_l_ringers ++ [v]) := ⟨_, rfl⟩
        rw [← e_vs] at hp_l_ringers hd_l_ringers
        clear e_vs
        refine q_nil ?_
        cases hm
        exact kD _ _ _ _ sl26 ok ⟨_, _, _, rfl, hd_l_ringers, hp_l_ringers, hd_l_teeth, hp_l_teeth, hB⟩
      · have hm := cond_f hb e_j25
        have h_l_written := dp_up s1 _ h_l_written
        have hd_l_ringers := dpAll_up s1 _ hd_l_ringers
        have hd_l_teeth := dpAll_up s1 _ hd_l_teeth
        have h_l_line := dp_up s1 _ h_l_line
        have h_l_words := dp_up s1 _ h_l_words
        have h_l_calls_here := dp_up s1 _ h_l_calls_here
        have sg := sg.trans s1
        have sl8 := sl8.trans s1
        have sl40 := Same.refl G
        obtain ⟨t42, e_t42, hm⟩ := bs hm
        refine q_if (et_andG (c := t42) (et_test (ev_eqI (ev_lenLM (e := Dat.str) (ea_d (ev_d (K := K) rfl h_l_words) ea_nil)) (ev_int (K := K)))) (fun eb => by have e1 := cond_t eb e_t42; (obtain ⟨t41, e_t41, e1⟩ := bs e1); (have e1 := Option.some.inj e1); subst e1; exact (et_test (ev_eqS (ev_ixLM (e := Dat.str) e_t41 (ev_d (K := K) rfl h_l_words) (ev_int (K := K))) (ev_str (K := K) (by decide +kernel))))) (fun eb => by have e1 := cond_f eb e_t42; cases e1; exact ⟨rfl, rfl⟩)) ok (fun hb G H s1 ok => ?_) (fun hb G H s1 ok => ?_)
        · have hm := cond_t hb hm
          have h_l_written := dp_up s1 _ h_l_written
          have hd_l_ringers := dpAll_up s1 _ hd_l_ringers
          have hd_l_teeth := dpAll_up s1 _ hd_l_teeth
          have h_l_line := dp_up s1 _ h_l_line
          have h_l_words := dp_up s1 _ h_l_words
          have h_l_calls_here := dp_up s1 _ h_l_calls_here
          have sg := sg.trans s1
          have sl40 := sl40.trans s1
          have sl8 := sl8.trans s1
          obtain ⟨t43, e_t43, hm⟩ := bs hm
          obtain ⟨t48, e_t48, hm⟩ := bs hm
          refine q_set (σ' := fun v => [some v_l_written, some (.ref p_l_ringers), some (.ref p_l_teeth), some (.int x4.1), some w10, some v_l_words, some v_l_calls_here, some v, y_l_ahead, none, none]) (ev_andG (c := t48) (ev_inS (k := false) (xs := t21) (ev_ixLM (e := Dat.str) e_t43 (ev_d (K := K) rfl h_l_words) (ev_int (K := K))) (ev_d (K := K) rfl h_l_calls_here)) (fun eb => by have e1 := cond_t eb e_t48; (obtain ⟨t44, e_t44, e1⟩ := bs e1); (obtain ⟨t47, e_t47, e1⟩ := bs e1); (have e1 := Option.some.inj e1); subst e1; exact (ev_andG (c := t47) (ev_inS (k := false) (xs := t21) (ev_ixLM (e := Dat.str) e_t44 (ev_d (K := K) rfl h_l_words) (ev_int (K := K))) (ev_d (K := K) rfl h_l_calls_here)) (fun eb => by have e1 := cond_t eb e_t47; (obtain ⟨t45, e_t45, e1⟩ := bs e1); (obtain ⟨t46, e_t46, e1⟩ := bs e1); (have e1 := Option.some.inj e1); subst e1; exact (ev_neS (ev_ixLM (e := Dat.str) e_t45 (ev_d (K := K) rfl h_l_words) (ev_int (K := K))) (ev_ixLM (e := Dat.str) e_t46 (ev_d (K := K) rfl h_l_words) (ev_int (K := K))))) (fun eb => by have e1 := cond_f eb e_t47; cases e1; exact ⟨rfl, rfl⟩))) (fun eb => by have e1 := cond_f eb e_t48; cases e1; exact ⟨rfl, rfl⟩)) ok (fun _ => rfl) (fun v_l_good G H s1 ok h_l_good => ?_)
          have h_l_written := dp_up s1 _ h_l_written
          have hd_l_ringers := dpAll_up s1 _ hd_l_ringers
          have hd_l_teeth := dpAll_up s1 _ hd_l_teeth
          have h_l_line := dp_up s1 _ h_l_line
          have h_l_words := dp_up s1 _ h_l_words
          have h_l_calls_here := dp_up s1 _ h_l_calls_here
          have sg := sg.trans s1
          have sl40 := sl40.trans s1
          have sl8 := sl8.trans s1
          cases h_l_good
          obtain ⟨t56, e_t56, hm⟩ := bs hm
          obtain ⟨t57, e_t57, hm⟩ := bs hm
          obtain ⟨t58, e_t58, hm⟩ := bs hm
          refine q_set (σ' := fun v => [some v_l_written, some (.ref p_l_ringers), some (.ref p_l_teeth), some (.int x4.1), some w10, some v_l_words, some v_l_calls_here, some (.bl t48), some v, none, none]) (ev_ixLM (e := (eP2 Dat.str Dat.str)) e_t58 (EvL.ev (el_catO (e := (eP2 Dat.str Dat.str)) e_t57 (EvL.ev (el_lst (ea_consD (ev_tup (ea_consD (ev_str (K := K) (by decide +kernel)) (ea_consD (ev_str (K := K) (by decide +kernel)) (ea_nilD (K := K))))) (ea_nilD (K := K))))) (EvL.ev (el_lend hp_l_teeth (noLs_map (fun _ => rfl) _) (fun Gl49 hGl49 sl49 => (el_lcM (ea := (eP3 Dat.str Dat.str Dat.int)) (eb := (eP2 Dat.str Dat.str)) (xs := st3.2) (ys := t56) (hf := e_t56) (src_list (ev_d (K := K) rfl (.lst hGl49 (dpAll_up sl49 _ hd_l_teeth)))) (fun x50 _ Mx54 _ _ he55 sM53 sG52 hv51 => by cases he55; exact (tg_name ⟨rfl, (ev_is (ev_slT (ev_d (K := K) rfl hv51) eo_none (eo_some (ev_int (K := K)))) rfl)⟩)))))))) (ev_neg (ev_int (K := K)))) ok (fun _ => rfl) (fun v_l_ahead G H s1 ok h_l_ahead => ?_)
          have h_l_written := dp_up s1 _ h_l_written
          have hd_l_ringers := dpAll_up s1 _ hd_l_ringers
          have hd_l_teeth := dpAll_up s1 _ hd_l_teeth
          have h_l_line := dp_up s1 _ h_l_line
          have h_l_words := dp_up s1 _ h_l_words
          have h_l_calls_here := dp_up s1 _ h_l_calls_here
          have sg := sg.trans s1
          have sl40 := sl40.trans s1
          have sl8 := sl8.trans s1
          obtain ⟨t64, e_t64, hm⟩ := bs hm
          refine q_set (σ' := fun v => [some v_l_written, some (.ref p_l_ringers), some (.ref p_l_teeth), some (.int x4.1), some w10, some v_l_words, some v_l_calls_here, some v, some v_l_ahead, none, none]) (ev_andG (c := t64) (ev_d (K := K) rfl (.bl _)) (fun eb => by have e1 := cond_t eb e_t64; (obtain ⟨t59, e_t59, e1⟩ := bs e1); (obtain ⟨t60, e_t60, e1⟩ := bs e1); (obtain ⟨t63, e_t63, e1⟩ := bs e1); (have e1 := Option.some.inj e1); subst e1; exact (ev_andG (c := t63) (ev_chainI (ev_int (K := K)) (ev_callP (res := fun r => DD K (Dat.int r)) (a := t59) e_t60 (ea_d (ev_ixLM (e := Dat.str) e_t59 (ev_d (K := K) rfl h_l_words) (ev_int (K := K))) ea_nil)) (ev_int (K := K))) (fun eb => by have e1 := cond_t eb e_t63; (obtain ⟨t61, e_t61, e1⟩ := bs e1); (obtain ⟨t62, e_t62, e1⟩ := bs e1); (have e1 := Option.some.inj e1); subst e1; exact (ev_ltPP (a := t58) (b := (t61, t62)) (ev_d (K := K) rfl h_l_ahead) (ev_tup (ea_consD (ev_ixLM (e := Dat.str) e_t61 (ev_d (K := K) rfl h_l_words) (ev_int (K := K))) (ea_consD (ev_ixLM (e := Dat.str) e_t62 (ev_d (K := K) rfl h_l_words) (ev_int (K := K))) (ea_nilD (K := K))))))) (fun eb => by have e1 := cond_f eb e_t63; cases e1; exact ⟨rfl, rfl⟩))) (fun eb => by have e1 := cond_f eb e_t64; cases e1; exact ⟨rfl, rfl⟩)) ok (fun _ => rfl) (fun v_l_good G H s1 ok h_l_good => ?_)
          have h_l_written := dp_up s1 _ h_l_written
          have hd_l_ringers := dpAll_up s1 _ hd_l_ringers
          have hd_l_teeth := dpAll_up s1 _ hd_l_teeth
          have h_l_line := dp_up s1 _ h_l_line
          have h_l_words := dp_up s1 _ h_l_words
          have h_l_calls_here := dp_up s1 _ h_l_calls_here
          have h_l_ahead := dp_up s1 _ h_l_ahead
          have sg := sg.trans s1
          have sl40 := sl40.trans s1
          have sl8 := sl8.trans s1
          cases h_l_good
          obtain ⟨t65, e_t65, hm⟩ := bs hm
          obtain ⟨t66, e_t66, hm⟩ := bs hm
          obtain ⟨t67, e_t67, hm⟩ := bs hm
          obtain ⟨t68, e_t68, hm⟩ := bs hm
          obtain ⟨t69, e_t69, hm⟩ := bs hm
          obtain ⟨hl_t69, ea_t69⟩ := appO_of e_t69
          refine q_append (ev_own rfl) (ea_d (ev_tup (ea_consD (ev_ixLM (e := Dat.str) e_t65 (ev_d (K := K) rfl h_l_words) (ev_int (K := K))) (ea_consD (ev_ixLM (e := Dat.str) e_t66 (ev_d (K := K) rfl h_l_words) (ev_int (K := K))) (ea_consD (ev_callP (res := fun r => DD K (Dat.int r)) (a := t67) e_t68 (ea_d (ev_ixLM (e := Dat.str) e_t67 (ev_d (K := K) rfl h_l_words) (ev_int (K := K))) ea_nil)) (ea_nilD (K := K)))))) ea_nil) hp_l_teeth hp_l_teeth (by rw [dpAll_len hd_l_teeth, List.length_map]; exact szlt hl_t69) ok (fun v G H s1 ok hv => ?_)
          have h_l_written := dp_up s1 _ h_l_written
          have hd_l_ringers := dpAll_up s1 _ hd_l_ringers
          have hd_l_teeth := dpAll_up s1 _ hd_l_teeth
          have h_l_line := dp_up s1 _ h_l_line
          have h_l_words := dp_up s1 _ h_l_words
          have h_l_calls_here := dp_up s1 _ h_l_calls_here
          have h_l_ahead := dp_up s1 _ h_l_ahead
          have sg := sg.trans s1
          have sl40 := sl40.trans s1
          have sl8 := sl8.trans s1
          have hd_l_teeth : DqAll K G (vs_l_teeth ++ [v]) (t69.map (eP3 Dat.str Dat.str Dat.int)) := by rw [ea_t69, List.map_append]; exact dpAll_app hd_l_teeth (.cons hv .nil)
          have ok : Ok _ (upd M p_l_teeth (.lst (vs_l_teeth ++ [v]))) _ := ok
          have hB : Same M0 (upd M p_l_teeth (.lst (vs_l_teeth ++ [v]))) := (sB_own hB h0_l_teeth)
          have hp_l_ringers : (upd M p_l_teeth (.lst (vs_l_teeth ++ [v]))) p_l_ringers = some (.lst vs_l_ringers) := (up_ne n_l_ringers_l_teeth hp_l_ringers)
          have hp_l_teeth : (upd M p_l_teeth (.lst (vs_l_teeth ++ [v]))) p_l_teeth = some (.lst (vs_l_teeth ++ [v])) := upd_same
          obtain ⟨M, eM⟩ : ∃ m, m = (upd M p_l_teeth (.lst (vs_l_teeth ++ [v]))) := ⟨_, rfl⟩
          rw [← eM] at ok hB hp_l_ringers hp_l_teeth
          clear eM
          obtain ⟨vs_l_teeth, e_vs⟩ : ∃ m, m = (vs_l_teeth ++ [v]) := ⟨_, rfl⟩
          rw [← e_vs] at hp_l_teeth hd_l_teeth
          clear e_vs
          refine q_nilU ?_
          refine q_nil ?_
          cases hm
          exact kD _ _ _ _ sl40 ok ⟨_, _, _, rfl, hd_l_ringers, hp_l_ringers, hd_l_teeth, hp_l_teeth, hB⟩
        · have hm := cond_f hb hm
          have h_l_written := dp_up s1 _ h_l_written
          have hd_l_ringers := dpAll_up s1 _ hd_l_ringers
          have hd_l_teeth := dpAll_up s1 _ hd_l_teeth
          have h_l_line := dp_up s1 _ h_l_line
          have h_l_words := dp_up s1 _ h_l_words
          have h_l_calls_here := dp_up s1 _ h_l_calls_here
          have sg := sg.trans s1
          have sl40 := sl40.trans s1
          have sl8 := sl8.trans s1
          refine q_nilU ?_
          refine q_nil ?_
          cases hm
          exact kD _ _ _ _ sl40 ok ⟨_, _, _, rfl, hd_l_ringers, hp_l_ringers, hd_l_teeth, hp_l_teeth, hB⟩
      · obtain ⟨y_l_ahead, vs_l_ringers, vs_l_teeth, rfl, hd_l_ringers, hp_l_ringers, hd_l_teeth, hp_l_teeth, hB⟩ := hj
        have h_l_written := dp_up s1 _ h_l_written
        have h_l_line := dp_up s1 _ h_l_line
        have h_l_words := dp_up s1 _ h_l_words
        have h_l_calls_here := dp_up s1 _ h_l_calls_here
        have sg := sg.trans s1
        have sl8 := sl8.trans s1
        refine q_if (et_not (et_B (ev_d (K := K) rfl (.bl _)))) ok (fun hb G H s1 ok => ?_) (fun hb G H s1 ok => ?_)
        · have hm := cond_t hb hm
          have h_l_written := dp_up s1 _ h_l_written
          have hd_l_ringers := dpAll_up s1 _ hd_l_ringers
          have hd_l_teeth := dpAll_up s1 _ hd_l_teeth
          have h_l_line := dp_up s1 _ h_l_line
          have h_l_words := dp_up s1 _ h_l_words
          have h_l_calls_here := dp_up s1 _ h_l_calls_here
          have sg := sg.trans s1
          have sl8 := sl8.trans s1
          refine q_ret (EvL.ev (el_lst (ea_consD (ev_tup (ea_nilD (K := K))) (ea_consD (ev_tup (ea_nilD (K := K))) (ea_consD (ev_d (K := K) rfl (.int _)) (ea_nilD (K := K))))))) ok (fun v G H s1 ok hv => ?_)
          have sg := sg.trans s1
          cases hm
          have hf0 := hret6 _ rfl
          rw [hf0] at hmo5
          have hmx0 := hmo5
          cases hmx0
          exact q v G H sg (ok.less hB) hv
        · have hm := cond_f hb hm
          have h_l_written := dp_up s1 _ h_l_written
          have hd_l_ringers := dpAll_up s1 _ hd_l_ringers
          have hd_l_teeth := dpAll_up s1 _ hd_l_teeth
          have h_l_line := dp_up s1 _ h_l_line
          have h_l_words := dp_up s1 _ h_l_words
          have h_l_calls_here := dp_up s1 _ h_l_calls_here
          have sg := sg.trans s1
          have sl8 := sl8.trans s1
          refine q_nilU ?_
          refine q_nil ?_
          cases hm
          exact hN _ _ _ _ _ rfl sl8 ok ⟨_, _, _, _, _, _, _, _, rfl, hd_l_ringers, hp_l_ringers, hd_l_teeth, hp_l_teeth, hB⟩
    · obtain ⟨y_l_words, y_l_calls_here, y_l_good, y_l_ahead, y_l_at, y_l_line, vs_l_ringers, vs_l_teeth, rfl, hd_l_ringers, hp_l_ringers, hd_l_teeth, hp_l_teeth, hB⟩ := hj
      have h_l_written := dp_up s1 _ h_l_written
      have sg := sg.trans s1
      rw [hfin] at hm
      have hm := orR_l hm
      refine q_ret (EvL.ev (el_lst (ea_consD (ev_tupO hp_l_ringers hd_l_ringers (ea_cons mo_ow (ev_own rfl) ea_nil)) (ea_consD (ev_tupO hp_l_teeth hd_l_teeth (ea_cons mo_ow (ev_own rfl) ea_nil)) (ea_consD (ev_non (K := K)) (ea_nilD (K := K))))))) ok (fun v G H s1 ok hv => ?_)
      have sg := sg.trans s1
      cases hm
      exact q v G H sg (ok.less hB) hv
theorem kwp_read_peal_text {K : PySem.W.Frag} {G : Hp} {vs : List V} {a : Str} (h : (conP (DD K (Dat.str a)) (nilP)) vs G) : vs.length = 1 ∧ a_read_peal_2 K a (kw_read_peal_text vs) G := by
  obtain ⟨v_text, _, rfl, h_text, rfl⟩ := h
  exact ⟨rfl, v_text, _, rfl, h_text, rfl⟩
/-! ### _law_read_right -/
theorem sc__law_read_right : FnScope ["_law_written", "_law_door", "_law_ringers", "_law_teeth", "_law_at", "_law_house", "_law_e"] ["_law_written", "_law_door"] (defScope s__law_read_right) := ⟨rfl, rfl, rfl, by decide +kernel, rfl, by decide +kernel, by decide +kernel⟩
def a__law_read_right (K : PySem.W.Frag) (a : Str × Int) : List V → Hp → Prop := conP (DD K (Dat.str a.1)) (conP (DD K (Dat.int a.2)) (nilP))
def m__law_read_right (a : Str × Int) : Option Bool :=
  (m__law_read a.1).bind fun t1 => (cond (decide (a.2 = (0 : Int))) (m_read_peal_2 a.1) (m_read_peal_2 a.1)).bind fun t8 => orX t8 (fun y9 => cond ((t1.2.2).isSome || (!true)) (some false) ((reprO (toPy ((eP2 (eT (eP2 Dat.str Dat.int)) (eT (eP3 Dat.str Dat.str Dat.int))) (y9.1, y9.2.1)))).bind fun t10 => (reprO (toPy ((eP2 (eT (eP2 Dat.str Dat.int)) (eT (eP3 Dat.str Dat.str Dat.int))) (t1.1, t1.2.1)))).bind fun t11 => (cond (decide (t10 = t11)) ((m_Peal___str__ y9).bind fun t12 => some (decide (t12 = a.1))) (some false)).bind fun t13 => some t13)) (fun x => exO "NoText" "row" x (fun y14 => (m__law_sort y14).bind fun t15 => (cond (decide (t15 = (Str.ofString "text"))) ((cond (t1.2.2).isSome ((reprX (id y14)).bind fun t16 => (reprX (id ((eO Dat.int) t1.2.2))).bind fun t17 => some (decide (t16 = t17))) (some false)).bind fun t18 => some t18) (some false)).bind fun t19 => some t19) (none))
abbrev sp__law_read_right [Tb] (K : PySem.W.Frag) : Sp := spP (a__law_read_right K) (m__law_read_right) fun r => DD K (Dat.bool r)
theorem ok__law_read_right [Tb] {P : Program} {w : World} {K : PySem.W.Frag} {mg : Str → Option Value} {base : Heap} (T : Txt K mg) (O__law_read : FnOk P w K mg base CX0 2 T.a__law_read T.d__law_read ["_law_written"] (sp__law_read K)) (O_read_peal_2 : FnOk P w K mg base (L2N.CX P w) 7 T.a_read_peal T.d_read_peal ["text"] (sp_read_peal_2 K)) (O_Peal___str__ : FnOk P w K mg base CX0 1 T.a_Peal___str__ T.d_Peal___str__ ["self"] (sp_Peal___str__ K)) (O__law_sort : FnE P w K mg base CX0 1 T.a__law_sort T.d__law_sort ["_law_e"] (sp__law_sort K)) : FnOkG P w K mg base CX0 (9) T.a__law_read_right T.d__law_read_right ["_law_written", "_law_door"] (sp__law_read_right K) := by
  refine okG T.F__law_read_right sc__law_read_right (fun vs H Q E h => ?_) (fun cdv A outer s0 H vs Q E hr hgd h => ?_)
  · obtain ⟨G, M0, a, r, ok, ⟨v_l_written, _, rfl, h_l_written, v_l_door, _, rfl, h_l_door, rfl⟩, hm, q⟩ := h
    rfl
  · obtain ⟨G, M0, a, r, ok, ⟨v_l_written, _, rfl, h_l_written, v_l_door, _, rfl, h_l_door, rfl⟩, hm, q⟩ := h
    unfold m__law_read_right at hm
    have sg := Same.refl G
    have hB := Same.refl M0
    refine ⟨_, (pss_cons (ps_asg (pe_call O__law_read (hr.mono (by decide)) (by rfl) T.g__law_read T.F__law_read.kp T.b__law_read .nil pass0 (pa_cons (pv 0) pa_nil)) (pg_lstK (K := K) rfl (pgs_cons (pg_name (i := 2) sc__law_read_right.nd rfl (.inl rfl)) (pgs_cons (pg_name (i := 3) sc__law_read_right.nd rfl (.inl rfl)) (pgs_cons (pg_name (i := 4) sc__law_read_right.nd rfl (.inl rfl)) pgs_nil))))) (pss_cons (L2N.ps_try_as (i := 6) rfl rfl sc__law_read_right.nd rfl rfl ⟨by rfl, by decide, .inl T.mc_BellError⟩ takes0N (fun W pn xe tk po => (pss_cons (ps_set (i := 5) sc__law_read_right.nd rfl (.inl rfl) (pe_ifExp (pt_cmpR op_eq (pv 1) pe_int (nomark _)) (pe_callS O_read_peal_2 (hr.mono (by decide)) (by rfl) T.g_read_peal T.F_read_peal.kp T.b_read_peal (fun σ => passAtN tk σ) (pa_cons (pv 0) pa_nil)) (pe_callKwS (g := @kw_read_peal_text) O_read_peal_2 (hr.mono (by decide)) (by rfl) T.g_read_peal T.F_read_peal.kp T.kb_read_peal_text (fun σ => passAtN tk σ) (pk_cons (pv 0) pk_nil)))) pss_nil)) (fun a oe cls d pn hz hf => (pss_if (fun (ec : cls = .ref (clsAt K "NoText")) => (pss_cons (ps_ret (pe_and (pe_cmpR op_eq (pe_callSu O__law_sort hgd (hr.mono (by decide)) hz hf (by rfl) T.g__law_sort T.F__law_sort.kp T.b__law_sort (pa_cons (pv 6) pa_nil)) pe_str (nomark _)) (pe_and (pe_cmpR op_notN (pv 4) pe_non (nomark _)) (pe_one (pe_cmpR op_eq (pe_callB (cl_reprX (K := K) hgd hr.units rfl) (by rfl) T.n_repr (by decide +kernel) (pa_cons (pe_xfSu T.xc_NoText T.xn0_NoText ec hz hf (pv 6)) pa_nil)) (pe_callB (cl_reprX (K := K) hgd hr.units rfl) (by rfl) T.n_repr (by decide +kernel) (pa_cons (pv 4) pa_nil)) (nomark _)))))) pss_nil))))) (pss_cons (ps_if (PW.pt (pw_or (pt_cmpR op_notN (pv 4) pe_non (nomark _)) (pw_or1 (pt_not (pt_val (pe_callB (call_isiKK (K := K)) (by rfl) T.n_isinstance (by decide +kernel) (pa_cons (pv 5) (pa_cons (pe_glob (v := .ref (clsAt K "Peal")) (by rfl) T.mg_Peal rfl) pa_nil)))))))) (pss_cons (ps_ret pe_bl) pss_nil) pss_nil) (pss_cons (ps_ret (pe_and (pe_cmpR op_eq (pe_callB (cl_repr (K := K) hgd hr.units rfl) (by rfl) T.n_repr (by decide +kernel) (pa_cons (pe_tupF (pa_cons (pe_fldK (K := K) (pv 5)) (pa_cons (pe_fldK (K := K) (pv 5)) pa_nil))) pa_nil)) (pe_callB (cl_repr (K := K) hgd hr.units rfl) (by rfl) T.n_repr (by decide +kernel) (pa_cons (pe_tupF (pa_cons (pv 2) (pa_cons (pv 3) pa_nil))) pa_nil)) (nomark _)) (pe_one (pe_cmpR op_eq (pe_callTy (cl_strOwn O_Peal___str__ T.me_Peal___str__.1 T.me_Peal___str__.2 T.b_Peal___str__ (hr.mono (by decide)) pass0) (by rfl) T.n_str (by decide +kernel) (pa_cons (pv 5) pa_nil)) (pv 0) (nomark _))))) pss_nil)))), ?_⟩
    cases h_l_door
    refine nrm (σ' := [some v_l_written, some (.int a.2), none, none, none, none, none]) rfl ?_
    obtain ⟨t1, e_t1, hm⟩ := bs hm
    refine q_asgG (ev_callP (res := fun r => DD K ((ePL3 (eT (eP2 Dat.str Dat.int)) (eT (eP3 Dat.str Dat.str Dat.int)) (eO Dat.int)) r)) (a := a.1) e_t1 (ea_d (ev_d (K := K) rfl h_l_written) ea_nil)) ok (fun v G H s1 ok hv => ?_)
    have h_l_written := dp_up s1 _ h_l_written
    have sg := sg.trans s1
    refine gl3 hv ok.g (fun w2 w3 w4 hw5 hw6 hw7 => ?_)
    refine gn ?_
    have h_l_ringers := hw5
    refine gn ?_
    have h_l_teeth := hw6
    refine gn ?_
    have h_l_at := hw7
    refine nrm (σ' := [some v_l_written, some (.int a.2), some w2, some w3, some w4, none, none]) rfl ?_
    obtain ⟨t8, e_t8, hm⟩ := bs hm
    refine q_try ?_
    refine q_setX (σ' := fun v => [some v_l_written, some (.int a.2), some w2, some w3, some w4, some v, none]) (evr_if (et_test (ev_eqI (ev_d (K := K) rfl (.int _)) (ev_int (K := K)))) (fun eb => (evr_callS (res := fun r => DD K (eX_Peal r)) (a := a.1) (cond_t eb e_t8) (ea_d (ev_d (K := K) rfl h_l_written) ea_nil))) (fun eb => (evr_callKPS (res := fun r => DD K (eX_Peal r)) (a := a.1) (cond_f eb e_t8) (fun _ _ h => kwp_read_peal_text h) (ea_d (ev_d (K := K) rfl h_l_written) ea_nil)))) ok (fun _ => rfl) (fun y9 ey v_l_house G H s1 ok h_l_house => ?_) (fun x ex d G H s1 ok hd => ?_)
    · subst ey
      have hm := orX_l hm
      have h_l_written := dp_up s1 _ h_l_written
      have h_l_ringers := dp_up s1 _ h_l_ringers
      have h_l_teeth := dp_up s1 _ h_l_teeth
      have h_l_at := dp_up s1 _ h_l_at
      have sg := sg.trans s1
      refine q_if (et_or (et_test (ev_notNO (e := Dat.int) (o := t1.2.2) (fun _ h => Dat.noConfusion h) (ev_d (K := K) rfl h_l_at) (ev_non (K := K)))) fun _ => (et_not (et_B (ev_isiX (b := true) T.co_Peal T.ki_Peal (ea_d (ev_d (K := K) rfl h_l_house) (ea_cons mo_clx ev_clx ea_nil)))))) ok (fun hb G H s1 ok => ?_) (fun hb G H s1 ok => ?_)
      · have hm := cond_t hb hm
        have h_l_written := dp_up s1 _ h_l_written
        have h_l_ringers := dp_up s1 _ h_l_ringers
        have h_l_teeth := dp_up s1 _ h_l_teeth
        have h_l_at := dp_up s1 _ h_l_at
        have h_l_house := dp_up s1 _ h_l_house
        have sg := sg.trans s1
        refine q_ret (ev_bl (K := K)) ok (fun v G H s1 ok hv => ?_)
        have sg := sg.trans s1
        cases hm
        exact q v G H sg (ok.less hB) hv
      · have hm := cond_f hb hm
        have h_l_written := dp_up s1 _ h_l_written
        have h_l_ringers := dp_up s1 _ h_l_ringers
        have h_l_teeth := dp_up s1 _ h_l_teeth
        have h_l_at := dp_up s1 _ h_l_at
        have h_l_house := dp_up s1 _ h_l_house
        have sg := sg.trans s1
        refine q_nilU ?_
        obtain ⟨t10, e_t10, hm⟩ := bs hm
        obtain ⟨t11, e_t11, hm⟩ := bs hm
        obtain ⟨t13, e_t13, hm⟩ := bs hm
        refine q_ret (ev_andG (c := t13) (ev_eqS (ev_repr (d := ((eP2 (eT (eP2 Dat.str Dat.int)) (eT (eP3 Dat.str Dat.str Dat.int))) (y9.1, y9.2.1))) (EqE.pur (eqe_P2 (eqe_T (eqe_P2 eqe_str eqe_int)) (eqe_T (eqe_P3 eqe_str eqe_str eqe_int))) _) rfl e_t10 (ea_d (ev_tup (ea_consD (ev_fld (d := (eT (eP2 Dat.str Dat.int)) y9.1) (i := 0) T.cl_Peal T.na_Peal_bells (by decide +kernel) rfl (ev_d (K := K) rfl h_l_house)) (ea_consD (ev_fld (d := (eT (eP3 Dat.str Dat.str Dat.int)) y9.2.1) (i := 1) T.cl_Peal T.na_Peal_notches (by decide +kernel) rfl (ev_d (K := K) rfl h_l_house)) (ea_nilD (K := K))))) ea_nil)) (ev_repr (d := ((eP2 (eT (eP2 Dat.str Dat.int)) (eT (eP3 Dat.str Dat.str Dat.int))) (t1.1, t1.2.1))) (EqE.pur (eqe_P2 (eqe_T (eqe_P2 eqe_str eqe_int)) (eqe_T (eqe_P3 eqe_str eqe_str eqe_int))) _) rfl e_t11 (ea_d (ev_tup (ea_consD (ev_d (K := K) rfl h_l_ringers) (ea_consD (ev_d (K := K) rfl h_l_teeth) (ea_nilD (K := K))))) ea_nil))) (fun eb => by have e1 := cond_t eb e_t13; (obtain ⟨t12, e_t12, e1⟩ := bs e1); (have e1 := Option.some.inj e1); subst e1; exact (ev_eqS (ev_own1 (args := a_Peal___str__ K) (a := y9) rfl e_t12 (ea_d (ev_d (K := K) rfl h_l_house) ea_nil)) (ev_d (K := K) rfl h_l_written))) (fun eb => by have e1 := cond_f eb e_t13; cases e1; exact ⟨rfl, rfl⟩)) ok (fun v G H s1 ok hv => ?_)
        have sg := sg.trans s1
        cases hm
        exact q v G H sg (ok.less hB) hv
    · subst ex
      have hm := orX_r hm
      have h_l_written := dp_up s1 _ h_l_written
      have h_l_ringers := dp_up s1 _ h_l_ringers
      have h_l_teeth := dp_up s1 _ h_l_teeth
      have h_l_at := dp_up s1 _ h_l_at
      have sg := sg.trans s1
      rcases exO_of hm with ⟨y14, rfl, hx0⟩ | hx0
      · refine q_wasS T.em_NoText_BellError (fun xa ha => ?_)
        have hm := hx0
        refine ⟨rfl, ?_⟩
        have h_e : XP K xa d "NoText" (some ("row", y14)) (.ref xa) G := ⟨rfl, hd⟩
        refine nrm (σ' := [some v_l_written, some (.int a.2), some w2, some w3, some w4, none, some (.ref xa)]) rfl ?_
        obtain ⟨t15, e_t15, hm⟩ := bs hm
        obtain ⟨t19, e_t19, hm⟩ := bs hm
        refine q_ret (ev_andG (c := t19) (ev_eqS (ev_callS (K := K) (x := y14) e_t15 (ea_cons mo_xp (ev_x (K := K) rfl h_e) ea_nil)) (ev_str (K := K) (by decide +kernel))) (fun eb => by have e1 := cond_t eb e_t19; (obtain ⟨t18, e_t18, e1⟩ := bs e1); (have e1 := Option.some.inj e1); subst e1; exact (ev_andG (c := t18) (ev_notNO (e := Dat.int) (o := t1.2.2) (fun _ h => Dat.noConfusion h) (ev_d (K := K) rfl h_l_at) (ev_non (K := K))) (fun eb => by have e1 := cond_t eb e_t18; (obtain ⟨t16, e_t16, e1⟩ := bs e1); (obtain ⟨t17, e_t17, e1⟩ := bs e1); (have e1 := Option.some.inj e1); subst e1; exact (ev_eqS (ev_reprX (d := id y14) e_t16 (ea_d (ev_xf (ev_x (K := K) rfl h_e)) ea_nil)) (ev_reprX (d := id ((eO Dat.int) t1.2.2)) e_t17 (ea_d (ev_d (K := K) rfl h_l_at) ea_nil)))) (fun eb => by have e1 := cond_f eb e_t18; cases e1; exact ⟨rfl, rfl⟩))) (fun eb => by have e1 := cond_f eb e_t19; cases e1; exact ⟨rfl, rfl⟩)) ok (fun v G H s1 ok hv => ?_)
        have sg := sg.trans s1
        cases hm
        exact q v G H sg (ok.less hB) hv
      have hm := hx0
      cases hm
/-! ### _law_right -/
theorem sc__law_right : FnScope ["_law_store", "_law_ringers", "_law_teeth", "_law_call", "_law_size", "_law_some", "_law_house", "_law_written", "_law_bell"] ["_law_store"] (defScope s__law_right) := ⟨rfl, rfl, rfl, by decide +kernel, rfl, by decide +kernel, by decide +kernel⟩
def a__law_right (K : PySem.W.Frag) (a : Unit) : List V → Hp → Prop := nilP
def m__law_right (a : Unit) (z : Sto) : Option (Bool × Sto) :=
  (m__law_kit ((8 : Int), (24 : Int)) z).bind fun t1 => (m__law_pull (4 : Int) t1.2).bind fun t6 => (cond (decide (t6.1 = (0 : Int))) ((forO (fun (st10 : (List (Str × Str × Int)) × Sto) (x11 : (Str × Int)) => (lcFS (fun (x20 : (Str × Int)) (x20z : Sto) => cond (!decide (x20.1 = x11.1)) ((m__law_pull (99 : Int) x20z).bind fun t26 => some (some (x11.1, x20.1, ((1 : Int) + t26.1)), t26.2)) (some (none, x20z))) t1.1.1 st10.2).bind fun t27 => (catO st10.1 t27.1).bind fun t28 => some (t28, t27.2)) t1.1.1 (([] : (List (Str × Str × Int))), t6.2)).bind fun fin9 => some (fin9.1, fin9.2)) (some (t1.1.2, t6.2))).bind fun j7 => (forR (R := Bool × Sto) (fun (st31 : Unit) (x32 : (List (Str × Str × Int))) => (m_Peal___init__ (t1.1.1, x32)).bind fun t37 => (m__law_text (t1.1.1, x32)).bind fun t38 => (m_Peal___str__ t37).bind fun t39 => (cond (!decide (t39 = t38)) (some true) ((m__law_read_right (t38, (0 : Int))).bind fun t40 => (cond (!t40) (some true) ((m__law_read_right (t38, (1 : Int))).bind fun t41 => some (!t41))).bind fun t42 => some t42)).bind fun t43 => cond t43 (some (.inr (false, j7.2))) ((m_read_peal t38).bind fun t44 => (m_Peal___eq__ (t44, t37)).bind fun t45 => (cond (!t45) (some true) ((m_read_peal t38).bind fun t46 => (m_Peal___str__ t46).bind fun t47 => (m_read_peal t47).bind fun t48 => (m_Peal___eq__ (t37, t48)).bind fun t49 => some (!t49))).bind fun t50 => cond t50 (some (.inr (false, j7.2))) (some (.inl ())))) ([j7.1, [], (cut j7.1 none (some (1 : Int)))] : (List (List (Str × Str × Int)))) ()).bind fun fin30 => orR fin30 (fun fin30s => some (true, j7.2)) (fun r => some r)
abbrev sp__law_right [Tb] (K : PySem.W.Frag) : Sp := spD (a__law_right K) (m__law_right) fun r => DD K (Dat.bool r)
theorem ok__law_right [Tb] {P : Program} {w : World} {K : PySem.W.Frag} {mg : Str → Option Value} {base : Heap} (T : Txt K mg) (O__law_kit : FnOk P w K mg base CX0 3 T.a__law_kit T.d__law_kit ["_law_store", "_law_upto", "_law_most"] (sp__law_kit K)) (O__law_pull : FnOk P w K mg base CX0 1 T.a__law_pull T.d__law_pull ["_law_store", "_law_many"] (sp__law_pull K)) (O_Peal___init__ : FnOk P w K mg base CX0 5 T.a_Peal___init__ T.d_Peal___init__ ["self", "bells", "notches"] (sp_Peal___init__ K)) (O__law_text : FnOk P w K mg base CX0 1 T.a__law_text T.d__law_text ["_law_ringers", "_law_teeth"] (sp__law_text K)) (O_Peal___str__ : FnOk P w K mg base CX0 1 T.a_Peal___str__ T.d_Peal___str__ ["self"] (sp_Peal___str__ K)) (O__law_read_right : FnOkG P w K mg base CX0 9 T.a__law_read_right T.d__law_read_right ["_law_written", "_law_door"] (sp__law_read_right K)) (O_read_peal : FnOk P w K mg base CX0 7 T.a_read_peal T.d_read_peal ["text"] (sp_read_peal K)) (O_Peal___eq__ : FnOk P w K mg base CX0 1 T.a_Peal___eq__ T.d_Peal___eq__ ["self", "other"] (sp_Peal___eq__ K)) : FnOkG P w K mg base CX0 (10) T.a__law_right T.d__law_right ["_law_store"] (sp__law_right K) := by
  refine okG T.F__law_right sc__law_right (fun vs H Q E h => ?_) (fun cdv A outer s0 H vs Q E hr hgd h => ?_)
  · obtain ⟨G, M0, s, z, z1, a, r, ws, rfl, ok, hs, rfl, hm, q⟩ := h
    rfl
  · obtain ⟨G, M0, s, z, z1, a, r, ws, rfl, ok, hs, rfl, hm, q⟩ := h
    unfold m__law_right at hm
    have sg := Same.refl G
    have hB : ∀ a u, a ≠ s → M0 a = some u → M0 a = some u := fun _ _ _ h => h
    refine ⟨_, (pss_cons (ps_asg (pe_call O__law_kit (hr.mono (by decide)) (by rfl) T.g__law_kit T.F__law_kit.kp T.b__law_kit .nil pass0 (pa_cons (pv 0) (pa_cons pe_int (pa_cons pe_int pa_nil)))) (pg_tup rfl (pgs_cons (pg_name (i := 1) sc__law_right.nd rfl (.inl rfl)) (pgs_cons (pg_name (i := 2) sc__law_right.nd rfl (.inl rfl)) pgs_nil)))) (pss_cons (ps_if (pt_cmpR op_eq (pe_call O__law_pull (hr.mono (by decide)) (by rfl) T.g__law_pull T.F__law_pull.kp T.b__law_pull .nil pass0 (pa_cons (pv 0) (pa_cons pe_int pa_nil))) pe_int (nomark _)) (pss_cons (ps_set (i := 2) sc__law_right.nd rfl (.inl rfl) (pe_lst pa_nil)) (pss_cons (ps_for PassesOwn.never rfl (pi_tupK (K := K) (pv 1)) (pg_tup rfl (pgs_cons (pg_name (i := 3) sc__law_right.nd rfl (.inr rfl)) (pgs_cons (pg_name (i := 4) sc__law_right.nd rfl (.inl rfl)) pgs_nil))) (pss_cons (ps_expr (pe_bm PySem.F.plainAttrs_list PySem.F.slot_list_extend PySem.F.type_list_extend mt_extend (pv 2) (pa_cons (pe_lc (own := [("_law_bell", 8)]) (g := (gName 8)) rfl sc__law_right.nd (pi_tupK (K := K) (pv 1)) (blkOk_by (own := [("_law_bell", 8)]) (N := ["_law_store", "_law_ringers", "_law_teeth", "_law_call", "_law_size", "_law_some", "_law_house", "_law_written", "_law_bell"]) (sc := defScope s__law_right) (by decide +kernel)) (fun _ _ _ _ _ => (pg_name (i := 8) sc__law_right.nd rfl (by first | exact .inl rfl | exact .inr rfl))) (fun _ _ _ _ _ => (pts_one (pt_cmpR op_ne (pe_ix (ix_tupK (K := K)) (pv 8) pe_int (fun _ _ => rfl)) (pv 3) (nomark _)))) (fun _ _ _ _ _ => (pe_tupF (pa_cons (pv 3) (pa_cons (pe_ix (ix_tupK (K := K)) (pv 8) pe_int (fun _ _ => rfl)) (pa_cons (pe_op op_add pe_int (pe_call O__law_pull (hr.mono (by decide)) (by rfl) T.g__law_pull T.F__law_pull.kp T.b__law_pull .nil pass0 (pa_cons (pv 0) (pa_cons pe_int pa_nil)))) pa_nil)))))) pa_nil))) pss_nil)) (pss_cons (ps_set (i := 2) sc__law_right.nd rfl (.inl rfl) (pe_callTy (cl_tupleK (K := K)) (by rfl) T.n_tuple (by decide +kernel) (pa_cons (pv 2) pa_nil))) pss_nil))) pss_nil) (pss_cons (ps_for PassesOwn.never rfl (pi_listK (K := K) (pe_lst (pa_cons (pv 2) (pa_cons (pe_tupF pa_nil) (pa_cons (pe_slice (sl_tupK (K := K)) (pv 2) po_none (po_some pe_int)) pa_nil))))) (pg_name (i := 5) sc__law_right.nd rfl (.inl rfl)) (pss_cons (ps_par (i := 6) (j := 7) rfl sc__law_right.nd rfl rfl (by decide) rfl rfl (pa_cons (pe_make T.mk_Peal O_Peal___init__ (hr.mono (by decide)) (by rfl) T.mg_Peal T.b_Peal___init__ .nil pass0 (pa_cons (pv 1) (pa_cons (pv 5) pa_nil))) (pa_cons (pe_call O__law_text (hr.mono (by decide)) (by rfl) T.g__law_text T.F__law_text.kp T.b__law_text .nil pass0 (pa_cons (pv 1) (pa_cons (pv 5) pa_nil))) pa_nil)) (by rfl)) (pss_cons (ps_if (PW.pt (pw_or (pt_cmpR op_ne (pe_callTy (cl_strOwn O_Peal___str__ T.me_Peal___str__.1 T.me_Peal___str__.2 T.b_Peal___str__ (hr.mono (by decide)) pass0) (by rfl) T.n_str (by decide +kernel) (pa_cons (pv 6) pa_nil)) (pv 7) (nomark _)) (pw_or (pt_not (pt_val (pe_callG O__law_read_right hgd (hr.mono (by decide)) (by rfl) T.g__law_read_right T.F__law_read_right.kp T.b__law_read_right .nil pass0 (pa_cons (pv 7) (pa_cons pe_int pa_nil))))) (pw_or1 (pt_not (pt_val (pe_callG O__law_read_right hgd (hr.mono (by decide)) (by rfl) T.g__law_read_right T.F__law_read_right.kp T.b__law_read_right .nil pass0 (pa_cons (pv 7) (pa_cons pe_int pa_nil))))))))) (pss_cons (ps_ret pe_bl) pss_nil) pss_nil) (pss_cons (ps_if (PW.pt (pw_or (pt_cmpR (op_neOwn O_Peal___eq__ (hr.mono (by decide)) T.mk_Peal.makes T.ne_Peal T.me_Peal___eq__.1 T.me_Peal___eq__.2 T.b_Peal___eq__ pass0) (pe_call O_read_peal (hr.mono (by decide)) (by rfl) T.g_read_peal T.F_read_peal.kp T.b_read_peal .nil pass0 (pa_cons (pv 7) pa_nil)) (pv 6) (nomark _)) (pw_or1 (pt_not (pt_cmpR (op_eqOwn O_Peal___eq__ (hr.mono (by decide)) T.me_Peal___eq__.1 T.me_Peal___eq__.2 T.b_Peal___eq__ pass0) (pv 6) (pe_call O_read_peal (hr.mono (by decide)) (by rfl) T.g_read_peal T.F_read_peal.kp T.b_read_peal .nil pass0 (pa_cons (pe_callTy (cl_strOwn O_Peal___str__ T.me_Peal___str__.1 T.me_Peal___str__.2 T.b_Peal___str__ (hr.mono (by decide)) pass0) (by rfl) T.n_str (by decide +kernel) (pa_cons (pe_call O_read_peal (hr.mono (by decide)) (by rfl) T.g_read_peal T.F_read_peal.kp T.b_read_peal .nil pass0 (pa_cons (pv 7) pa_nil)) pa_nil)) pa_nil)) (nomark _)))))) (pss_cons (ps_ret pe_bl) pss_nil) pss_nil) pss_nil)))) (pss_cons (ps_ret pe_bl) pss_nil)))), ?_⟩
    refine nrm (σ' := [some (.ref s), none, none, none, none, none, none, none, none]) rfl ?_
    obtain ⟨t1, e_t1, hm⟩ := bs hm
    refine q_asgG (ev_callD (a := ((8 : Int), (24 : Int))) (r := t1.1) (z' := t1.2) hs e_t1 (ea_cons mo_ow (ev_own rfl) (ea_d (ev_int (K := K)) (ea_d (ev_int (K := K)) ea_nil)))) ok (fun v G H s1 ok hv => ?_)
    have sg := sg.trans s1
    refine gt2 hv ok.g (fun w2 w3 hw4 hw5 => ?_)
    refine gn ?_
    have h_l_ringers := hw4
    refine gn ?_
    have h_l_teeth := hw5
    refine nrm (σ' := [some (.ref s), some w2, some w3, none, none, none, none, none, none]) rfl ?_
    have ok : Ok _ (upd M0 s (sto t1.2)) _ := ok
    have hs : (upd M0 s (sto t1.2)) s = some (sto t1.2) := upd_same
    have hB : ∀ a u, a ≠ s → M0 a = some u → (upd M0 s (sto t1.2)) a = some u := (hB_draw hB)
    obtain ⟨M, eM⟩ : ∃ m, m = (upd M0 s (sto t1.2)) := ⟨_, rfl⟩
    rw [← eM] at ok hs hB
    clear eM
    obtain ⟨t6, e_t6, hm⟩ := bs hm
    obtain ⟨j7, e_j7, hm⟩ := bs hm
    refine q_ifJ (fun σ1 G1 M1 => ∃ (y_l_call : Option V) (y_l_size : Option V) (v_l_teeth : V), σ1 = [some (.ref s), some w2, some v_l_teeth, y_l_call, y_l_size, none, none, none, none] ∧ (Dq K G1 v_l_teeth ((eT (eP3 Dat.str Dat.str Dat.int)) j7.1)) ∧ (M1 s = some (sto j7.2)) ∧ (∀ a u, a ≠ s → M0 a = some u → M1 a = some u)) (et_test (ev_eqI (ev_callD (a := (4 : Int)) (r := t6.1) (z' := t6.2) hs e_t6 (ea_cons mo_ow (ev_own rfl) (ea_d (ev_int (K := K)) ea_nil))) (ev_int (K := K)))) ok (fun hb G H D1 s1 ok _ _ _ kD => ?_) (fun hb G H D1 s1 ok _ _ _ kD => ?_) (fun σ1 G M H s1 ok hj => ?_)
    · have hm := cond_t hb e_j7
      have h_l_ringers := dp_up s1 _ h_l_ringers
      have h_l_teeth := dp_up s1 _ h_l_teeth
      have sg := sg.trans s1
      have ok : Ok _ (upd M s (sto t6.2)) _ := ok
      have hs : (upd M s (sto t6.2)) s = some (sto t6.2) := upd_same
      have hB : ∀ a u, a ≠ s → M0 a = some u → (upd M s (sto t6.2)) a = some u := (hB_draw hB)
      obtain ⟨M, eM⟩ : ∃ m, m = (upd M s (sto t6.2)) := ⟨_, rfl⟩
      rw [← eM] at ok hs hB
      clear eM
      have sl8 := Same.refl G
      refine q_setL (σ' := fun v => [some (.ref s), some w2, some v, none, none, none, none, none, none]) (el_lst (ea_nilD (K := K))) ok (fun _ => rfl) (fun p_l_teeth vs_l_teeth G H s1 ok hn hd_l_teeth => ?_)
      have h_l_ringers := dp_up s1 _ h_l_ringers
      have sg := sg.trans s1
      have sl8 := sl8.trans s1
      have n_l_store_l_teeth : s ≠ p_l_teeth := ne_of_none hs hn
      have n_l_teeth_l_store := n_l_store_l_teeth.symm
      have h0_l_teeth : M0 p_l_teeth = none := hB_none (M := M) hB hs hn
      have hd_l_teeth : DqAll K G vs_l_teeth (([] : (List (Str × Str × Int))).map (eP3 Dat.str Dat.str Dat.int)) := hd_l_teeth
      have ok : Ok _ (upd M p_l_teeth (.lst vs_l_teeth)) _ := ok
      have hs : (upd M p_l_teeth (.lst vs_l_teeth)) s = some (sto t6.2) := (up_ne n_l_store_l_teeth hs)
      have hB : ∀ a u, a ≠ s → M0 a = some u → (upd M p_l_teeth (.lst vs_l_teeth)) a = some u := (hB_own hB h0_l_teeth)
      have hp_l_teeth : (upd M p_l_teeth (.lst vs_l_teeth)) p_l_teeth = some (.lst vs_l_teeth) := upd_same
      obtain ⟨M, eM⟩ : ∃ m, m = (upd M p_l_teeth (.lst vs_l_teeth)) := ⟨_, rfl⟩
      rw [← eM] at ok hs hB hp_l_teeth
      clear eM
      obtain ⟨fin9, e_fin9, hm⟩ := bs hm
      have hmo12 := hm
      refine q_forO (ea := (eP2 Dat.str Dat.int)) (src_tup (ev_d (K := K) rfl h_l_ringers)) ok (fun (st10 : (List (Str × Str × Int)) × Sto) σ1 G1 M1 => ∃ (y_l_call : Option V) (y_l_size : Option V) (vs_l_teeth : List V), σ1 = [some (.ref s), some w2, some (.ref p_l_teeth), y_l_call, y_l_size, none, none, none, none] ∧ (DqAll K G1 vs_l_teeth (st10.1.map (eP3 Dat.str Dat.str Dat.int))) ∧ (M1 p_l_teeth = some (.lst vs_l_teeth)) ∧ (M1 s = some (sto st10.2)) ∧ (∀ a u, a ≠ s → M0 a = some u → M1 a = some u)) e_fin9 (fun G1 s1 => ⟨_, _, _, rfl, dpAll_up s1 _ hd_l_teeth, hp_l_teeth, hs, hB⟩) (by rintro _ _ _ _ _ ⟨y_l_call, y_l_size, vs_l_teeth, rfl, hd_l_teeth, hp_l_teeth, hs, hB⟩ s2; exact ⟨_, _, _, rfl, dpAll_up s2 _ hd_l_teeth, hp_l_teeth, hs, hB⟩) (fun x11 xv14 st10 st' σ1 G M H N hm hj s1 ok hv hN => ?_) (fun σ1 G M H s1 ok hj => ?_)
      · obtain ⟨y_l_call, y_l_size, vs_l_teeth, rfl, hd_l_teeth, hp_l_teeth, hs, hB⟩ := hj
        have h_l_ringers := dp_up s1 _ h_l_ringers
        have sg := sg.trans s1
        have sl8 := sl8.trans s1
        have sl15 := Same.refl G
        refine gt2 hv ok.g (fun w16 w17 hw18 hw19 => ?_)
        refine gn ?_
        have h_l_call := hw18
        refine gn ?_
        have h_l_size := hw19
        cases h_l_size
        refine nrm (σ' := [some (.ref s), some w2, some (.ref p_l_teeth), some w16, some (.int x11.2), none, none, none, none]) rfl ?_
        obtain ⟨t27, e_t27, hm⟩ := bs hm
        obtain ⟨t28, e_t28, hm⟩ := bs hm
        obtain ⟨hl_t28, ea_t28⟩ := catO_of e_t28
        refine q_extend (ev_own rfl) (ea_d (EvL.ev (el_lcMDF (ea := (eP2 Dat.str Dat.int)) (eb := (eP3 Dat.str Dat.str Dat.int)) (xs := t1.1.1) (r := t27) (hf := e_t27) (src_tup (ev_d (K := K) rfl h_l_ringers)) hs (fun x20 _ x20z _ Mx24 _ _ he25 sM23 hzx20 sG22 hv21 => by exact (tg_name ⟨rfl, lcb_if (et_test (ev_neS (ev_ixT (d := Dat.str x20.1) rfl (ev_d (K := K) rfl hv21) ev_int) (ev_d (K := K) rfl (dp_up sG22 _ h_l_call)))) (fun eb => by have e1 := cond_t eb he25; (obtain ⟨t26, e_t26, e1⟩ := bs e1); cases e1; exact ⟨_, rfl, (ev_tup (ea_consD (ev_d (K := K) rfl (dp_up sG22 _ h_l_call)) (ea_consD (ev_ixT (d := Dat.str x20.1) rfl (ev_d (K := K) rfl hv21) ev_int) (ea_consD (ev_add (ev_int (K := K)) (ev_callD (a := (99 : Int)) (r := t26.1) (z' := t26.2) hzx20 e_t26 (ea_cons mo_ow (ev_own rfl) (ea_d (ev_int (K := K)) ea_nil)))) (ea_nilD (K := K))))))⟩) (fun eb => by have e1 := cond_f eb he25; cases e1; exact ⟨rfl, upd_id hzx20⟩)⟩)))) ea_nil) hp_l_teeth (up_ne n_l_teeth_l_store hp_l_teeth) (by rw [dpAll_len hd_l_teeth, List.length_map, List.length_map]; exact szl hl_t28) ok (fun ws G H s1 ok hv => ?_)
        have h_l_ringers := dp_up s1 _ h_l_ringers
        have hd_l_teeth := dpAll_up s1 _ hd_l_teeth
        have h_l_call := dp_up s1 _ h_l_call
        have sg := sg.trans s1
        have sl15 := sl15.trans s1
        have sl8 := sl8.trans s1
        have hd_l_teeth : DqAll K G (vs_l_teeth ++ ws) (t28.map (eP3 Dat.str Dat.str Dat.int)) := by rw [ea_t28, List.map_append]; exact dpAll_app hd_l_teeth hv
        have ok : Ok _ (upd (upd M s (sto t27.2)) p_l_teeth (.lst (vs_l_teeth ++ ws))) _ := ok
        have hs : (upd (upd M s (sto t27.2)) p_l_teeth (.lst (vs_l_teeth ++ ws))) s = some (sto t27.2) := (up_ne n_l_store_l_teeth upd_same)
        have hB : ∀ a u, a ≠ s → M0 a = some u → (upd (upd M s (sto t27.2)) p_l_teeth (.lst (vs_l_teeth ++ ws))) a = some u := (hB_own (hB_draw hB) h0_l_teeth)
        have hp_l_teeth : (upd (upd M s (sto t27.2)) p_l_teeth (.lst (vs_l_teeth ++ ws))) p_l_teeth = some (.lst (vs_l_teeth ++ ws)) := upd_same
        obtain ⟨M, eM⟩ : ∃ m, m = (upd (upd M s (sto t27.2)) p_l_teeth (.lst (vs_l_teeth ++ ws))) := ⟨_, rfl⟩
        rw [← eM] at ok hs hB hp_l_teeth
        clear eM
        obtain ⟨vs_l_teeth, e_vs⟩ : ∃ m, m = (vs_l_teeth ++ ws) := ⟨_, rfl⟩
        rw [← e_vs] at hp_l_teeth hd_l_teeth
        clear e_vs
        refine q_nil ?_
        cases hm
        exact hN _ _ _ _ sl15 ok ⟨_, _, _, rfl, hd_l_teeth, hp_l_teeth, hs, hB⟩
      · obtain ⟨y_l_call, y_l_size, vs_l_teeth, rfl, hd_l_teeth, hp_l_teeth, hs, hB⟩ := hj
        have h_l_ringers := dp_up s1 _ h_l_ringers
        have sg := sg.trans s1
        have sl8 := sl8.trans s1
        refine q_set (σ' := fun v => [some (.ref s), some w2, some v, y_l_call, y_l_size, none, none, none, none]) (ev_tupO hp_l_teeth hd_l_teeth (ea_cons mo_ow (ev_own rfl) ea_nil)) ok (fun _ => rfl) (fun v_l_teeth G H s1 ok h_l_teeth => ?_)
        have h_l_ringers := dp_up s1 _ h_l_ringers
        have sg := sg.trans s1
        have sl8 := sl8.trans s1
        refine q_nil ?_
        cases hm
        exact kD _ _ _ _ sl8 ok ⟨_, _, _, rfl, h_l_teeth, hs, hB⟩
    · have hm := cond_f hb e_j7
      have h_l_ringers := dp_up s1 _ h_l_ringers
      have h_l_teeth := dp_up s1 _ h_l_teeth
      have sg := sg.trans s1
      have ok : Ok _ (upd M s (sto t6.2)) _ := ok
      have hs : (upd M s (sto t6.2)) s = some (sto t6.2) := upd_same
      have hB : ∀ a u, a ≠ s → M0 a = some u → (upd M s (sto t6.2)) a = some u := (hB_draw hB)
      obtain ⟨M, eM⟩ : ∃ m, m = (upd M s (sto t6.2)) := ⟨_, rfl⟩
      rw [← eM] at ok hs hB
      clear eM
      have sl29 := Same.refl G
      refine q_nil ?_
      cases hm
      exact kD _ _ _ _ sl29 ok ⟨_, _, _, rfl, h_l_teeth, hs, hB⟩
    · obtain ⟨y_l_call, y_l_size, v_l_teeth, rfl, h_l_teeth, hs, hB⟩ := hj
      have h_l_ringers := dp_up s1 _ h_l_ringers
      have sg := sg.trans s1
      obtain ⟨fin30, e_fin30, hm⟩ := bs hm
      have hmo33 := hm
      refine q_forR (ea := (eT (eP3 Dat.str Dat.str Dat.int))) (src_list (EvL.ev (el_lst (ea_consD (ev_d (K := K) rfl h_l_teeth) (ea_consD (ev_tup (ea_nilD (K := K))) (ea_consD (ev_slTM (e := (eP3 Dat.str Dat.str Dat.int)) (ev_d (K := K) rfl h_l_teeth) eo_none (eo_some (ev_int (K := K)))) (ea_nilD (K := K)))))))) ok (fun (st31 : Unit) σ1 G1 M1 => ∃ (y_l_house : Option V) (y_l_written : Option V) (y_l_some : Option V), σ1 = [some (.ref s), some w2, some v_l_teeth, y_l_call, y_l_size, y_l_some, y_l_house, y_l_written, none] ∧ (M1 s = some (sto j7.2)) ∧ (∀ a u, a ≠ s → M0 a = some u → M1 a = some u)) e_fin30 (fun G1 s1 => ⟨_, _, _, rfl, hs, hB⟩) (by rintro _ _ _ _ _ ⟨y_l_house, y_l_written, y_l_some, rfl, hs, hB⟩ s2; exact ⟨_, _, _, rfl, hs, hB⟩) (fun x32 xv35 st31 st' σ1 G M H N hm hret34 hj s1 ok hv hN => ?_) (fun fin30s σ1 G M H hfin s1 ok hj => ?_)
      · obtain ⟨y_l_house, y_l_written, y_l_some, rfl, hs, hB⟩ := hj
        have h_l_ringers := dp_up s1 _ h_l_ringers
        have h_l_teeth := dp_up s1 _ h_l_teeth
        have sg := sg.trans s1
        have sl36 := Same.refl G
        refine gn ?_
        have h_l_some := hv
        refine nrm (σ' := [some (.ref s), some w2, some v_l_teeth, y_l_call, y_l_size, some xv35, y_l_house, y_l_written, none]) rfl ?_
        obtain ⟨t37, e_t37, hm⟩ := bs hm
        obtain ⟨t38, e_t38, hm⟩ := bs hm
        refine q_par (σ' := fun v w => [some (.ref s), some w2, some v_l_teeth, y_l_call, y_l_size, some xv35, some v, some w, none]) (ea_d (ev_make (a := (t1.1.1, x32)) e_t37 (ea_d (ev_d (K := K) rfl h_l_ringers) (ea_d (ev_d (K := K) rfl h_l_some) ea_nil))) (ea_d (ev_callP (res := fun r => DD K (Dat.str r)) (a := (t1.1.1, x32)) e_t38 (ea_d (ev_d (K := K) rfl h_l_ringers) (ea_d (ev_d (K := K) rfl h_l_some) ea_nil))) ea_nil)) ok (fun _ _ => rfl) (fun v_l_house v_l_written G H s1 ok h_l_house h_l_written => ?_)
        have h_l_ringers := dp_up s1 _ h_l_ringers
        have h_l_teeth := dp_up s1 _ h_l_teeth
        have h_l_some := dp_up s1 _ h_l_some
        have sg := sg.trans s1
        have sl36 := sl36.trans s1
        obtain ⟨t39, e_t39, hm⟩ := bs hm
        obtain ⟨t43, e_t43, hm⟩ := bs hm
        refine q_if (et_orG (c := t43) (et_test (ev_neS (ev_own1 (args := a_Peal___str__ K) (a := t37) rfl e_t39 (ea_d (ev_d (K := K) rfl h_l_house) ea_nil)) (ev_d (K := K) rfl h_l_written))) (fun eb => by have e1 := cond_f eb e_t43; (obtain ⟨t40, e_t40, e1⟩ := bs e1); (obtain ⟨t42, e_t42, e1⟩ := bs e1); (have e1 := Option.some.inj e1); subst e1; exact (et_orG (c := t42) (et_not (et_B (ev_callP (res := fun r => DD K (Dat.bool r)) (a := (t38, (0 : Int))) e_t40 (ea_d (ev_d (K := K) rfl h_l_written) (ea_d (ev_int (K := K)) ea_nil))))) (fun eb => by have e1 := cond_f eb e_t42; (obtain ⟨t41, e_t41, e1⟩ := bs e1); (have e1 := Option.some.inj e1); subst e1; exact (et_not (et_B (ev_callP (res := fun r => DD K (Dat.bool r)) (a := (t38, (1 : Int))) e_t41 (ea_d (ev_d (K := K) rfl h_l_written) (ea_d (ev_int (K := K)) ea_nil)))))) (fun eb => by have e1 := cond_t eb e_t42; cases e1; exact ⟨rfl, rfl⟩))) (fun eb => by have e1 := cond_t eb e_t43; cases e1; exact ⟨rfl, rfl⟩)) ok (fun hb G H s1 ok => ?_) (fun hb G H s1 ok => ?_)
        · have hm := cond_t hb hm
          have h_l_ringers := dp_up s1 _ h_l_ringers
          have h_l_teeth := dp_up s1 _ h_l_teeth
          have h_l_some := dp_up s1 _ h_l_some
          have h_l_house := dp_up s1 _ h_l_house
          have h_l_written := dp_up s1 _ h_l_written
          have sg := sg.trans s1
          have sl36 := sl36.trans s1
          refine q_ret (ev_bl (K := K)) ok (fun v G H s1 ok hv => ?_)
          have sg := sg.trans s1
          cases hm
          have hf0 := hret34 _ rfl
          rw [hf0] at hmo33
          have hmx0 := hmo33
          cases hmx0
          exact q v G H sg (ok.less (same_fin hB hs)) hv
        · have hm := cond_f hb hm
          have h_l_ringers := dp_up s1 _ h_l_ringers
          have h_l_teeth := dp_up s1 _ h_l_teeth
          have h_l_some := dp_up s1 _ h_l_some
          have h_l_house := dp_up s1 _ h_l_house
          have h_l_written := dp_up s1 _ h_l_written
          have sg := sg.trans s1
          have sl36 := sl36.trans s1
          refine q_nilU ?_
          obtain ⟨t44, e_t44, hm⟩ := bs hm
          obtain ⟨t45, e_t45, hm⟩ := bs hm
          obtain ⟨t50, e_t50, hm⟩ := bs hm
          refine q_if (et_orG (c := t50) (et_test (ev_is (ev_cmpOwn (args := a_Peal___eq__ K) (a := (t44, t37)) (neg := true) rfl e_t45 (ev_callP (res := fun r => DD K (eX_Peal r)) (a := t38) e_t44 (ea_d (ev_d (K := K) rfl h_l_written) ea_nil)) (ev_d (K := K) rfl h_l_house)) rfl)) (fun eb => by have e1 := cond_f eb e_t50; (obtain ⟨t46, e_t46, e1⟩ := bs e1); (obtain ⟨t47, e_t47, e1⟩ := bs e1); (obtain ⟨t48, e_t48, e1⟩ := bs e1); (obtain ⟨t49, e_t49, e1⟩ := bs e1); (have e1 := Option.some.inj e1); subst e1; exact (et_not (et_test (ev_is (ev_cmpOwn (args := a_Peal___eq__ K) (a := (t37, t48)) (neg := false) rfl e_t49 (ev_d (K := K) rfl h_l_house) (ev_callP (res := fun r => DD K (eX_Peal r)) (a := t47) e_t48 (ea_d (ev_own1 (args := a_Peal___str__ K) (a := t46) rfl e_t47 (ea_d (ev_callP (res := fun r => DD K (eX_Peal r)) (a := t38) e_t46 (ea_d (ev_d (K := K) rfl h_l_written) ea_nil)) ea_nil)) ea_nil))) rfl)))) (fun eb => by have e1 := cond_t eb e_t50; cases e1; exact ⟨rfl, rfl⟩)) ok (fun hb G H s1 ok => ?_) (fun hb G H s1 ok => ?_)
          · have hm := cond_t hb hm
            have h_l_ringers := dp_up s1 _ h_l_ringers
            have h_l_teeth := dp_up s1 _ h_l_teeth
            have h_l_some := dp_up s1 _ h_l_some
            have h_l_house := dp_up s1 _ h_l_house
            have h_l_written := dp_up s1 _ h_l_written
            have sg := sg.trans s1
            have sl36 := sl36.trans s1
            refine q_ret (ev_bl (K := K)) ok (fun v G H s1 ok hv => ?_)
            have sg := sg.trans s1
            cases hm
            have hf0 := hret34 _ rfl
            rw [hf0] at hmo33
            have hmx0 := hmo33
            cases hmx0
            exact q v G H sg (ok.less (same_fin hB hs)) hv
          · have hm := cond_f hb hm
            have h_l_ringers := dp_up s1 _ h_l_ringers
            have h_l_teeth := dp_up s1 _ h_l_teeth
            have h_l_some := dp_up s1 _ h_l_some
            have h_l_house := dp_up s1 _ h_l_house
            have h_l_written := dp_up s1 _ h_l_written
            have sg := sg.trans s1
            have sl36 := sl36.trans s1
            refine q_nilU ?_
            refine q_nil ?_
            cases hm
            exact hN _ _ _ _ _ rfl sl36 ok ⟨_, _, _, rfl, hs, hB⟩
      · obtain ⟨y_l_house, y_l_written, y_l_some, rfl, hs, hB⟩ := hj
        have h_l_ringers := dp_up s1 _ h_l_ringers
        have h_l_teeth := dp_up s1 _ h_l_teeth
        have sg := sg.trans s1
        rw [hfin] at hm
        have hm := orR_l hm
        refine q_ret (ev_bl (K := K)) ok (fun v G H s1 ok hv => ?_)
        have sg := sg.trans s1
        cases hm
        exact q v G H sg (ok.less (same_fin hB hs)) hv
/-! ### law -/
theorem sc_law : FnScope ["_law_script", "_law_k"] ["_law_script"] (defScope s_law) := ⟨rfl, rfl, rfl, by decide +kernel, rfl, by decide +kernel, by decide +kernel⟩
def a_law (K : PySem.W.Frag) (a : (List Int)) : List V → Hp → Prop := conP (SCP K a) (nilP)
def m_law (a : (List Int)) : Option Bool :=
  (rngO (if (if (6 : Int) < (a.length : Int) then (6 : Int) else (a.length : Int)) > (2 : Int) then (if (6 : Int) < (a.length : Int) then (6 : Int) else (a.length : Int)) else (2 : Int))).bind fun t1 => (lcO (fun x2 : Int => (m__law_opened (a, x2)).bind fun t8 => (m__law_right () t8).bind fun t9 => some t9.1) t1).bind fun t10 => some (t10.all id)
abbrev sp_law [Tb] (K : PySem.W.Frag) : Sp := spP (a_law K) (m_law) fun r => DD K (Dat.bool r)
theorem ok_law [Tb] {P : Program} {w : World} {K : PySem.W.Frag} {mg : Str → Option Value} {base : Heap} (T : Txt K mg) (O__law_right : FnOkG P w K mg base CX0 10 T.a__law_right T.d__law_right ["_law_store"] (sp__law_right K)) (O__law_opened : FnOk P w K mg base CX0 1 T.a__law_opened T.d__law_opened ["_law_script", "_law_k"] (sp__law_opened K)) : FnOkG P w K mg base CX0 (11) T.a_law T.d_law ["_law_script"] (sp_law K) := by
  refine okG T.F_law sc_law (fun vs H Q E h => ?_) (fun cdv A outer s0 H vs Q E hr hgd h => ?_)
  · obtain ⟨G, M0, a, r, ok, ⟨v_l_script, _, rfl, h_l_script, rfl⟩, hm, q⟩ := h
    rfl
  · obtain ⟨G, M0, a, r, ok, ⟨v_l_script, _, rfl, h_l_script, rfl⟩, hm, q⟩ := h
    unfold m_law at hm
    have sg := Same.refl G
    have hB := Same.refl M0
    refine ⟨_, (pss_cons (ps_ret (pe_callB (cr_allK (K := K) rfl) (by rfl) T.n_all (by decide +kernel) (pa_cons (pe_lc (own := [("_law_k", 1)]) (g := (gName 1)) (tt := tYes) rfl sc_law.nd (pi_range1 (by rfl) T.n_range (pa_cons (pe_callB (cl_max2 rfl) (by rfl) T.n_max (by decide +kernel) (pa_cons pe_int (pa_cons (pe_callB (cl_min2 rfl) (by rfl) T.n_min (by decide +kernel) (pa_cons (pe_callB (cl_lenK (K := K)) (by rfl) T.n_len (by decide +kernel) (pa_cons (pv 0) pa_nil)) (pa_cons pe_int pa_nil))) pa_nil))) pa_nil)) (blkOk_by (own := [("_law_k", 1)]) (N := ["_law_script", "_law_k"]) (sc := defScope s_law) (by decide +kernel)) (fun _ _ _ _ _ => (pg_name (i := 1) sc_law.nd rfl (by first | exact .inl rfl | exact .inr rfl))) (fun _ _ _ _ _ => pts_nil) (fun _ _ _ _ _ => (pe_callG O__law_right hgd (hr.mono (by decide)) (by rfl) T.g__law_right T.F__law_right.kp T.b__law_right .nil pass0 (pa_cons (pe_call O__law_opened (hr.mono (by decide)) (by rfl) T.g__law_opened T.F__law_opened.kp T.b__law_opened .nil pass0 (pa_cons (pv 0) (pa_cons (pv 1) pa_nil))) pa_nil)))) pa_nil))) pss_nil), ?_⟩
    refine nrm (σ' := [some v_l_script, none]) rfl ?_
    obtain ⟨t1, e_t1, hm⟩ := bs hm
    obtain ⟨t10, e_t10, hm⟩ := bs hm
    refine q_ret (ev_allL (ea_d (EvL.ev (el_lcM (ea := Dat.int) (eb := Dat.bool) (xs := t1) (ys := t10) (hf := e_t10) (src_rngO e_t1 (ea_d (ev_max2 (ea_d (ev_int (K := K)) (ea_d (ev_min2 (ea_d (ev_lenScr (ea_cons mo_scp (ev_var rfl mo_scp h_l_script) ea_nil)) (ea_d (ev_int (K := K)) ea_nil))) ea_nil))) ea_nil)) (fun x2 _ Mx6 _ _ he7 sM5 sG4 hv3 => by (obtain ⟨t8, e_t8, he7⟩ := bs he7); (obtain ⟨t9, e_t9, he7⟩ := bs he7); cases he7; exact (tg_name ⟨rfl, (ev_open (a := (a, x2)) e_t8 e_t9 (fun _ => rfl) (ea_cons mo_scp (ev_var rfl mo_scp (mo_scp _ _ _ sG4 h_l_script)) (ea_cons mo_dd (ev_d (K := K) rfl hv3) ea_nil)))⟩)))) ea_nil)) ok (fun v G H s1 ok hv => ?_)
    have sg := sg.trans s1
    cases hm
    exact q v G H sg (ok.less hB) hv
end K05
end
section
set_option maxHeartbeats 2000000
namespace Mx
open PySem L2 Kx
/-! ### what a mirror tells, by what is wanted of it -/
def Wp {α : Type} (o : Option α) (P : α → Prop) : Prop := ∃ r, o = some r ∧ P r
section
variable {α β γ S R : Type}
theorem wp_some {r : α} {P : α → Prop} (h : P r) : Wp (some r) P := ⟨r, rfl, h⟩
theorem wp_bind {o : Option α} {f : α → Option β} {P : α → Prop} {Q : β → Prop} (h : Wp o P) (k : ∀ r, P r → Wp (f r) Q) : Wp (o.bind f) Q := by
  obtain ⟨r, e, p⟩ := h
  obtain ⟨s, e2, q⟩ := k r p
  exact ⟨s, by rw [e]; exact e2, q⟩
theorem Wp.imp {o : Option α} {P Q : α → Prop} (h : Wp o P) (k : ∀ r, P r → Q r) : Wp o Q := by
  obtain ⟨r, e, p⟩ := h
  exact ⟨r, e, k r p⟩
theorem wp_cond {b : Bool} {x y : Option α} {P : α → Prop} (h1 : b = true → Wp x P) (h2 : b = false → Wp y P) : Wp (cond b x y) P := by
  cases b with
  | true => exact h1 rfl
  | false => exact h2 rfl
theorem wp_grd {p : Prop} [Decidable p] (h : p) : Wp (grd p) fun _ => True := ⟨(), grd_yes h, trivial⟩
theorem wp_mulO {i j : Int} {P : Int → Prop} (h : CMulO i j) (k : P (i * j)) : Wp (mulO i j) P := wp_bind (wp_grd h) fun _ _ => wp_some k
theorem wp_fdivO {i j : Int} {P : Int → Prop} (h : CDivN i j) (k : P (i.fdiv j)) : Wp (fdivO i j) P := wp_bind (wp_grd (.inl h)) fun _ _ => wp_some k
theorem wp_modO {i j : Int} {P : Int → Prop} (h : j ≠ 0) (k : P (i.fmod j)) : Wp (modO i j) P := wp_bind (wp_grd h) fun _ _ => wp_some k
theorem wp_powO {i j : Int} {P : Int → Prop} (h : CPow i j) (k : P (i ^ j.toNat)) : Wp (powO i j) P := wp_bind (wp_grd h) fun _ _ => wp_some k
theorem cdivw {i j : Int} {n : Nat} (h1 : 0 < j) (h2 : j < 2 ^ 200) : CDivW i j := ⟨h1, Nat.lt_of_lt_of_le (PySem.Flt.log2_lt_of (k := 200) (by decide) (by omega)) (by decide)⟩
theorem wp_dmO {i j : Int} {P : Int × Int → Prop} (h : CDivW i j) (k : P (i / j, i % j)) : Wp (dmO i j) P := wp_bind (wp_grd h) fun _ _ => wp_some k
theorem wp_is {o : Option α} {x : α} {P : α → Prop} (h : o = some x) (k : P x) : Wp o P := ⟨x, h, k⟩
theorem wp_appO {xs : List α} {x : α} {P : List α → Prop} (h : xs.length < 16777216) (k : P (xs ++ [x])) : Wp (appO xs x) P := wp_bind (wp_grd h) fun _ _ => wp_some k
theorem wp_catO {xs ys : List α} {P : List α → Prop} (h : xs.length + ys.length ≤ 16777216) (k : P (xs ++ ys)) : Wp (catO xs ys) P := wp_bind (wp_grd h) fun _ _ => wp_some k
theorem wp_rngO {n : Int} {P : List Int → Prop} (h : -(2 ^ 62) ≤ n ∧ n < 2 ^ 62) (k : P (irange 0 n)) : Wp (rngO n) P := wp_bind (wp_grd h) fun _ _ => wp_some k
theorem wp_rngN {n : Nat} {P : List Int → Prop} (h : n ≤ 16777216) (k : P (irange 0 (n : Int))) : Wp (rngO (n : Int)) P := wp_rngO (by omega) k
theorem atI_nat' {xs : List α} {i : Nat} (h : i < xs.length) : atI xs (i : Int) = some xs[i] := by
  unfold atI ixN
  rw [if_pos (by omega), if_pos (by omega)]
  show xs[(i : Int).toNat]? = _
  rw [Int.toNat_natCast]
  exact List.getElem?_eq_getElem h
theorem wp_atI {xs : List α} {i : Nat} {P : α → Prop} (h : i < xs.length) (k : P xs[i]) : Wp (atI xs (i : Int)) P := ⟨_, atI_nat' h, k⟩
/-- a comprehension: each element by what is wanted of it -/
theorem wp_mapO {f : α → Option β} {T : α → β → Prop} : ∀ {xs : List α}, (∀ x ∈ xs, Wp (f x) (T x)) → Wp (mapO f xs) fun ys => ys.length = xs.length ∧ ∀ (i : Nat) (x : α) (y : β), xs[i]? = some x → ys[i]? = some y → T x y
  | [], _ => wp_some ⟨rfl, fun i x y h => by simp at h⟩
  | a :: xs, h => by
    refine wp_bind (h a List.mem_cons_self) fun b hb => wp_bind (wp_mapO fun x hx => h x (List.mem_cons_of_mem _ hx)) fun ys hys => wp_some ⟨congrArg (· + 1) hys.1, fun i x y hx hy => ?_⟩
    cases i with
    | zero => simp at hx hy; subst hx; subst hy; exact hb
    | succ i => exact hys.2 i x y (by simpa using hx) (by simpa using hy)
theorem wp_lcO {f : α → Option β} {xs : List α} {P : List β → Prop} (T : α → β → Prop) (hl : xs.length ≤ 16777216) (h : ∀ x ∈ xs, Wp (f x) (T x)) (k : ∀ ys, ys.length = xs.length → (∀ (i : Nat) (x : α) (y : β), xs[i]? = some x → ys[i]? = some y → T x y) → P ys) : Wp (lcO f xs) P :=
  wp_bind (wp_grd hl) fun _ _ => (wp_mapO h).imp fun ys hy => k ys hy.1 hy.2
/-- its elements are a function of the items -/
theorem wp_lcO_map {f : α → Option β} {xs : List α} {P : List β → Prop} (g : α → β) (hl : xs.length ≤ 16777216) (h : ∀ x ∈ xs, f x = some (g x)) (k : P (xs.map g)) : Wp (lcO f xs) P :=
  wp_lcO (fun x y => y = g x) hl (fun x hx => ⟨g x, h x hx, rfl⟩) fun ys h1 h2 => by
    have : ys = xs.map g := by
      apply List.ext_getElem?
      intro i
      rw [List.getElem?_map]
      by_cases hi : i < xs.length
      · rw [List.getElem?_eq_getElem hi, List.getElem?_eq_getElem (by omega)]
        exact congrArg some (h2 i xs[i] ys[i] (List.getElem?_eq_getElem hi) (List.getElem?_eq_getElem (by omega)))
      · rw [List.getElem?_eq_none (by omega), List.getElem?_eq_none (by omega)]
        rfl
    rw [this]
    exact k
theorem wp_mapS {f : α → Sto → Option (β × Sto)} {T : α → β → Prop} : ∀ {xs : List α} {z : Sto}, (∀ x ∈ xs, ∀ z, Wp (f x z) fun r => T x r.1) → Wp (mapS f xs z) fun r => r.1.length = xs.length ∧ ∀ (i : Nat) (x : α) (y : β), xs[i]? = some x → r.1[i]? = some y → T x y
  | [], z, _ => wp_some ⟨rfl, fun i x y h => by simp at h⟩
  | a :: xs, z, h => by
    refine wp_bind (h a List.mem_cons_self z) fun b hb => wp_bind (wp_mapS fun x hx => h x (List.mem_cons_of_mem _ hx)) fun ys hys => wp_some ⟨congrArg (· + 1) hys.1, fun i x y hx hy => ?_⟩
    cases i with
    | zero => simp at hx hy; subst hx; subst hy; exact hb
    | succ i => exact hys.2 i x y (by simpa using hx) (by simpa using hy)
theorem wp_lcS {f : α → Sto → Option (β × Sto)} {xs : List α} {z : Sto} {P : List β × Sto → Prop} (T : α → β → Prop) (hl : xs.length ≤ 16777216) (h : ∀ x ∈ xs, ∀ z, Wp (f x z) fun r => T x r.1) (k : ∀ r : List β × Sto, r.1.length = xs.length → (∀ (i : Nat) (x : α) (y : β), xs[i]? = some x → r.1[i]? = some y → T x y) → P r) : Wp (lcS f xs z) P :=
  wp_bind (wp_grd hl) fun _ _ => (wp_mapS h).imp fun ys hy => k ys hy.1 hy.2
/-- a for, by an invariant over the turn -/
theorem wp_forO_at {f : S → α → Option S} {xs : List α} {P : S → Prop} (I : Nat → S → Prop) (hs : ∀ (i : Nat) (x : α) (s : S), xs[i]? = some x → I i s → Wp (f s x) (I (i + 1))) (hd : ∀ s, I xs.length s → P s) : ∀ (i : Nat) (s : S), i ≤ xs.length → I i s → Wp (forO f (xs.drop i) s) P := by
  intro i
  generalize hn : xs.length - i = n
  induction n generalizing i with
  | zero =>
    intro s hi h
    have e : i = xs.length := by omega
    subst e
    rw [List.drop_length]
    exact wp_some (hd s h)
  | succ n ih =>
    intro s hi h
    have hlt : i < xs.length := by omega
    rw [List.drop_eq_getElem_cons hlt]
    exact wp_bind (hs i xs[i] s (List.getElem?_eq_getElem hlt) h) fun s' h' => ih (i + 1) (by omega) s' (by omega) h'
theorem wp_forO {f : S → α → Option S} {xs : List α} {s : S} {P : S → Prop} (I : Nat → S → Prop) (h0 : I 0 s) (hs : ∀ (i : Nat) (x : α) (s : S), xs[i]? = some x → I i s → Wp (f s x) (I (i + 1))) (hd : ∀ s, I xs.length s → P s) : Wp (forO f xs s) P :=
  wp_forO_at I hs hd 0 s (Nat.zero_le _) h0
/-- a for that may return: J of what is handed on, Pr of what is returned -/
theorem wp_forR {f : S → α → Option (S ⊕ R)} {xs : List α} {s : S} {P : S ⊕ R → Prop} (I : S → Prop) (h0 : I s) (hs : ∀ x ∈ xs, ∀ s, I s → Wp (f s x) fun r => ∃ s', r = .inl s' ∧ I s') (hd : ∀ s, I s → P (.inl s)) : Wp (forR f xs s) P := by
  induction xs generalizing s with
  | nil => exact wp_some (hd s h0)
  | cons a xs ih =>
    refine wp_bind (hs a List.mem_cons_self s h0) fun r hr => ?_
    obtain ⟨s', rfl, h'⟩ := hr
    exact ih h' fun x hx => hs x (List.mem_cons_of_mem _ hx)
end
/-! ### ranges -/
theorem irange_nat_len (n : Nat) : (irange 0 (n : Int)).length = n := by rw [irange_len]; omega
theorem irange_at {n i : Nat} {x : Int} (h : (irange 0 (n : Int))[i]? = some x) : i < n ∧ x = (i : Int) := by
  have hl : i < (irange 0 (n : Int)).length := (List.getElem?_eq_some_iff.mp h).1
  rw [irange_nat_len] at hl
  rw [irange_get (by omega)] at h
  cases h
  exact ⟨hl, by omega⟩
theorem irange_mem {n : Nat} {x : Int} (h : x ∈ irange 0 (n : Int)) : ∃ i : Nat, i < n ∧ x = (i : Int) := by
  obtain ⟨i, hi, e⟩ := List.mem_iff_getElem.mp h
  exact ⟨i, irange_at (by rw [← e]; exact List.getElem?_eq_getElem hi)⟩
theorem enum_at {α : Type} {xs : List α} {i : Nat} {p : Int × α} (h : (enum xs)[i]? = some p) : ∃ x, xs[i]? = some x ∧ p = ((i : Int), x) := by
  unfold enum at h
  rw [List.getElem?_mapIdx] at h
  cases e : xs[i]? with
  | none => rw [e] at h; cases h
  | some x => rw [e] at h; cases h; exact ⟨x, rfl, rfl⟩
theorem enum_len {α : Type} {xs : List α} : (enum xs).length = xs.length := by unfold enum; simp
theorem cut_to {α : Type} (xs : List α) (p : Nat) : cut xs none (some (p : Int)) = xs.take p := by
  unfold cut
  rw [HT.sIx_none, HT.sIx_nat, List.drop_zero, Nat.sub_zero]
  by_cases h : p ≤ xs.length
  · rw [Nat.min_eq_left h]
  · rw [Nat.min_eq_right (by omega), List.take_length, List.take_of_length_le (by omega)]
end Mx
end
section
set_option maxHeartbeats 2000000
namespace Mx
/-! ### rows of numbers as functions -/
abbrev Vc := Nat → Int
def vf (l : List Int) : Vc := fun i => l.getD i 0
theorem vf_at {l : List Int} {i : Nat} (h : i < l.length) : vf l i = l[i] := by unfold vf; simp [List.getD, h]
/-! ### all that is spanned -/
inductive Spn (S : Vc → Prop) : Vc → Prop
  | zero : Spn S fun _ => 0
  | add {x g : Vc} : Spn S x → S g → Spn S fun i => x i + g i
  | sub {x g : Vc} : Spn S x → S g → Spn S fun i => x i - g i
section
variable {S T : Vc → Prop}
theorem Spn.is {x y : Vc} (h : Spn S x) (e : ∀ i, x i = y i) : Spn S y := by
  have : x = y := funext e
  exact this ▸ h
theorem Spn.of {g : Vc} (h : S g) : Spn S g := (Spn.add .zero h).is fun i => by (try dsimp only); omega
end
/-! ### rungs: noughts ahead, a step above 0 at the place -/
/-- by place: what can be gone down to nothing -/
def Down (n : Nat) (r : Nat → Vc) : Nat → Nat → Vc → Prop
  | 0, _, x => ∀ i, x i = 0
  | m + 1, p, x => ∃ c : Int, x p = c * r p p ∧ Down n r m (p + 1) fun i => x i - c * r p i
theorem Down.is {n : Nat} {r : Nat → Vc} : ∀ {m p : Nat} {x y : Vc}, Down n r m p x → (∀ i, x i = y i) → Down n r m p y := fun {m p x y} h e => by
  have : x = y := funext e
  exact this ▸ h
end Mx
end
section
set_option maxHeartbeats 2000000
namespace K05
open PySem L2 Kx Mx
theorem fm {a b : Int} (h : 0 < b) : a.fmod b = a % b := Int.fmod_eq_emod_of_nonneg a (by omega)
theorem fd {a b : Int} (h : 0 < b) : a.fdiv b = a / b := Int.fdiv_eq_ediv_of_nonneg a (by omega)
/-- moduli -/
structure Mdl (m : List Int) : Prop where
  l1 : 1 ≤ m.length
  l2 : m.length ≤ 12
  b : ∀ x ∈ m, 1 ≤ x ∧ x ≤ 99
theorem Mdl.at {m : List Int} (h : Mdl m) {i : Nat} (hi : i < m.length) : 1 ≤ vf m i ∧ vf m i ≤ 99 := by
  rw [vf_at hi]
  exact h.b _ (List.getElem_mem hi)
theorem small_mul {i j : Int} (h : -(2 ^ 64) < j ∧ j < 2 ^ 64) : CMulO i j := .inl (.inr h)
theorem small_mul' {i j : Int} (h : -(2 ^ 64) < i ∧ i < 2 ^ 64) : CMulO i j := .inl (.inl h)
end K05
end
section
set_option maxHeartbeats 2000000
namespace K05
open PySem L2 Kx Mx
theorem pull_spec {a : Int} (z : Sto) (h1 : 0 < a) (h2 : a < 2 ^ 200) : Wp (m__law_pull a z) fun r => 0 ≤ r.1 ∧ r.1 < a := by
  unfold m__law_pull pullM
  refine wp_cond (fun e => ?_) (fun e => ?_)
  · refine wp_bind (wp_dmO (P := fun t => t = (z.1 / a, z.1 % a)) (cdivw (n := 0) h1 h2) rfl) fun t ht => wp_some ?_
    subst ht
    exact ⟨Int.emod_nonneg _ (by omega), Int.emod_lt_of_pos _ h1⟩
  · refine wp_bind (wp_modO (P := fun t => 0 ≤ t ∧ t < 40961) (by decide) ?_) fun t1 ⟨g1, g2⟩ => ?_
    · rw [fm (by decide)]
      exact ⟨Int.emod_nonneg _ (by decide), Int.emod_lt_of_pos _ (by decide)⟩
    refine wp_bind (wp_mulO (P := fun _ => True) (small_mul ⟨by omega, by omega⟩) trivial) fun t2 _ => wp_bind (wp_mulO (P := fun _ => True) (small_mul' ⟨by decide, by decide⟩) trivial) fun t3 _ => ?_
    refine wp_bind (wp_modO (P := fun _ => True) (by decide) trivial) fun t4 _ => wp_bind (wp_fdivO (P := fun _ => True) ⟨by decide, by decide⟩ trivial) fun t5 _ => wp_bind (wp_modO (P := fun t => 0 ≤ t ∧ t < a) (by omega) ?_) fun t6 h6 => wp_some h6
    rw [fm h1]
    exact ⟨Int.emod_nonneg _ (by omega), Int.emod_lt_of_pos _ h1⟩
theorem opened_spec (ns : List Int) (k : Nat) : Wp (m__law_opened (ns, (k : Int))) fun _ => True := by
  unfold m__law_opened
  dsimp only
  refine wp_bind (wp_mulO (P := fun _ => True) (small_mul' ⟨by decide, by decide⟩) trivial) fun t1 _ => ?_
  refine wp_bind (P := fun _ => True) (wp_cond (fun e => ?_) (fun e => wp_some trivial)) fun j2 _ => ?_
  · have : (k : Int) < (ns.length : Int) := of_decide_eq_true e
    exact wp_bind (wp_atI (i := k) (P := fun _ => True) (by omega) trivial) fun t4 _ => wp_some trivial
  refine wp_bind (P := fun _ => True) (wp_cond (fun e => wp_some trivial) (fun e => wp_bind (wp_powO (P := fun _ => True) ⟨by decide, by decide, by decide⟩ trivial) fun t6 _ => wp_some trivial)) fun t7 _ => ?_
  refine wp_bind (wp_mulO (P := fun _ => True) (small_mul (by split <;> omega)) trivial) fun t8 _ => wp_bind (wp_mulO (P := fun _ => True) (small_mul' ⟨by decide, by decide⟩) trivial) fun t9 _ => wp_bind (wp_mulO (P := fun _ => True) (small_mul' ⟨by decide, by decide⟩) trivial) fun t10 _ => wp_bind (wp_modO (P := fun _ => True) (by decide) trivial) fun t11 _ => wp_some trivial
end K05
end
section
set_option maxHeartbeats 2000000
namespace K05
open PySem L2 Kx Mx
/-! ### names -/
structure NameOk (z : Str) : Prop where
  l1 : 1 ≤ z.cps.toList.length
  l2 : z.cps.toList.length ≤ 6
  b : ∀ c ∈ z.cps.toList, 97 ≤ c ∧ c ≤ 122
theorem letters : (Str.ofString "abcdefghijklmnopqrstuvwxyz").cps.toList = List.range' 97 26 := by decide +kernel
theorem str_len (z : Str) : z.length = z.cps.toList.length := by
  show z.cps.size = _
  rw [Array.length_toList]
theorem letter_at {i : Nat} (h : i < 26) : atS (Str.ofString "abcdefghijklmnopqrstuvwxyz") (i : Int) = some ⟨#[97 + i]⟩ := by
  unfold atS
  rw [grd_yes (by rw [str_len, letters]; decide)]
  show (atI (Str.ofString "abcdefghijklmnopqrstuvwxyz").cps.toList (i : Int)).bind _ = _
  rw [letters, atI_nat' (by simpa using h)]
  simp
theorem is_name_spec {z : Str} (h : NameOk z) : m_is_name z = some true := by
  have W : Wp (m_is_name z) fun b => b = true := by
    unfold m_is_name
    refine wp_bind (P := fun t => t = false) (wp_cond (fun e => by cases e) fun _ => ?_) fun t2 e2 => ?_
    · refine wp_bind (P := fun t => t = (z.cps.toList.length : Int)) ?_ fun t1 e1 => wp_some ?_
      · unfold lenS
        exact wp_bind (wp_grd (by rw [str_len]; have := h.l2; omega)) fun _ _ => wp_some (by rw [str_len])
      · subst e1
        have := h.l1
        have := h.l2
        simp only [Bool.not_eq_false', Bool.and_eq_true, decide_eq_true_eq]
        omega
    · subst e2
      refine wp_cond (fun e => by cases e) fun _ => ?_
      refine wp_bind (P := fun t : List Bool => t.all id = true) (wp_lcO (fun _ y => y = true) ?_ (fun x hx => ?_) ?_) fun t10 h => wp_some h
      · unfold signs
        rw [List.length_map]
        have := h.l2
        omega
      · unfold signs at hx
        obtain ⟨c, hc, rfl⟩ := List.mem_map.mp hx
        have hb := h.b c hc
        refine wp_bind (P := fun t => t = true) (wp_some ?_) fun t9 e => wp_some e
        rw [letters]
        refine decide_eq_true (List.mem_range'.mpr ⟨c - 97, by omega, by omega⟩)
      · intro ys hl h
        rw [List.all_eq_true]
        intro y hy
        obtain ⟨i, hi⟩ := List.mem_iff_getElem?.mp hy
        have hil := (List.getElem?_eq_some_iff.mp hi).1
        have := h i _ y (List.getElem?_eq_getElem (by omega)) hi
        rw [this]; rfl
  obtain ⟨r, hr, e⟩ := W
  rw [hr, e]
/-! ### spelling -/
def dg : Nat → Nat → List Nat
  | 0, _ => []
  | i + 1, n => (97 + n / 26 ^ i % 26) :: dg i n
theorem dg_len : ∀ (w n : Nat), (dg w n).length = w
  | 0, _ => rfl
  | w + 1, n => by rw [dg, List.length_cons, dg_len w n]
theorem dg_b : ∀ (w n : Nat), ∀ c ∈ dg w n, 97 ≤ c ∧ c ≤ 122
  | 0, _, c, h => by simp [dg] at h
  | w + 1, n, c, h => by
    rw [dg] at h
    rcases List.mem_cons.mp h with e | h
    · rw [e]
      have := Nat.mod_lt (n / 26 ^ w) (show 0 < 26 by decide)
      omega
    · exact dg_b w n c h
theorem dg_inj : ∀ {w n m : Nat}, dg w n = dg w m → n % 26 ^ w = m % 26 ^ w
  | 0, n, m, _ => by rw [Nat.pow_zero, Nat.mod_one, Nat.mod_one]
  | w + 1, n, m, h => by
    rw [dg, dg] at h
    obtain ⟨h1, h2⟩ := List.cons.inj h
    have ih := dg_inj h2
    rw [Nat.mod_pow_succ, Nat.mod_pow_succ, ih]
    have : n / 26 ^ w % 26 = m / 26 ^ w % 26 := by omega
    rw [this]
theorem spelt_spec {n w : Nat} (hw : w ≤ 6) : Wp (m__law_spelt ((n : Int), (w : Int))) fun r => r.cps.toList = dg w n := by
  unfold m__law_spelt
  refine wp_bind (wp_rngN (P := fun t => t = irange 0 (w : Int)) (by omega) rfl) fun t1 e1 => ?_
  subst e1
  refine wp_bind (wp_forO (P := fun s => s.1.cps.toList = dg w n) (fun i s => s.1.cps.toList = dg i n ∧ s.2 = ((n / 26 ^ i : Nat) : Int)) ⟨rfl, by simp⟩ ?_ ?_) fun fin h => wp_some h
  · intro i x s hx ⟨h1, h2⟩
    obtain ⟨hi, rfl⟩ := irange_at hx
    refine wp_bind (wp_modO (P := fun t => t = ((n / 26 ^ i % 26 : Nat) : Int)) (by decide) (by rw [fm (by decide), h2]; exact (Int.natCast_emod _ _).symm)) fun t9 e9 => ?_
    subst e9
    have hl := Nat.mod_lt (n / 26 ^ i) (show 0 < 26 by decide)
    refine wp_bind (wp_is (P := fun t : Str => t = ⟨#[97 + n / 26 ^ i % 26]⟩) (letter_at hl) rfl) fun t10 e10 => ?_
    subst e10
    refine wp_bind (P := fun t : Str => t.cps.toList = dg (i + 1) n) ?_ fun t11 h11 => ?_
    · unfold addS
      have ls : s.1.cps.toList.length = i := by rw [h1, dg_len]
      refine wp_bind (wp_grd (by rw [str_len, str_len, ls]; simp; omega)) fun _ _ => wp_some ?_
      show ((#[97 + n / 26 ^ i % 26] : Array Nat) ++ s.1.cps).toList = _
      rw [Array.toList_append, h1]
      rfl
    refine wp_bind (wp_fdivO (P := fun t => t = ((n / 26 ^ (i + 1) : Nat) : Int)) ⟨by decide, by decide⟩ ?_) fun t12 e12 => wp_some ⟨h11, e12⟩
    rw [fd (by decide), h2, Nat.pow_succ, ← Nat.div_div_eq_div_mul]
    exact (Int.natCast_ediv _ _).symm
  · intro s h
    rw [irange_nat_len] at h
    exact h.1
end K05
end
section
set_option maxHeartbeats 2000000
namespace K05
open PySem L2 Kx Mx
theorem pull_nat {a : Int} (z : Sto) (h1 : 0 < a) (h2 : a < 2 ^ 200) : Wp (m__law_pull a z) fun r => ∃ k : Nat, r.1 = (k : Int) ∧ (k : Int) < a :=
  (pull_spec z h1 h2).imp fun r ⟨g1, g2⟩ => ⟨r.1.toNat, by omega, by omega⟩
theorem srt_strict {xs : List Str} (h : xs.Nodup) : (srt xs).Pairwise fun a b => sLt a b = true := by
  have n : (srt xs).Nodup := (srt_perm xs).nodup_iff.mpr h
  refine ((srt_sorted xs).and n).imp fun {a b} ⟨h1, h2⟩ => ?_
  cases e : sLt a b with
  | true => rfl
  | false =>
    unfold sLe at h1
    exact absurd (sLt_tri e (by simpa using h1)) h2
def Nms (cs : List Str) : Prop := (∀ x ∈ cs, NameOk x) ∧ cs.Pairwise fun a b => sLt a b = true
theorem nodup_at {α : Type} {xs : List α} (h : ∀ (i j : Nat) (x y : α), i < j → xs[i]? = some x → xs[j]? = some y → x ≠ y) : xs.Nodup := by
  refine List.pairwise_iff_getElem.mpr fun i j hi hj hij => ?_
  exact h i j _ _ hij (List.getElem?_eq_getElem hi) (List.getElem?_eq_getElem hj)
theorem sort_nmsM {xs : List Str} {P : List Str → Prop} (hl : xs.length < 64) (hn : ∀ x ∈ xs, NameOk x) (hd : xs.Nodup) (k : ∀ ys, ys.length = xs.length → Nms ys → (∀ y ∈ ys, y ∈ xs) → P ys) : Wp (sortS xs) P :=
  wp_bind (wp_grd hl) fun _ _ => wp_some (k _ (srt_perm xs).length_eq ⟨fun x hx => hn x ((srt_perm xs).mem_iff.mp hx), srt_strict hd⟩ fun y hy => (srt_perm xs).mem_iff.mp hy)
def nameB (z : Str) : Bool := decide (1 ≤ z.cps.toList.length) && decide (z.cps.toList.length ≤ 6) && z.cps.toList.all fun c => decide (97 ≤ c) && decide (c ≤ 122)
theorem nameB_of {z : Str} (h : nameB z = true) : NameOk z := by
  unfold nameB at h
  simp only [Bool.and_eq_true, decide_eq_true_eq, List.all_eq_true] at h
  exact ⟨h.1.1, h.1.2, fun c hc => h.2 c hc⟩
abbrev W12 : List Str := [(Str.ofString "bell"), (Str.ofString "turns"), (Str.ofString "ring"), (Str.ofString "go"), (Str.ofString "tell"), (Str.ofString "hang"), (Str.ofString "down"), (Str.ofString "put"), (Str.ofString "strike"), (Str.ofString "back"), (Str.ofString "lots"), (Str.ofString "home")]
theorem w12_ok : W12.all nameB = true := by decide +kernel
theorem w12_nd : W12.Nodup := by decide +kernel
theorem mem4 {α : Type} {a b c d x : α} {k : Nat} (h : ([a, b, c, d] : List α)[k]? = some x) : x = a ∨ x = b ∨ x = c ∨ x = d := by
  have := List.mem_of_getElem? h
  simpa using this
theorem wp_at4 {a b c d : Int} {k : Nat} (hk : k < 4) : Wp (atI ([a, b, c, d] : List Int) (k : Int)) fun x => x = a ∨ x = b ∨ x = c ∨ x = d :=
  wp_atI (by simpa using hk) (mem4 (List.getElem?_eq_getElem (by simpa using hk)))
theorem pow6 {k : Nat} (h : k < 6) : atI ([(26 : Int), (676 : Int), (17576 : Int), (456976 : Int), (11881376 : Int), (308915776 : Int)] : List Int) (k : Int) = some ((26 ^ (k + 1) : Nat) : Int) := by
  match k, h with
  | 0, _ => rfl
  | 1, _ => rfl
  | 2, _ => rfl
  | 3, _ => rfl
  | 4, _ => rfl
  | 5, _ => rfl
/-- words, or of one width -/
def Wd (cs : List Str) : Prop := (∀ x ∈ cs, x ∈ W12) ∨ ∃ w, ∀ x ∈ cs, x.cps.toList.length = w
theorem calls_specW {n : Nat} (z : Sto) (h2 : n ≤ 8) : Wp (m__law_calls (n : Int) z) fun r => r.1.length = n ∧ Nms r.1 ∧ Wd r.1 := by
  unfold m__law_calls
  refine wp_bind (pull_nat z (by decide) (by decide)) fun t1 _ => wp_cond (fun _ => ?_) fun _ => ?_
  · refine wp_bind (pull_nat _ (by decide) (by decide)) fun t2 ⟨f, e2, hf⟩ => wp_bind (pull_nat _ (by decide) (by decide)) fun t3 ⟨l, e3, hl⟩ => ?_
    rw [e2, e3]
    refine wp_bind (wp_at4 (by omega)) fun t4 h4 => ?_
    refine wp_bind (wp_rngN (P := fun t => t = irange 0 (n : Int)) (by omega) rfl) fun t5 e5 => ?_
    subst e5
    refine wp_bind (P := fun t : List Str => t.length = n ∧ (∀ x ∈ t, NameOk x) ∧ t.Nodup ∧ ∀ x ∈ t, x ∈ W12) (wp_lcO (fun x y => W12[((f : Int) + t4 * x).toNat % 12]? = some y) (by rw [irange_nat_len]; omega) (fun x hx => ?_) ?_) fun t15 ⟨a1, a2, a3, a4⟩ => ?_
    · obtain ⟨j, hj, rfl⟩ := irange_mem hx
      refine wp_bind (wp_mulO (P := fun t => t = t4 * (j : Int)) (small_mul ⟨by omega, by omega⟩) rfl) fun t12 e12 => ?_
      subst e12
      obtain ⟨l4, rfl⟩ : ∃ l4 : Nat, t4 = (l4 : Int) := ⟨t4.toNat, by omega⟩
      have en : (f : Int) + (l4 : Int) * (j : Int) = ((f + l4 * j : Nat) : Int) := by push_cast; rfl
      rw [en]
      refine wp_bind (wp_modO (P := fun t => t = (((f + l4 * j) % 12 : Nat) : Int)) (by decide) (by rw [fm (by decide)]; exact (Int.natCast_emod _ _).symm)) fun t13 e13 => ?_
      subst e13
      have hm := Nat.mod_lt (f + l4 * j) (show 0 < 12 by decide)
      refine wp_bind (wp_atI (xs := W12) (P := fun y => W12[(f + l4 * j) % 12]? = some y) (by simpa using hm) (List.getElem?_eq_getElem (by simpa using hm))) fun t14 h14 => wp_some ?_
      rw [Int.toNat_natCast]
      exact h14
    · intro ys hl hy
      rw [irange_nat_len] at hl
      have at' : ∀ i y, ys[i]? = some y → i < n ∧ W12[((f : Int) + t4 * (i : Int)).toNat % 12]? = some y := fun i y e => by
        have hi : i < n := by have := (List.getElem?_eq_some_iff.mp e).1; omega
        have hx : (irange 0 (n : Int))[i]? = some (i : Int) := by rw [irange_get (by omega)]; simp
        exact ⟨hi, hy i (i : Int) y hx e⟩
      refine ⟨hl, fun x hx => ?_, nodup_at fun i j x y hij hx hy' e => ?_, fun x hx => ?_⟩
      · obtain ⟨i, hi⟩ := List.mem_iff_getElem?.mp hx
        exact nameB_of ((List.all_eq_true.mp w12_ok) x (List.mem_of_getElem? (at' i x hi).2))
      · subst e
        obtain ⟨b1, b2⟩ := at' i x hx
        obtain ⟨b3, b4⟩ := at' j x hy'
        have q : ((f : Int) + t4 * (i : Int)).toNat % 12 = ((f : Int) + t4 * (j : Int)).toNat % 12 := by
          have hi := (List.getElem?_eq_some_iff.mp b2).1
          exact (List.getElem?_inj hi w12_nd).mp (b2.trans b4.symm)
        rcases h4 with rfl | rfl | rfl | rfl <;> omega
      · obtain ⟨i, hi⟩ := List.mem_iff_getElem?.mp hx
        exact List.mem_of_getElem? (at' i x hi).2
    · exact wp_bind (sort_nmsM (P := fun ys => ys.length = n ∧ Nms ys ∧ Wd ys) (by omega) a2 a3 fun ys h1 h2 h3 => ⟨by omega, h2, .inl fun y hy => a4 y (h3 y hy)⟩) fun t16 h => wp_some h
  · refine wp_bind (pull_nat _ (by decide) (by decide)) fun t17 ⟨w, e17, hw⟩ => wp_bind (pull_nat _ (by decide) (by decide)) fun t18 ⟨l, e18, hl⟩ => ?_
    rw [e17, e18]
    refine wp_bind (wp_at4 (by omega)) fun t19 h19 => ?_
    have ew : ((1 : Int) + (w : Int)) - 1 = (w : Int) := by omega
    rw [ew]
    have hw6 : w < 6 := by omega
    refine wp_bind (wp_is (P := fun t => t = ((26 ^ (w + 1) : Nat) : Int)) (pow6 hw6) rfl) fun t20 e20 => ?_
    subst e20
    have hpos : 0 < 26 ^ (w + 1) := Nat.pos_of_ne_zero (by simp)
    have hbig : 26 ^ (w + 1) ≤ 308915776 := Nat.le_trans (Nat.pow_le_pow_right (by decide) (by omega : w + 1 ≤ 6)) (by decide)
    refine wp_bind (pull_nat _ (by omega) (by omega)) fun t21 ⟨f, e21, hf⟩ => ?_
    rw [e21]
    refine wp_bind (wp_rngN (P := fun t => t = irange 0 (n : Int)) (by omega) rfl) fun t22 e22 => ?_
    subst e22
    refine wp_bind (P := fun t : List Str => t.length = n ∧ (∀ x ∈ t, NameOk x) ∧ t.Nodup ∧ ∀ x ∈ t, x.cps.toList.length = w + 1) (wp_lcO (fun x y => y.cps.toList = dg (w + 1) (((f : Int) + t19 * x).toNat % 26 ^ (w + 1))) (by rw [irange_nat_len]; omega) (fun x hx => ?_) ?_) fun t32 ⟨a1, a2, a3, a4⟩ => ?_
    · obtain ⟨j, hj, rfl⟩ := irange_mem hx
      refine wp_bind (wp_mulO (P := fun t => t = t19 * (j : Int)) (small_mul ⟨by omega, by omega⟩) rfl) fun t29 e29 => ?_
      subst e29
      obtain ⟨l4, rfl⟩ : ∃ l4 : Nat, t19 = (l4 : Int) := ⟨t19.toNat, by omega⟩
      have en : (f : Int) + (l4 : Int) * (j : Int) = ((f + l4 * j : Nat) : Int) := by push_cast; rfl
      rw [en]
      refine wp_bind (wp_modO (P := fun t => t = (((f + l4 * j) % 26 ^ (w + 1) : Nat) : Int)) (by omega) (by rw [fm (by omega)]; exact (Int.natCast_emod _ _).symm)) fun t30 e30 => ?_
      subst e30
      have e1 : (1 : Int) + (w : Int) = ((w + 1 : Nat) : Int) := by omega
      rw [e1]
      refine wp_bind (spelt_spec (by omega)) fun t31 h31 => wp_some ?_
      rw [Int.toNat_natCast]
      exact h31
    · intro ys hl hy
      rw [irange_nat_len] at hl
      have at' : ∀ i y, ys[i]? = some y → i < n ∧ y.cps.toList = dg (w + 1) (((f : Int) + t19 * (i : Int)).toNat % 26 ^ (w + 1)) := fun i y e => by
        have hi : i < n := by have := (List.getElem?_eq_some_iff.mp e).1; omega
        have hx : (irange 0 (n : Int))[i]? = some (i : Int) := by rw [irange_get (by omega)]; simp
        exact ⟨hi, hy i (i : Int) y hx e⟩
      refine ⟨hl, fun x hx => ?_, nodup_at fun i j x y hij hx hy' e => ?_, fun x hx => ?_⟩
      · obtain ⟨i, hi⟩ := List.mem_iff_getElem?.mp hx
        have e := (at' i x hi).2
        exact ⟨by rw [e, dg_len]; omega, by rw [e, dg_len]; omega, fun c hc => dg_b _ _ c (by rw [← e]; exact hc)⟩
      · subst e
        obtain ⟨b1, b2⟩ := at' i x hx
        obtain ⟨b3, b4⟩ := at' j x hy'
        have q := dg_inj (b2.symm.trans b4)
        rw [Nat.mod_mod, Nat.mod_mod] at q
        clear b2 b4
        by_cases hw0 : w = 0
        · subst hw0
          rw [show (26 : Nat) ^ (0 + 1) = 26 from rfl] at q
          rcases h19 with rfl | rfl | rfl | rfl <;> omega
        · have hM : 676 ≤ 26 ^ (w + 1) := Nat.le_trans (by decide : 676 ≤ 26 ^ 2) (Nat.pow_le_pow_right (by decide) (by omega))
          have hlt : ((f : Int) + t19 * (i : Int)).toNat < ((f : Int) + t19 * (j : Int)).toNat ∧ ((f : Int) + t19 * (j : Int)).toNat - ((f : Int) + t19 * (i : Int)).toNat < 676 := by
            rcases h19 with rfl | rfl | rfl | rfl <;> omega
          have z := Nat.sub_mod_eq_zero_of_mod_eq q.symm
          rw [Nat.mod_eq_of_lt (by omega)] at z
          omega
      · obtain ⟨i, hi⟩ := List.mem_iff_getElem?.mp hx
        rw [(at' i x hi).2, dg_len]
    · exact wp_bind (sort_nmsM (P := fun ys => ys.length = n ∧ Nms ys ∧ Wd ys) (by omega) a2 a3 fun ys h1 h2 h3 => ⟨by omega, h2, .inr ⟨w + 1, fun y hy => a4 y (h3 y hy)⟩⟩) fun t16 h => wp_some h
theorem figure_spec {m : Nat} {s : Int} (z : Sto) (hm : m ≤ 5) (h1 : 2 ≤ s) (h2 : s ≤ 24) : Wp (m__law_figure ((m : Int), s) z) fun r => 0 ≤ r.1 ∧ r.1 ≤ 99 := by
  unfold m__law_figure
  refine wp_bind (pull_nat z (by omega) (by omega)) fun t1 ⟨a, e1, ha⟩ => wp_bind (pull_nat _ (by decide) (by decide)) fun t2 ⟨b, e2, hb⟩ => ?_
  rw [e1, e2]
  refine wp_bind (wp_mulO (P := fun t => t = 2 * s) (small_mul' ⟨by decide, by decide⟩) rfl) fun t3 e3 => wp_bind (wp_fdivO (P := fun t => t = s / 2) ⟨by decide, by decide⟩ (fd (by decide))) fun t4 e4 => ?_
  subst e3; subst e4
  refine wp_bind (pull_nat _ (by decide) (by decide)) fun t5 ⟨c, e5, hc⟩ => ?_
  rw [e5]
  refine wp_bind (wp_at4 (by omega)) fun t6 h6 => ?_
  have b6 : 0 ≤ t6 ∧ t6 ≤ 99 := by rcases h6 with rfl | rfl | rfl | rfl <;> omega
  refine wp_bind (wp_appO (P := fun t => t = [(1 : Int), 1 + (a : Int), 1 + (b : Int), t6]) (by simp) rfl) fun t7 e7 => ?_
  subst e7
  refine wp_cond (fun e => ?_) fun e => ?_
  · have : (m : Int) < 4 := of_decide_eq_true e
    refine wp_bind (wp_at4 (by omega)) fun t8 h8 => wp_some ?_
    rcases h8 with rfl | rfl | rfl | rfl <;> constructor <;> dsimp only <;> omega
  · have : ¬ (m : Int) < 4 := of_decide_eq_false e
    refine wp_bind (wp_is (P := fun t => t = 1 + (a : Int)) rfl rfl) fun t9 e9 => ?_
    subst e9
    refine wp_bind (pull_nat _ (by omega) (by omega)) fun t10 _ => ?_
    refine wp_bind (wp_mulO (P := fun t => 0 ≤ t ∧ t ≤ 99) (small_mul (by split <;> omega)) ?_) fun t11 h => wp_some h
    split
    · rw [Int.mul_one]; omega
    · rw [Int.mul_zero]; omega
end K05
end
section
set_option maxHeartbeats 2000000
namespace K05
open PySem L2 Kx Mx
/-! ### kits -/
def NotOk (cs : List Str) (ns : List (Str × Str × Int)) : Prop :=
  (∀ n ∈ ns, n.1 ∈ cs ∧ n.2.1 ∈ cs ∧ n.1 ≠ n.2.1 ∧ 1 ≤ n.2.2 ∧ n.2.2 ≤ 99) ∧ ns.Pairwise fun a b => ltP (a.1, a.2.1) (b.1, b.2.1) = true
structure Kit (k : List (Str × Int) × List (Str × Str × Int)) : Prop where
  l1 : 1 ≤ k.1.length
  l2 : k.1.length ≤ 8
  nm : Nms (k.1.map (·.1))
  sz : ∀ x ∈ k.1, 2 ≤ x.2 ∧ x.2 ≤ 24
  nt : NotOk (k.1.map (·.1)) k.2
  nl : k.2.length ≤ 64
theorem slt_ne {a b : Str} (h : sLt a b = true) : a ≠ b := fun e => by
  rw [e, sLt_irr] at h
  cases h
theorem pw_at {α : Type} {R : α → α → Prop} {xs : List α} (h : xs.Pairwise R) {i j : Nat} {x y : α} (hij : i < j) (hx : xs[i]? = some x) (hy : xs[j]? = some y) : R x y := by
  obtain ⟨h1, rfl⟩ := List.getElem?_eq_some_iff.mp hx
  obtain ⟨h2, rfl⟩ := List.getElem?_eq_some_iff.mp hy
  exact List.pairwise_iff_getElem.mp h i j h1 h2 hij
theorem pw_snoc {α : Type} {R : α → α → Prop} {xs : List α} {x : α} (h : xs.Pairwise R) (hx : ∀ y ∈ xs, R y x) : (xs ++ [x]).Pairwise R :=
  List.pairwise_append.mpr ⟨h, List.pairwise_singleton _ _, fun a ha b hb => by rw [List.mem_singleton.mp hb]; exact hx a ha⟩
theorem kit_specW {u m : Int} (z : Sto) (hu1 : 1 ≤ u) (hu2 : u ≤ 8) (hm1 : 2 ≤ m) (hm2 : m ≤ 24) : Wp (m__law_kit (u, m) z) fun r => Kit r.1 ∧ (r.1.1.length : Int) ≤ u ∧ (∀ b ∈ r.1.1, b.2 ≤ m) ∧ Wd (r.1.1.map (·.1)) := by
  unfold m__law_kit
  dsimp only
  refine wp_bind (pull_nat z (by omega) (by omega)) fun t1 ⟨n, e1, hn⟩ => ?_
  rw [e1]
  have en : (1 : Int) + (n : Int) = ((n + 1 : Nat) : Int) := by omega
  rw [en]
  refine wp_bind (calls_specW _ (by omega)) fun t2 ⟨hl2, hc, hwd⟩ => wp_bind (pull_nat _ (by omega) (by omega)) fun t3 ⟨s3, e3, h3⟩ => wp_bind (pull_nat _ (by decide) (by decide)) fun t4 _ => wp_bind (pull_nat _ (by decide) (by decide)) fun t5 ⟨md, e5, h5⟩ => ?_
  rw [e3, e5]
  generalize hcs : t2.1 = cs at hl2 hc hwd
  refine wp_bind (wp_lcS (P := fun r : List Int × Sto => r.1.length = n + 1 ∧ ∀ s ∈ r.1, 2 ≤ s ∧ s ≤ m) (fun _ y => 2 ≤ y ∧ y ≤ m) (by omega) (fun x hx z => ?_) ?_) fun t14 ⟨hl14, h14⟩ => ?_
  · refine wp_bind (P := fun t : Int × Sto => 2 ≤ t.1 ∧ t.1 ≤ m) (wp_cond (fun _ => wp_some ⟨by dsimp only; omega, by dsimp only; omega⟩) fun _ => wp_bind (pull_nat _ (by omega) (by omega)) fun t12 ⟨a, e, h⟩ => wp_some ⟨by dsimp only; omega, by dsimp only; omega⟩) fun t13 h => wp_some h
  · intro r hl h
    refine ⟨by omega, fun s hs => ?_⟩
    obtain ⟨i, hi⟩ := List.mem_iff_getElem?.mp hs
    have hil := (List.getElem?_eq_some_iff.mp hi).1
    exact h i _ s (List.getElem?_eq_getElem (by omega)) hi
  have uq : ∀ {i j : Nat} {x y : Str}, i < j → cs[i]? = some x → cs[j]? = some y → sLt x y = true := fun hij hx hy => pw_at hc.2 hij hx hy
  refine wp_bind (wp_forO (P := fun s : List (Str × Str × Int) × Sto => NotOk cs s.1 ∧ s.1.length ≤ 64) (fun i s => NotOk cs s.1 ∧ (∀ q ∈ s.1, ∃ j, j < i ∧ cs[j]? = some q.1) ∧ s.1.length ≤ i * 8) ⟨⟨fun q hq => (nomatch hq), List.Pairwise.nil⟩, fun q hq => (nomatch hq), by simp⟩ ?_ ?_) fun fin ⟨hf, hf2⟩ => ?_
  · intro i x s hx ⟨g1, g2, g3⟩
    have hi : i < n + 1 := by have := (List.getElem?_eq_some_iff.mp hx).1; omega
    rw [hl2]
    refine wp_bind (wp_rngN (P := fun t => t = irange 0 ((n + 1 : Nat) : Int)) (by omega) rfl) fun t22 e22 => ?_
    subst e22
    refine wp_bind (wp_forO (P := fun s : List (Str × Str × Int) × Sto => NotOk cs s.1 ∧ (∀ q ∈ s.1, ∃ j, j < i + 1 ∧ cs[j]? = some q.1) ∧ s.1.length ≤ (i + 1) * 8) (fun k s => NotOk cs s.1 ∧ (∀ q ∈ s.1, (∃ j, j < i ∧ cs[j]? = some q.1) ∨ (q.1 = x ∧ ∃ j, j < k ∧ cs[j]? = some q.2.1)) ∧ s.1.length ≤ i * 8 + k) ⟨g1, fun q hq => .inl (g2 q hq), by dsimp only; omega⟩ ?_ ?_) fun f2 h => wp_some h
    · intro k y s hy ⟨b1, b2, b3⟩
      obtain ⟨hk, rfl⟩ := irange_at hy
      refine wp_bind (wp_atI (P := fun t => 2 ≤ t ∧ t ≤ m) (by omega) (h14 _ (List.getElem_mem _))) fun t30 h30 => ?_
      refine wp_bind (figure_spec _ (by omega) h30.1 (by omega)) fun t31 h31 => ?_
      have hk' : k < cs.length := by omega
      have ey : cs[k]? = some cs[k] := List.getElem?_eq_getElem hk'
      refine wp_bind (wp_is (P := fun t => t = cs[k]) (atI_nat' hk') rfl) fun t32 e32 => ?_
      subst e32
      refine wp_cond (fun e => ?_) fun e => wp_some ⟨b1, fun q hq => (b2 q hq).imp id fun ⟨c1, j, c2, c3⟩ => ⟨c1, j, by omega, c3⟩, by dsimp only; omega⟩
      rw [Bool.and_eq_true] at e
      have e1 : cs[k] ≠ x := by simpa using e.1
      have e2 : 0 < t31.1 := by simpa using e.2
      refine wp_bind (wp_is (P := fun t => t = cs[k]) (atI_nat' hk') rfl) fun t33 e33 => ?_
      subst e33
      refine wp_bind (wp_appO (P := fun t => t = s.1 ++ [(x, cs[k], t31.1)]) (by omega) rfl) fun t34 e34 => wp_some ?_
      subst e34
      refine ⟨⟨fun q hq => ?_, pw_snoc b1.2 fun q hq => ?_⟩, fun q hq => ?_, by dsimp only; rw [List.length_append]; simp; omega⟩
      · rcases List.mem_append.mp hq with hq | hq
        · exact b1.1 q hq
        · rw [List.mem_singleton.mp hq]
          exact ⟨List.mem_of_getElem? hx, List.mem_of_getElem? ey, fun z => e1 z.symm, by dsimp only; omega, by dsimp only; omega⟩
      · unfold ltP
        dsimp only
        rcases b2 q hq with ⟨j, c1, c2⟩ | ⟨c1, j, c2, c3⟩
        · have := uq c1 c2 hx
          rw [if_neg (slt_ne this)]
          exact this
        · rw [if_pos c1]
          exact uq c2 c3 ey
      · rcases List.mem_append.mp hq with hq | hq
        · exact (b2 q hq).imp id fun ⟨c1, j, c2, c3⟩ => ⟨c1, j, by omega, c3⟩
        · rw [List.mem_singleton.mp hq]
          exact .inr ⟨rfl, k, by omega, ey⟩
    · intro s ⟨b1, b2, b3⟩
      rw [irange_nat_len] at b2 b3
      refine ⟨b1, fun q hq => ?_, by omega⟩
      rcases b2 q hq with ⟨j, c1, c2⟩ | ⟨c1, j, c2, c3⟩
      · exact ⟨j, by omega, c2⟩
      · exact ⟨i, by omega, by rw [c1]; exact hx⟩
  · intro s ⟨g1, g2, g3⟩
    exact ⟨g1, by omega⟩
  rw [hl2]
  refine wp_bind (wp_rngN (P := fun t => t = irange 0 ((n + 1 : Nat) : Int)) (by omega) rfl) fun t35 e35 => ?_
  subst e35
  refine wp_bind (P := fun t : List (Str × Int) => t.length = n + 1 ∧ t.map (·.1) = cs ∧ ∀ x ∈ t, 2 ≤ x.2 ∧ x.2 ≤ m) (wp_lcO (fun x y => ∃ k : Nat, x = (k : Int) ∧ cs[k]? = some y.1 ∧ 2 ≤ y.2 ∧ y.2 ≤ m) (by rw [irange_nat_len]; omega) (fun x hx => ?_) ?_) fun t44 ⟨d1, d2, d3⟩ => wp_some ?_
  · obtain ⟨k, hk, rfl⟩ := irange_mem hx
    have hk' : k < cs.length := by omega
    refine wp_bind (wp_is (P := fun t => t = cs[k]) (atI_nat' hk') rfl) fun t42 e42 => ?_
    subst e42
    refine wp_bind (wp_atI (P := fun t => 2 ≤ t ∧ t ≤ m) (by omega) (h14 _ (List.getElem_mem _))) fun t43 h43 => wp_some ⟨k, rfl, List.getElem?_eq_getElem hk', h43⟩
  · intro ys hl h
    rw [irange_nat_len] at hl
    have at' : ∀ (i : Nat) (y : Str × Int), ys[i]? = some y → cs[i]? = some y.1 ∧ 2 ≤ y.2 ∧ y.2 ≤ m := fun i y e => by
      have hi : i < n + 1 := by have := (List.getElem?_eq_some_iff.mp e).1; omega
      obtain ⟨k, c1, c2⟩ := h i (i : Int) y (by rw [irange_get (by omega)]; simp) e
      have : i = k := by omega
      subst this
      exact c2
    refine ⟨hl, List.ext_getElem? fun i => ?_, fun x hx => ?_⟩
    · rw [List.getElem?_map]
      by_cases hi : i < n + 1
      · have := (at' i _ (List.getElem?_eq_getElem (by omega))).1
        rw [List.getElem?_eq_getElem (by omega : i < ys.length), this]
        rfl
      · rw [List.getElem?_eq_none (by omega), List.getElem?_eq_none (by omega)]
        rfl
    · obtain ⟨i, hi⟩ := List.mem_iff_getElem?.mp hx
      exact (at' i x hi).2
  · refine ⟨⟨by dsimp only; omega, by dsimp only; omega, ?_, fun x hx => (by have := d3 x hx; omega), ?_, hf2⟩, by dsimp only; omega, fun x hx => (d3 x hx).2, by dsimp only; rw [d2]; exact hwd⟩
    · dsimp only; rw [d2]; exact hc
    · dsimp only; rw [d2]; exact hf
theorem kit_spec {u m : Int} (z : Sto) (hu1 : 1 ≤ u) (hu2 : u ≤ 8) (hm1 : 2 ≤ m) (hm2 : m ≤ 24) : Wp (m__law_kit (u, m) z) fun r => Kit r.1 ∧ (r.1.1.length : Int) ≤ u ∧ ∀ b ∈ r.1.1, b.2 ≤ m := (kit_specW z hu1 hu2 hm1 hm2).imp fun _ h => ⟨h.1, h.2.1, h.2.2.1⟩
end K05
end
section
set_option maxHeartbeats 2000000
namespace K05
open PySem L2 Kx Mx
theorem within_spec {x lo hi : Int} (h1 : lo ≤ x) (h2 : x ≤ hi) : m_is_within (x, lo, hi) = some true := by
  unfold m_is_within m_is_whole
  simp [h1, h2]
/-! ### tables whose keys differ -/
section
variable {α β : Type} [DecidableEq α]
theorem putA_new {xs : List (α × β)} {k : α} {v : β} (h : k ∉ xs.map (·.1)) : putA xs k v = xs ++ [(k, v)] := by
  unfold putA
  rw [if_neg]
  intro e
  obtain ⟨x, hx, e⟩ := List.any_eq_true.mp e
  exact h (List.mem_map.mpr ⟨x, hx, of_decide_eq_true e⟩)
theorem mergeA_nodup : ∀ {more acc : List (α × β)}, ((acc ++ more).map (·.1)).Nodup → mergeA acc more = acc ++ more
  | [], acc, _ => by rw [List.append_nil]; rfl
  | p :: more, acc, h => by
    have hn : p.1 ∉ acc.map (·.1) := fun e => by
      rw [List.map_append] at h
      have := (List.nodup_append.mp h).2.2 p.1 e p.1 (by simp)
      exact this rfl
    show mergeA (putA acc p.1 p.2) more = _
    rw [putA_new hn, mergeA_nodup (by simpa using h)]
    simp
theorem dictO_nodup {xs : List (α × β)} (hl : xs.length ≤ 16777216) (h : (xs.map (·.1)).Nodup) : dictO xs = some xs := by
  unfold dictO
  rw [grd_yes hl, mergeA_nodup (by simpa using h)]
  rfl
end
def cs (k : List (Str × Int) × List (Str × Str × Int)) : List Str := k.1.map (·.1)
def tb (k : List (Str × Int) × List (Str × Str × Int)) : List ((Str × Str) × Int) := k.2.map fun n => ((n.1, n.2.1), n.2.2)
abbrev pl (k : List (Str × Int) × List (Str × Str × Int)) : List (Str × Int) × List (Str × Str × Int) × List (Str × Int) × List ((Str × Str) × Int) := (k.1, k.2, k.1, tb k)
def tk (k : List (Str × Int) × List (Str × Str × Int)) (a b : Str) : Int := getD' (tb k) (a, b) 0
theorem nms_nodup {xs : List Str} (h : Nms xs) : xs.Nodup := h.2.imp fun h => slt_ne h
theorem ltP_ne {a b : Str × Str} (h : ltP a b = true) : a ≠ b := fun e => by
  unfold ltP at h
  rw [e, if_pos rfl, sLt_irr] at h
  cases h
section
variable {k : List (Str × Int) × List (Str × Str × Int)}
theorem Kit.nd (h : Kit k) : (cs k).Nodup := nms_nodup h.nm
theorem Kit.tnd (h : Kit k) : ((tb k).map (·.1)).Nodup := by
  unfold tb
  rw [List.map_map]
  exact (List.pairwise_map.mpr (h.nt.2.imp fun h => ltP_ne h))
theorem dcO_spec (h : Kit k) : dcO (fun x : Str × Str × Int => some ((x.1, x.2.1), x.2.2)) k.2 = some (tb k) := by
  unfold dcO
  have : lcO (fun x : Str × Str × Int => some ((x.1, x.2.1), x.2.2)) k.2 = some (tb k) := by
    obtain ⟨r, e1, e2⟩ := wp_lcO_map (P := fun t => t = tb k) (f := fun x : Str × Str × Int => some ((x.1, x.2.1), x.2.2)) (fun n => ((n.1, n.2.1), n.2.2)) (by have := h.nl; omega) (fun _ _ => rfl) rfl
    rw [e1, e2]
  rw [this]
  show some (mergeA [] (tb k)) = _
  rw [mergeA_nodup (by simpa using h.tnd)]
  rfl
theorem is_bell_spec {b : Str × Int} (h1 : NameOk b.1) (h2 : 2 ≤ b.2 ∧ b.2 ≤ 24) : m_is_bell b = some true := by
  unfold m_is_bell
  rw [is_name_spec h1, within_spec h2.1 h2.2]
  rfl
theorem Kit.name (h : Kit k) {x : Str × Int} (hx : x ∈ k.1) : NameOk x.1 := h.nm.1 _ (List.mem_map.mpr ⟨x, hx, rfl⟩)
theorem check_bells_spec (h : Kit k) : m_check_bells k.1 = some () := by
  have W : Wp (m_check_bells k.1) fun _ => True := by
    unfold m_check_bells
    refine wp_cond (fun e => ?_) fun _ => ?_
    · have h1 := h.l1
      have h2 := h.l2
      have e1 : decide ((1 : Int) ≤ (k.1.length : Int)) = true := decide_eq_true (by omega)
      have e2 : decide ((k.1.length : Int) ≤ 8) = true := decide_eq_true (by omega)
      rw [e1, e2] at e
      cases e
    refine wp_bind (wp_forO (P := fun _ => True) (fun _ _ => True) trivial (fun i p s hp _ => ?_) fun _ _ => trivial) fun _ _ => wp_some trivial
    obtain ⟨x, hx, rfl⟩ := enum_at hp
    have hxm := List.mem_of_getElem? hx
    refine wp_bind (wp_is (P := fun t => t = true) (is_bell_spec (h.name hxm) (h.sz x hxm)) rfl) fun t e => ?_
    subst e
    refine wp_bind (P := fun t => t = false) (wp_cond (fun e => by cases e) fun _ => wp_bind (P := fun t => t = false) (wp_cond (fun e => ?_) fun _ => wp_some rfl) fun t e => wp_some e) fun t e => ?_
    · have hi : 0 < i := by have : (0 : Int) < (i : Int) := of_decide_eq_true e; omega
      have hil := (List.getElem?_eq_some_iff.mp hx).1
      have e1 : (i : Int) - 1 = ((i - 1 : Nat) : Int) := by omega
      dsimp only
      rw [e1]
      refine wp_bind (wp_is (P := fun t => t = k.1[i - 1]) (atI_nat' (by omega)) rfl) fun t13 e13 => wp_some ?_
      subst e13
      have := pw_at h.nm.2 (i := i - 1) (j := i) (x := (k.1[i - 1]).1) (y := x.1) (by omega) (by rw [List.getElem?_map, List.getElem?_eq_getElem (by omega)]; rfl) (by rw [List.getElem?_map, hx]; rfl)
      rw [this]
      rfl
    · subst e
      exact wp_cond (fun e => by cases e) fun _ => wp_some trivial
  obtain ⟨⟨⟩, hr, _⟩ := W
  exact hr
theorem is_notch_spec (h : Kit k) {n : Str × Str × Int} (hn : n ∈ k.2) : m_is_notch (n, cs k) = some true := by
  obtain ⟨h1, h2, h3, h4, h5⟩ := h.nt.1 n hn
  have n1 := h.nm.1 _ h1
  have n2 := h.nm.1 _ h2
  have W : Wp (m_is_notch (n, cs k)) fun b => b = true := by
    unfold m_is_notch
    refine wp_cond (fun e => by cases e) fun _ => ?_
    refine wp_bind (P := fun t : List Bool => t.all id = true) ?_ fun t8 h8 => ?_
    · refine (wp_is (x := [true, true]) ?_ rfl)
      unfold lcO
      rw [grd_yes (by simp)]
      have m1 : memB n.1 (cs k) = true := decide_eq_true h1
      have m2 : memB n.2.1 (cs k) = true := decide_eq_true h2
      simp [mapO, is_name_spec n1, is_name_spec n2, m1, m2]
    · rw [h8]
      refine wp_cond (fun e => by cases e) fun _ => wp_bind (P := fun t => t = true) (wp_cond (fun _ => ?_) fun e => ?_) fun t e => wp_some e
      · rw [within_spec h4 h5]
        exact wp_some rfl
      · exact absurd (by simpa using e) h3
  obtain ⟨r, hr, e⟩ := W
  rw [hr, e]
theorem check_notches_spec (h : Kit k) : m_check_notches (k.2, cs k) = some () := by
  have W : Wp (m_check_notches (k.2, cs k)) fun _ => True := by
    unfold m_check_notches
    refine wp_cond (fun e => by cases e) fun _ => ?_
    refine wp_bind (wp_forO (P := fun _ => True) (fun _ _ => True) trivial (fun i p s hp _ => ?_) fun _ _ => trivial) fun _ _ => wp_some trivial
    obtain ⟨x, hx, rfl⟩ := enum_at hp
    have hxm := List.mem_of_getElem? hx
    refine wp_bind (wp_is (P := fun t => t = true) (is_notch_spec h hxm) rfl) fun t e => ?_
    subst e
    refine wp_bind (P := fun t => t = false) (wp_cond (fun e => by cases e) fun _ => wp_bind (P := fun t => t = false) (wp_cond (fun e => ?_) fun _ => wp_some rfl) fun t e => wp_some e) fun t e => ?_
    · have hi : 0 < i := by have : (0 : Int) < (i : Int) := of_decide_eq_true e; omega
      have hil := (List.getElem?_eq_some_iff.mp hx).1
      have e1 : (i : Int) - 1 = ((i - 1 : Nat) : Int) := by omega
      dsimp only at hil ⊢
      rw [e1]
      refine wp_bind (wp_is (P := fun t => t = k.2[i - 1]) (atI_nat' (by omega)) rfl) fun t13 e13 => wp_some ?_
      subst e13
      have := pw_at h.nt.2 (i := i - 1) (j := i) (x := k.2[i - 1]) (y := x) (by omega) (List.getElem?_eq_getElem (by omega)) hx
      rw [this]
      rfl
    · subst e
      exact wp_cond (fun e => by cases e) fun _ => wp_some trivial
  obtain ⟨⟨⟩, hr, _⟩ := W
  exact hr
theorem names_lc (h : Kit k) : lcO (fun x : Str × Int => some x.1) k.1 = some (cs k) := by
  obtain ⟨r, e1, e2⟩ := wp_lcO_map (P := fun t => t = cs k) (f := fun x : Str × Int => some x.1) (fun n => n.1) (by have := h.l2; omega) (fun _ _ => rfl) rfl
  rw [e1, e2]
theorem init_spec (h : Kit k) : m_Peal___init__ (k.1, k.2) = some (pl k) := by
  unfold m_Peal___init__
  rw [check_bells_spec h]
  show (lcO _ k.1).bind _ = _
  rw [names_lc h]
  show (m_check_notches (k.2, cs k)).bind _ = _
  rw [check_notches_spec h]
  show (dictO k.1).bind _ = _
  rw [dictO_nodup (by have := h.l2; omega) h.nd]
  show (dcO _ k.2).bind _ = _
  rw [dcO_spec h]
  rfl
end
end K05
end
section
set_option maxHeartbeats 2000000
namespace K05
open PySem L2 Kx Mx
abbrev KT0 := List (Str × Int) × List (Str × Str × Int)
end K05
end
section
set_option maxHeartbeats 2000000
namespace K05
open PySem L2 Kx Mx
/-! ### repr of standings -/
theorem toPy_str (x : Str) : toPy (.str x) = .str x := by unfold toPy; rfl
theorem toPy_int (x : Int) : toPy (.int x) = .int x := by unfold toPy; rfl
/-- what is asked of each part of what is shown -/
structure RepAll (n m : Nat) (xs : List PyData) : Prop where
  w : PyData.weightAll xs ≤ n * xs.length
  i : PyData.intsShortAll 40 xs = true
  s : PyData.showableAll xs = true
  d : PyData.depthAll xs ≤ m
structure Rep (n m : Nat) (x : PyData) : Prop where
  w : x.weight + 1 ≤ n
  i : x.intsShort 40 = true
  s : x.showable = true
  d : x.depth ≤ m
theorem repAll {n m : Nat} : ∀ {xs : List PyData}, (∀ x ∈ xs, Rep n m x) → RepAll n m xs
  | [], _ => ⟨by unfold PyData.weightAll; simp, by unfold PyData.intsShortAll; rfl, by unfold PyData.showableAll; rfl, by unfold PyData.depthAll; omega⟩
  | x :: xs, h => by
    have h1 := h x List.mem_cons_self
    have h2 := repAll fun y hy => h y (List.mem_cons_of_mem _ hy)
    refine ⟨?_, ?_, ?_, ?_⟩
    · unfold PyData.weightAll
      rw [List.length_cons, Nat.mul_add]
      have := h1.w
      have := h2.w
      omega
    · unfold PyData.intsShortAll; rw [h1.i, h2.i]; rfl
    · unfold PyData.showableAll; rw [h1.s, h2.s]; rfl
    · unfold PyData.depthAll
      have := h1.d
      have := h2.d
      omega
theorem rep_tup {n m l : Nat} {xs : List PyData} (h : ∀ x ∈ xs, Rep n m x) (hl : n * xs.length + 1 ≤ l) : Rep l (m + 1) (.tuple xs) := by
  have := repAll h
  refine ⟨?_, ?_, ?_, ?_⟩
  · unfold PyData.weight; have := this.w; omega
  · unfold PyData.intsShort; exact this.i
  · unfold PyData.showable; exact this.s
  · unfold PyData.depth; have := this.d; omega
theorem rep_str {x : Str} {m : Nat} (h : NameOk x) : Rep 10 m (.str x) := by
  refine ⟨?_, ?_, ?_, ?_⟩
  · unfold PyData.weight; have := h.l2; simp at this; omega
  · unfold PyData.intsShort; rfl
  · unfold PyData.showable; rfl
  · unfold PyData.depth; omega
theorem rep_int {x : Int} {m : Nat} (h1 : 0 ≤ x) (h2 : x < 100) : Rep 200 m (.int x) := by
  have hl : x.natAbs.log2 ≤ x.natAbs := Nat.log2_le_self _
  refine ⟨?_, ?_, ?_, ?_⟩
  · unfold PyData.weight
    split <;> omega
  · unfold PyData.intsShort
    have := PyData.shown_int_le (i := x) (by omega)
    exact decide_eq_true (by omega)
  · unfold PyData.showable
    exact decide_eq_true (by omega)
  · unfold PyData.depth; omega
theorem Rep.ok {n m : Nat} {x : PyData} (h : Rep n m x) (hn : n ≤ 100000) (hm : m ≤ 50) : ∃ t, reprO x = some t := by
  refine ⟨x.shown, ?_⟩
  unfold reprO
  rw [if_pos]
  unfold repOk
  have h1 := h.w
  have h2 := h.d
  rw [h.i, h.s, decide_eq_true (by omega), decide_eq_true (by omega)]
  rfl
theorem Rep.mono {n m n' m' : Nat} {x : PyData} (h : Rep n m x) (hn : n ≤ n') (hm : m ≤ m') : Rep n' m' x := ⟨Nat.le_trans h.w hn, h.i, h.s, Nat.le_trans h.d hm⟩
end K05
end
section
set_option maxHeartbeats 2000000
namespace K05
open PySem L2 Kx Mx
/-! ### things of any kind -/
inductive Adm : Dat → Prop
  | non : Adm .none
  | bl (b : Bool) : Adm (.bool b)
  | int (i : Int) : Adm (.int i)
  | str {z : Str} (h : z.length ≤ 1000) : Adm (.str z)
  | lst (xs : List Dat) : Adm (.list xs)
  | tup {xs : List Dat} (h : ∀ x ∈ xs, Adm x) (hl : xs.length ≤ 1000) : Adm (.tuple xs)
  | dK (ks : List Key) (xs : List Dat) : Adm (.dK ks xs)
  | ins (ns : List Str) (xs : List Dat) : Adm (.ins "Peal" ns xs)
theorem Adm.is {d : Dat} (h : Adm d) (f : Dat → Bool) : isO1 "Peal" f d = some (f d) := by
  cases h with
  | ins ns xs =>
    show cond (decide (("Peal" : Str) = "Peal")) (some (f (.ins "Peal" ns xs))) none = _
    rw [decide_eq_true rfl]
    rfl
  | _ => rfl
theorem Adm.row {r : List Str} (h : ∀ x ∈ r, x.length ≤ 1000) (hl : r.length ≤ 1000) : Adm (.tuple (r.map Dat.str)) := .tup (fun x hx => by
  obtain ⟨y, hy, rfl⟩ := List.mem_map.mp hx
  exact .str (h y hy)) (by rw [List.length_map]; exact hl)
theorem cat_ok {α : Type} {x y : List α} (h : x.length + y.length ≤ 16777216) : catO x y = some (x ++ y) := by
  unfold catO
  rw [grd_yes h]
  rfl
theorem orI {S R T : Type} {s : S} {f : S → Option T} {g : R → Option T} : orR (.inl s) f g = f s := rfl
end K05
end
section
set_option maxHeartbeats 4000000
namespace K05
open PySem L2 Kx Mx TL
/-! ### checks of things of any kind, told whole -/
theorem orX_v {ρ T : Type} {x : ρ} {f : ρ → Option T} {g : Ex → Option T} : orX (.inl x : ρ ⊕ Ex) f g = f x := rfl
theorem add_yes {a b : Str} (h : (tl a).length + (tl b).length ≤ 16777216) : addS a b = some (a ++ b) := by
  unfold addS
  rw [grd_yes (by rw [len_tl, len_tl]; exact h)]
  rfl
/-! names -/
end K05
end
section
set_option maxHeartbeats 4000000
namespace K05
open PySem L2 Kx Mx TL
/-! ### texts of a Peal, things that are none -/
structure SmS (n : Nat) (z : Str) : Prop where
  l : z.length ≤ n
  s : ∀ c ∈ tl z, c < 0x110000
theorem SmS.sok {n : Nat} {z : Str} (h : SmS n z) : sok z = true := sok_iff.mpr h.s
theorem SmS.app {n m : Nat} {a b : Str} (h : SmS n a) (g : SmS m b) : SmS (n + m) (a ++ b) := ⟨by rw [len_app]; have := h.l; have := g.l; omega, fun c hc => by
  rw [tl_append] at hc
  rcases List.mem_append.mp hc with hc | hc
  · exact h.s c hc
  · exact g.s c hc⟩
theorem SmS.mono {n m : Nat} {a : Str} (h : SmS n a) (hm : n ≤ m) : SmS m a := ⟨Nat.le_trans h.l hm, h.s⟩
theorem char_lt (c : Char) : c.toNat < 0x110000 := by
  have h := c.valid
  rcases h with h | h
  · have : c.toNat < 0xd800 := h
    omega
  · exact h.2
theorem smS_of (s : String) {n : Nat} (h : (Str.ofString s).length ≤ n) : SmS n (Str.ofString s) := ⟨h, fun c hc => by
  have hc : c ∈ (Str.ofString s).cps.toList := hc
  rw [Str.ofString_eq_toList] at hc
  simp at hc
  obtain ⟨a, _, rfl⟩ := hc
  exact char_lt a⟩
theorem smS_name {z : Str} (h : NameOk z) : SmS 6 z := ⟨by rw [str_len]; exact h.l2, fun c hc => by have := h.b c hc; omega⟩
theorem smS_fmt {n : Nat} : ∀ {xs : List Str}, (∀ x ∈ xs, SmS n x) → SmS (n * xs.length) (fmtS xs)
  | [], _ => ⟨by show Str.empty.length ≤ _; exact Nat.zero_le _, fun c hc => by cases hc⟩
  | x :: xs, h => ((h x List.mem_cons_self).app (smS_fmt fun y hy => h y (List.mem_cons_of_mem _ hy))).mono (by rw [List.length_cons, Nat.mul_add, Nat.mul_one, Nat.add_comm]; exact Nat.le_refl _)
theorem fmt_ok {n : Nat} {xs : List Str} (h : ∀ x ∈ xs, SmS n x) (hn : n * xs.length ≤ 16777216) : fmtO xs = some (fmtS xs) ∧ SmS (n * xs.length) (fmtS xs) := by
  have g := smS_fmt h
  refine ⟨?_, g⟩
  unfold fmtO
  rw [grd_yes ⟨Nat.le_trans g.l hn, g.sok⟩]
  rfl
theorem fit_ok {z : Str} {n : Nat} (h : SmS n z) (hn : n ≤ 16777216) : fitO z = some z := by
  unfold fitO
  rw [grd_yes (Nat.le_trans h.l hn)]
  rfl
theorem join_ok {n : Nat} {sep : Str} (hs : SmS 1 sep) : ∀ {xs : List Str}, (∀ x ∈ xs, SmS n x) → (n + 1) * xs.length ≤ 16777216 → ∃ t, joinO sep xs = some t := by
  intro xs h hl
  have g1 : ∀ ys : List Str, (∀ x ∈ ys, SmS n x) → (ys.map (·.length)).sum + ys.length * sep.length ≤ (n + 1) * ys.length := by
    intro ys
    induction ys with
    | nil => intro _; simp
    | cons y ys ih =>
      intro h
      have := ih fun x hx => h x (List.mem_cons_of_mem _ hx)
      have h1 := (h y List.mem_cons_self).l
      have h2 := hs.l
      rw [List.map_cons, List.sum_cons, List.length_cons, Nat.mul_add, Nat.mul_one, Nat.add_mul, Nat.one_mul]
      omega
  have g2 : ∀ ys : List (List Nat), (∀ u ∈ ys, ∀ c ∈ u, c < 0x110000) → ∀ c ∈ joinL (tl sep) ys, c < 0x110000 := by
    intro ys
    induction ys with
    | nil => intro _ c hc; cases hc
    | cons u r ih =>
      intro h c hc
      cases r with
      | nil => exact h u List.mem_cons_self c hc
      | cons v w =>
        rcases List.mem_append.mp (show c ∈ u ++ (tl sep ++ joinL (tl sep) (v :: w)) from hc) with hc | hc
        · exact h u List.mem_cons_self c hc
        · rcases List.mem_append.mp hc with hc | hc
          · exact hs.s c hc
          · exact ih (fun u hu => h u (List.mem_cons_of_mem _ hu)) c hc
  have hs2 : sok (Txt.join sep xs) = true := sok_iff.mpr fun c hc => by
    have hc : c ∈ tl (Txt.join sep xs) := hc
    rw [join_eq, tl_join] at hc
    refine g2 _ (fun u hu => ?_) c hc
    obtain ⟨x, hx, rfl⟩ := List.mem_map.mp hu
    exact (h x hx).s
  refine ⟨Txt.join sep xs, ?_⟩
  unfold joinO
  rw [grd_yes ⟨Nat.le_trans (g1 xs h) hl, hs2⟩]
  rfl
end K05
end
section
set_option maxHeartbeats 4000000
namespace K05
open PySem L2 Kx Mx TL
/-! ### k05: rows of a Peal's text -/
def sp : Str := Str.ofString " "
def nl : Str := Str.ofString "\n"
theorem tl_sp : tl sp = [32] := by decide +kernel
theorem tl_nl : tl nl = [10] := by decide +kernel
def numS (i : Int) : Str := Str.ofString (toString i)
theorem strI_num {i : Int} (h0 : 0 ≤ i) (h : i < 1000) : strIO i = some (numS i) ∧ SmS 3 (numS i) ∧ ∀ s, (s < 48 ∨ 57 < s) → s ∉ tl (numS i) := by
  obtain ⟨n, rfl⟩ : ∃ n : Nat, i = (n : Int) := ⟨i.toNat, by omega⟩
  have hs := smS_of (toString (n : Int)) (Nat.le_refl _)
  refine ⟨?_, ⟨?_, hs.s⟩, fun s h => ?_⟩
  · unfold strIO
    rw [grd_yes]
    · rfl
    · refine ⟨?_, hs.sok⟩
      have hl : (n : Int).natAbs.log2 ≤ (n : Int).natAbs := Nat.log2_le_self _
      omega
  · unfold numS
    rw [len_tl, tl_num]
    exact numL_len (by decide) (by omega)
  · unfold numS
    rw [tl_num]
    exact numL_free h
/-- numbers read back -/
theorem fig_ok : ∀ n : Fin 100, 0 < n.1 → m_number_of (numS (n.1 : Int)) = some (some (n.1 : Int)) ∧ m__law_worth_of (numS (n.1 : Int)) = some (n.1 : Int) := by decide +kernel
theorem fig_at {i : Int} (h0 : 1 ≤ i) (h : i < 100) : m_number_of (numS i) = some (some i) ∧ m__law_worth_of (numS i) = some i := by
  obtain ⟨n, rfl⟩ : ∃ n : Nat, i = (n : Int) := ⟨i.toNat, by omega⟩
  exact fig_ok ⟨n, by omega⟩ (by show 0 < n; omega)
/-- a text put together of parts, cut again -/
theorem cut_join {y : Str} {s : Nat} (ey : tl y = [s]) (hy : (y.length == 0) = false) (hk : y.cps.all (· < 256) = true) {ps : List Str} {n : Nat} (hne : ps ≠ []) (hp : ∀ p ∈ ps, s ∉ tl p) (hs : ∀ p ∈ ps, SmS n p) (hl : (n + 1) * ps.length ≤ 16000000) :
    splitO (Str.join y ps) y = some ps ∧ SmS ((n + 1) * ps.length) (Str.join y ps) := by
  have sy : s < 0x110000 := by
    have : tl y = [s] := ey
    have h1 := hk
    rw [← Array.all_toList] at h1
    have h2 : (tl y).all (fun x => decide (x < 256)) = true := h1
    rw [ey] at h2
    have : s < 256 := by simpa using h2
    omega
  have ly : y.length = 1 := by rw [len_tl, ey]; rfl
  have len : (Str.join y ps).length ≤ (n + 1) * ps.length := by
    refine Nat.le_trans (PySem.StrLaws.join_length_le y ps) ?_
    rw [ly]
    clear hp hne hl
    induction ps with
    | nil => simp
    | cons p ps ih =>
      have := ih fun q hq => hs q (List.mem_cons_of_mem _ hq)
      have h1 := (hs p List.mem_cons_self).l
      rw [List.map_cons, List.sum_cons, List.length_cons, Nat.mul_add, Nat.mul_one, Nat.mul_one] at *
      omega
  refine ⟨?_, len, fun c hc => ?_⟩
  · unfold splitO
    have e : Txt.split (Str.join y ps) y = ps := by
      have := split_join ey hk hne hp
      rw [join_eq] at this
      exact this
    rw [e, grd_yes ⟨hy, by rw [sizeLine_eq]; omega, List.all_eq_true.mpr fun p hp => (hs p hp).sok⟩]
    rfl
  · rw [tl_join, ey] at hc
    have g : ∀ ys : List (List Nat), (∀ u ∈ ys, ∀ c ∈ u, c < 0x110000) → ∀ c ∈ joinL [s] ys, c < 0x110000 := by
      intro ys
      induction ys with
      | nil => intro _ c hc; cases hc
      | cons u r ih =>
        intro h c hc
        cases r with
        | nil => exact h u List.mem_cons_self c hc
        | cons v w =>
          rcases List.mem_append.mp (show c ∈ u ++ ([s] ++ joinL [s] (v :: w)) from hc) with hc | hc
          · exact h u List.mem_cons_self c hc
          · rcases List.mem_append.mp hc with hc | hc
            · rw [List.mem_singleton.mp hc]; exact sy
            · exact ih (fun u hu => h u (List.mem_cons_of_mem _ hu)) c hc
    refine g _ (fun u hu => ?_) c hc
    obtain ⟨p, hp, rfl⟩ := List.mem_map.mp hu
    exact (hs p hp).s
theorem join_no {y : Str} {s t : Nat} (ey : tl y = [s]) (n : t ≠ s) {ps : List Str} (h : ∀ p ∈ ps, t ∉ tl p) : t ∉ tl (Str.join y ps) := by
  rw [tl_join, ey]
  have g : ∀ ys : List (List Nat), (∀ u ∈ ys, t ∉ u) → t ∉ joinL [s] ys := by
    intro ys
    induction ys with
    | nil => intro _ hc; cases hc
    | cons u r ih =>
      intro h hc
      cases r with
      | nil => exact h u List.mem_cons_self hc
      | cons v w =>
        rcases List.mem_append.mp (show t ∈ u ++ ([s] ++ joinL [s] (v :: w)) from hc) with hc | hc
        · exact h u List.mem_cons_self hc
        · rcases List.mem_append.mp hc with hc | hc
          · exact n (List.mem_singleton.mp hc)
          · exact ih (fun u hu => h u (List.mem_cons_of_mem _ hu)) hc
  refine g _ fun u hu => ?_
  obtain ⟨p, hp, rfl⟩ := List.mem_map.mp hu
  exact h p hp
def bWs (b : Str × Int) : List Str := [Str.ofString "bell", b.1, numS b.2]
def nWs (n : Str × Str × Int) : List Str := [n.1, Str.ofString "turns", n.2.1, numS n.2.2]
def bRow (b : Str × Int) : Str := Str.join sp (bWs b)
def nRow (n : Str × Str × Int) : Str := Str.join sp (nWs n)
def rowsOf (k : KT0) : List Str := k.1.map bRow ++ k.2.map nRow
def textOf (k : KT0) : Str := Str.join nl (rowsOf k)
theorem name_free {z : Str} (h : NameOk z) {s : Nat} (hs : s < 97) : s ∉ tl z := fun hm => by
  have := h.b s hm
  omega
section
variable {k : KT0}
theorem bWs_ok (h : Kit k) {b : Str × Int} (hb : b ∈ k.1) : (∀ p ∈ bWs b, SmS 6 p) ∧ ∀ s, (s = 32 ∨ s = 10) → ∀ p ∈ bWs b, s ∉ tl p := by
  have hs := h.sz b hb
  obtain ⟨_, n2, n3⟩ := strI_num (i := b.2) (by omega) (by omega)
  refine ⟨fun p hp => ?_, fun s hs p hp => ?_⟩
  · simp only [bWs, List.mem_cons, List.not_mem_nil, or_false] at hp
    rcases hp with rfl | rfl | rfl
    · exact smS_of _ (by decide +kernel)
    · exact smS_name (h.name hb)
    · exact n2.mono (by decide)
  · simp only [bWs, List.mem_cons, List.not_mem_nil, or_false] at hp
    rcases hp with rfl | rfl | rfl
    · rcases hs with rfl | rfl <;> decide +kernel
    · exact name_free (h.name hb) (by omega)
    · exact n3 s (by omega)
theorem nWs_ok (h : Kit k) {n : Str × Str × Int} (hn : n ∈ k.2) : (∀ p ∈ nWs n, SmS 6 p) ∧ ∀ s, (s = 32 ∨ s = 10) → ∀ p ∈ nWs n, s ∉ tl p := by
  obtain ⟨a1, a2, _, a4, a5⟩ := h.nt.1 n hn
  obtain ⟨_, n2, n3⟩ := strI_num (i := n.2.2) (by omega) (by omega)
  refine ⟨fun p hp => ?_, fun s hs p hp => ?_⟩
  · simp only [nWs, List.mem_cons, List.not_mem_nil, or_false] at hp
    rcases hp with rfl | rfl | rfl | rfl
    · exact smS_name (h.nm.1 _ a1)
    · exact smS_of _ (by decide +kernel)
    · exact smS_name (h.nm.1 _ a2)
    · exact n2.mono (by decide)
  · simp only [nWs, List.mem_cons, List.not_mem_nil, or_false] at hp
    rcases hp with rfl | rfl | rfl | rfl
    · exact name_free (h.nm.1 _ a1) (by omega)
    · rcases hs with rfl | rfl <;> decide +kernel
    · exact name_free (h.nm.1 _ a2) (by omega)
    · exact n3 s (by omega)
theorem bRow_ok (h : Kit k) {b : Str × Int} (hb : b ∈ k.1) : splitO (bRow b) (Str.ofString " ") = some (bWs b) ∧ SmS 21 (bRow b) ∧ 10 ∉ tl (bRow b) := by
  obtain ⟨h1, h2⟩ := bWs_ok h hb
  obtain ⟨a, c⟩ := cut_join (y := sp) tl_sp (by decide +kernel) (by decide +kernel) (ps := bWs b) (n := 6) (by simp [bWs]) (h2 32 (.inl rfl)) h1 (by simp [bWs])
  exact ⟨a, c.mono (by simp [bWs]), join_no tl_sp (by decide) (h2 10 (.inr rfl))⟩
theorem nRow_ok (h : Kit k) {n : Str × Str × Int} (hn : n ∈ k.2) : splitO (nRow n) (Str.ofString " ") = some (nWs n) ∧ SmS 28 (nRow n) ∧ 10 ∉ tl (nRow n) := by
  obtain ⟨h1, h2⟩ := nWs_ok h hn
  obtain ⟨a, c⟩ := cut_join (y := sp) tl_sp (by decide +kernel) (by decide +kernel) (ps := nWs n) (n := 6) (by simp [nWs]) (h2 32 (.inl rfl)) h1 (by simp [nWs])
  exact ⟨a, c.mono (by simp [nWs]), join_no tl_sp (by decide) (h2 10 (.inr rfl))⟩
theorem rows_ok (h : Kit k) : (∀ p ∈ rowsOf k, SmS 28 p) ∧ ∀ p ∈ rowsOf k, 10 ∉ tl p := by
  refine ⟨fun p hp => ?_, fun p hp => ?_⟩
  · rcases List.mem_append.mp hp with hp | hp
    · obtain ⟨b, hb, rfl⟩ := List.mem_map.mp hp
      exact (bRow_ok h hb).2.1.mono (by decide)
    · obtain ⟨n, hn, rfl⟩ := List.mem_map.mp hp
      exact (nRow_ok h hn).2.1
  · rcases List.mem_append.mp hp with hp | hp
    · obtain ⟨b, hb, rfl⟩ := List.mem_map.mp hp
      exact (bRow_ok h hb).2.2
    · obtain ⟨n, hn, rfl⟩ := List.mem_map.mp hp
      exact (nRow_ok h hn).2.2
theorem rows_len : (rowsOf k).length = k.1.length + k.2.length := by unfold rowsOf; rw [List.length_append, List.length_map, List.length_map]
theorem text_cut (h : Kit k) : splitO (textOf k) (Str.ofString "\n") = some (rowsOf k) := by
  have h1 := h.l1
  have h2 := h.l2
  have h3 := h.nl
  exact (cut_join (y := nl) tl_nl (by decide +kernel) (by decide +kernel) (ps := rowsOf k) (n := 28) (fun e => by have := rows_len (k := k); rw [e] at this; simp at this; omega) (rows_ok h).2 (rows_ok h).1 (by rw [rows_len]; omega)).1
theorem text_join (h : Kit k) : joinO (Str.ofString "\n") (rowsOf k) = some (textOf k) := by
  have h2 := h.l2
  have h3 := h.nl
  obtain ⟨t, et⟩ := join_ok (n := 28) (sep := Str.ofString "\n") (smS_of _ (by decide +kernel)) (rows_ok h).1 (by rw [rows_len]; omega)
  have : t = textOf k := by
    unfold joinO at et
    obtain ⟨_, _, e⟩ := bs et
    cases e
    exact join_eq _ _
  rw [et, this]
/-! the text told by __str__ and by the law -/
theorem bRow_fmt {b : Str × Int} : fmtS [Str.ofString "bell ", b.1, Str.ofString " ", numS b.2] = bRow b := by
  refine ext_tl ?_
  show tl (Str.ofString "bell " ++ (b.1 ++ (Str.ofString " " ++ (numS b.2 ++ Str.empty)))) = tl (Str.join sp (bWs b))
  rw [tl_join, tl_append, tl_append, tl_append, tl_append, tl_sp]
  rw [show tl (Str.ofString "bell ") = tl (Str.ofString "bell") ++ [32] by decide +kernel, show tl (Str.ofString " ") = [32] by decide +kernel, show tl Str.empty = [] from rfl, List.append_nil]
  show _ = tl (Str.ofString "bell") ++ ([32] ++ (tl b.1 ++ ([32] ++ tl (numS b.2))))
  simp only [List.append_assoc]
theorem nRow_fmt {n : Str × Str × Int} : fmtS [n.1, Str.ofString " turns ", n.2.1, Str.ofString " ", numS n.2.2] = nRow n := by
  refine ext_tl ?_
  show tl (n.1 ++ (Str.ofString " turns " ++ (n.2.1 ++ (Str.ofString " " ++ (numS n.2.2 ++ Str.empty))))) = tl (Str.join sp (nWs n))
  rw [tl_join, tl_append, tl_append, tl_append, tl_append, tl_append, tl_sp]
  rw [show tl (Str.ofString " turns ") = [32] ++ (tl (Str.ofString "turns") ++ [32]) by decide +kernel, show tl (Str.ofString " ") = [32] by decide +kernel, show tl Str.empty = [] from rfl, List.append_nil]
  show _ = tl n.1 ++ ([32] ++ (tl (Str.ofString "turns") ++ ([32] ++ (tl n.2.1 ++ ([32] ++ tl (numS n.2.2))))))
  simp only [List.append_assoc]
theorem str_spec (h : Kit k) : m_Peal___str__ (pl k) = some (textOf k) := by
  unfold m_Peal___str__
  dsimp only
  have h2 := h.l2
  have h3 := h.nl
  have e1 : lcO (fun x1 : (Str × Int) => (fitO x1.1).bind fun t9 => (strIO x1.2).bind fun t10 => (fmtO [(Str.ofString "bell "), t9, (Str.ofString " "), t10]).bind fun t11 => some t11) k.1 = some (k.1.map bRow) := by
    obtain ⟨r, a, e⟩ := wp_lcO_map (P := fun r => r = k.1.map bRow) (f := fun x1 : (Str × Int) => (fitO x1.1).bind fun t9 => (strIO x1.2).bind fun t10 => (fmtO [(Str.ofString "bell "), t9, (Str.ofString " "), t10]).bind fun t11 => some t11) bRow (by omega) (fun b hb => by
      have hs := h.sz b hb
      obtain ⟨n1, n2, _⟩ := strI_num (i := b.2) (by omega) (by omega)
      have hn := smS_name (h.name hb)
      rw [fit_ok hn (by decide), Option.bind_some, n1, Option.bind_some, (fmt_ok (n := 6) (fun x hx => by
        simp only [List.mem_cons, List.not_mem_nil, or_false] at hx
        rcases hx with rfl | rfl | rfl | rfl
        · exact smS_of _ (by decide +kernel)
        · exact hn
        · exact smS_of _ (by decide +kernel)
        · exact n2.mono (by decide)) (by simp)).1, bRow_fmt]
      rfl) rfl
    rw [a, e]
  have e2 : lcO (fun x13 : (Str × Str × Int) => (fitO x13.1).bind fun t22 => (fitO x13.2.1).bind fun t23 => (strIO x13.2.2).bind fun t24 => (fmtO [t22, (Str.ofString " turns "), t23, (Str.ofString " "), t24]).bind fun t25 => some t25) k.2 = some (k.2.map nRow) := by
    obtain ⟨r, a, e⟩ := wp_lcO_map (P := fun r => r = k.2.map nRow) (f := fun x13 : (Str × Str × Int) => (fitO x13.1).bind fun t22 => (fitO x13.2.1).bind fun t23 => (strIO x13.2.2).bind fun t24 => (fmtO [t22, (Str.ofString " turns "), t23, (Str.ofString " "), t24]).bind fun t25 => some t25) nRow (by omega) (fun n hn => by
      obtain ⟨a1, a2, _, a4, a5⟩ := h.nt.1 n hn
      obtain ⟨n1, n2, _⟩ := strI_num (i := n.2.2) (by omega) (by omega)
      have s1 := smS_name (h.nm.1 _ a1)
      have s2 := smS_name (h.nm.1 _ a2)
      rw [fit_ok s1 (by decide), Option.bind_some, fit_ok s2 (by decide), Option.bind_some, n1, Option.bind_some, (fmt_ok (n := 7) (fun x hx => by
        simp only [List.mem_cons, List.not_mem_nil, or_false] at hx
        rcases hx with rfl | rfl | rfl | rfl | rfl
        · exact s1.mono (by decide)
        · exact smS_of _ (by decide +kernel)
        · exact s2.mono (by decide)
        · exact smS_of _ (by decide +kernel)
        · exact n2.mono (by decide)) (by simp)).1, nRow_fmt]
      rfl) rfl
    rw [a, e]
  rw [e1, Option.bind_some, e2, Option.bind_some, cat_ok (by rw [List.length_map, List.length_map]; omega), Option.bind_some]
  show (joinO (Str.ofString "\n") (rowsOf k)).bind _ = _
  rw [text_join h]
  rfl
theorem law_text_spec (h : Kit k) : m__law_text (k.1, k.2) = some (textOf k) := by
  unfold m__law_text
  dsimp only
  have h2 := h.l2
  have h3 := h.nl
  have e1 : lcO (fun x1 : (Str × Int) => (addS (Str.ofString "bell ") x1.1).bind fun t9 => (addS t9 (Str.ofString " ")).bind fun t10 => (strIO x1.2).bind fun t11 => (addS t10 t11).bind fun t12 => some t12) k.1 = some (k.1.map bRow) := by
    obtain ⟨r, a, e⟩ := wp_lcO_map (P := fun r => r = k.1.map bRow) (f := fun x1 : (Str × Int) => (addS (Str.ofString "bell ") x1.1).bind fun t9 => (addS t9 (Str.ofString " ")).bind fun t10 => (strIO x1.2).bind fun t11 => (addS t10 t11).bind fun t12 => some t12) bRow (by omega) (fun b hb => by
      have hs := h.sz b hb
      obtain ⟨n1, n2, _⟩ := strI_num (i := b.2) (by omega) (by omega)
      have hn := smS_name (h.name hb)
      have s1 := (smS_of "bell " (n := 5) (by decide +kernel)).app hn
      have s2 := s1.app (smS_of " " (n := 1) (by decide +kernel))
      rw [add_yes (by rw [← len_tl, ← len_tl]; have := hn.l; have := (smS_of "bell " (n := 5) (by decide +kernel)).l; omega), Option.bind_some, add_yes (by rw [← len_tl, ← len_tl]; have := s1.l; have := (smS_of " " (n := 1) (by decide +kernel)).l; omega), Option.bind_some, n1, Option.bind_some, add_yes (by rw [← len_tl, ← len_tl]; have := s2.l; have := n2.l; omega), Option.bind_some, ← bRow_fmt]
      congr 1
      show _ = Str.ofString "bell " ++ (b.1 ++ (Str.ofString " " ++ (numS b.2 ++ Str.empty)))
      rw [app_nil, app_assoc, app_assoc]) rfl
    rw [a, e]
  have e2 : lcO (fun x14 : (Str × Str × Int) => (addS x14.1 (Str.ofString " turns ")).bind fun t23 => (addS t23 x14.2.1).bind fun t24 => (addS t24 (Str.ofString " ")).bind fun t25 => (strIO x14.2.2).bind fun t26 => (addS t25 t26).bind fun t27 => some t27) k.2 = some (k.2.map nRow) := by
    obtain ⟨r, a, e⟩ := wp_lcO_map (P := fun r => r = k.2.map nRow) (f := fun x14 : (Str × Str × Int) => (addS x14.1 (Str.ofString " turns ")).bind fun t23 => (addS t23 x14.2.1).bind fun t24 => (addS t24 (Str.ofString " ")).bind fun t25 => (strIO x14.2.2).bind fun t26 => (addS t25 t26).bind fun t27 => some t27) nRow (by omega) (fun n hn => by
      obtain ⟨a1, a2, _, a4, a5⟩ := h.nt.1 n hn
      obtain ⟨n1, n2, _⟩ := strI_num (i := n.2.2) (by omega) (by omega)
      have s1 := smS_name (h.nm.1 _ a1)
      have s2 := smS_name (h.nm.1 _ a2)
      have q1 := smS_of " turns " (n := 7) (by decide +kernel)
      have q2 := smS_of " " (n := 1) (by decide +kernel)
      have p1 := s1.app q1
      have p2 := p1.app s2
      have p3 := p2.app q2
      rw [add_yes (by rw [← len_tl, ← len_tl]; have := s1.l; have := q1.l; omega), Option.bind_some, add_yes (by rw [← len_tl, ← len_tl]; have := p1.l; have := s2.l; omega), Option.bind_some, add_yes (by rw [← len_tl, ← len_tl]; have := p2.l; have := q2.l; omega), Option.bind_some, n1, Option.bind_some, add_yes (by rw [← len_tl, ← len_tl]; have := p3.l; have := n2.l; omega), Option.bind_some, ← nRow_fmt]
      congr 1
      show _ = n.1 ++ (Str.ofString " turns " ++ (n.2.1 ++ (Str.ofString " " ++ (numS n.2.2 ++ Str.empty))))
      rw [app_nil, app_assoc, app_assoc, app_assoc]) rfl
    rw [a, e]
  rw [e1, Option.bind_some, e2, Option.bind_some, cat_ok (by rw [List.length_map, List.length_map]; omega), Option.bind_some]
  show (joinO (Str.ofString "\n") (rowsOf k)).bind _ = _
  rw [text_join h]
  rfl
end
end K05
end
section
set_option maxHeartbeats 4000000
namespace K05
open PySem L2 Kx Mx TL
/-! ### k05: a Peal's text read back, by the program and by the law -/
theorem forO_run {S α β : Type} {f : S → α → Option S} {xs : List α} {s : S} {g : S → Option β} (st : Nat → S) (h0 : st 0 = s) (hs : ∀ i x, xs[i]? = some x → f (st i) x = some (st (i + 1))) : (forO f xs s).bind g = g (st xs.length) := by
  have : forO f xs s = some (st xs.length) := by
    induction xs generalizing s st with
    | nil => rw [← h0]; rfl
    | cons x xs ih =>
      show (f s x).bind _ = _
      have h1 := hs 0 x rfl
      rw [h0] at h1
      rw [h1]
      exact ih (fun i => st (i + 1)) rfl fun i y hy => hs (i + 1) y hy
  rw [this]
  rfl
theorem forR_run {S R α β : Type} {f : S → α → Option (S ⊕ R)} {xs : List α} {s : S} {g : S ⊕ R → Option β} (st : Nat → S) (h0 : st 0 = s) (hs : ∀ i x, xs[i]? = some x → f (st i) x = some (.inl (st (i + 1)))) : (forR f xs s).bind g = g (.inl (st xs.length)) := by
  have : forR f xs s = some (.inl (st xs.length)) := by
    induction xs generalizing s st with
    | nil => rw [← h0]; rfl
    | cons x xs ih =>
      show (f s x).bind _ = _
      have h1 := hs 0 x rfl
      rw [h0] at h1
      rw [h1]
      exact ih (fun i => st (i + 1)) rfl fun i y hy => hs (i + 1) y hy
  rw [this]
  rfl
theorem tk1 {α : Type} {xs : List α} {i : Nat} {x : α} (h : xs[i]? = some x) : xs.take (i + 1) = xs.take i ++ [x] := by
  rw [List.take_add_one, h]
  rfl
theorem tk_last {α : Type} {xs : List α} {i : Nat} {x : α} (h : xs[i]? = some x) : atI (xs.take (i + 1)) (-(1 : Int)) = some x := by
  have hi := (List.getElem?_eq_some_iff.mp h).1
  have l : (xs.take (i + 1)).length = i + 1 := by rw [List.length_take]; omega
  unfold atI ixN
  rw [if_neg (by omega), if_pos (by omega), Option.bind_some, l]
  have : (-(1 : Int) + ((i + 1 : Nat) : Int)).toNat = i := by omega
  rw [this, List.getElem?_take]
  rw [if_pos (by omega), h]
theorem is_call_spec {z : Str} (h : NameOk z) : m__law_is_call z = some true := by
  have e := is_name_spec h
  unfold m_is_name at e
  rw [Bool.not_true, cond_false] at e
  obtain ⟨t2, e2, e⟩ := bs e
  obtain ⟨t1, e1, e2⟩ := bs e2
  cases e2
  unfold m__law_is_call
  rw [e1, Option.bind_some]
  cases q : (decide ((1 : Int) ≤ t1) && decide (t1 ≤ (6 : Int))) with
  | false => rw [q, Bool.not_false, cond_true] at e; cases e
  | true =>
    rw [q, Bool.not_true, cond_false] at e
    rw [Bool.and_eq_true, decide_eq_true_eq, decide_eq_true_eq] at q
    rw [decide_eq_true (show (0 : Int) < t1 by omega), decide_eq_true (show t1 < (7 : Int) by omega), Bool.and_self, cond_true, e]
    rfl
theorem sLt_nil {z : Str} (h : NameOk z) : sLt (Str.ofString "") z = true := by
  have h1 := h.l1
  unfold sLt
  rw [show (Str.ofString "").cps.toList = [] from rfl]
  refine decide_eq_true ?_
  cases e : z.cps.toList with
  | nil => rw [e] at h1; simp at h1
  | cons a b => exact List.nil_lt_cons a b
theorem ltP_nil {a b : Str} (h : NameOk a) : ltP (Str.ofString "", Str.ofString "") (a, b) = true := by
  have n : ¬ Str.ofString "" = a := fun e => by
    have h1 := h.l1
    rw [← e] at h1
    revert h1
    decide
  unfold ltP
  dsimp only
  rw [if_neg n]
  exact sLt_nil h
section
variable {k : KT0} {i j : Nat} {b : Str × Int} {n : Str × Str × Int}
theorem bell_yes (h : Kit k) (hb : k.1[i]? = some b) : m_bell_of (bWs b, k.1.take i) = some (some b) := by
  have hi := (List.getElem?_eq_some_iff.mp hb).1
  have h8 := h.l2
  have hm := List.mem_of_getElem? hb
  have hs := h.sz b hm
  have lt : (k.1.take i).length = i := by rw [List.length_take]; omega
  have ib : m_is_bell (b.1, b.2) = some true := is_bell_spec (h.name hm) hs
  unfold m_bell_of
  dsimp only
  rw [show decide (((bWs b).length : Int) = (3 : Int)) = true from rfl, Bool.not_true, cond_false, show atI (bWs b) (0 : Int) = some (Str.ofString "bell") from rfl, Option.bind_some, show decide (Str.ofString "bell" = Str.ofString "bell") = true from decide_eq_true rfl, Bool.not_true, Bool.false_or, decide_eq_false (show ¬ ((k.1.take i).length : Int) = 8 by rw [lt]; omega), Option.bind_some, cond_false, show atI (bWs b) (1 : Int) = some b.1 from rfl, Option.bind_some, show atI (bWs b) (2 : Int) = some (numS b.2) from rfl, Option.bind_some, (fig_at (i := b.2) (by omega) (by omega)).1, Option.bind_some]
  rw [Option.bind_some, ib, Option.bind_some, Bool.not_true, cond_false]
  have : (cond (!decide (k.1.take i = ([] : List (Str × Int)))) ((atI (k.1.take i) (-(1 : Int))).bind fun t8 => some (!sLt t8.1 b.1)) (some false)) = some false := by
    cases i with
    | zero => rw [List.take_zero]; rfl
    | succ i =>
      obtain ⟨c, hc⟩ : ∃ c, k.1[i]? = some c := ⟨_, List.getElem?_eq_getElem (by omega)⟩
      rw [tk_last hc, Option.bind_some, decide_eq_false (fun e => by rw [e] at lt; cases lt), Bool.not_false, cond_true]
      have := pw_at h.nm.2 (i := i) (j := i + 1) (x := c.1) (y := b.1) (by omega) (by rw [List.getElem?_map, hc]; rfl) (by rw [List.getElem?_map, hb]; rfl)
      rw [this]
      rfl
  rw [this]
  rfl
theorem bell_no (bs : List (Str × Int)) : m_bell_of (nWs n, bs) = some none := by unfold m_bell_of; rfl
theorem notch_no (bs : List (Str × Int)) (ns : List (Str × Str × Int)) : m_notch_of (bWs b, bs, ns) = some none := by unfold m_notch_of; rfl
theorem notch_yes (h : Kit k) (hn : k.2[j]? = some n) : m_notch_of (nWs n, k.1, k.2.take j) = some (some n) := by
  have hj := (List.getElem?_eq_some_iff.mp hn).1
  have h6 := h.nl
  have hm := List.mem_of_getElem? hn
  obtain ⟨a1, a2, a3, a4, a5⟩ := h.nt.1 n hm
  have lt : (k.2.take j).length = j := by rw [List.length_take]; omega
  have ib : m_is_notch ((n.1, n.2.1, n.2.2), cs k) = some true := is_notch_spec h hm
  unfold m_notch_of
  dsimp only
  rw [show decide (((nWs n).length : Int) = (4 : Int)) = true from rfl, Bool.not_true, cond_false, show atI (nWs n) (1 : Int) = some (Str.ofString "turns") from rfl, Option.bind_some, show decide (Str.ofString "turns" = Str.ofString "turns") = true from decide_eq_true rfl, Bool.not_true, Option.bind_some, cond_false, show atI (nWs n) (0 : Int) = some n.1 from rfl, Option.bind_some, show atI (nWs n) (2 : Int) = some n.2.1 from rfl, Option.bind_some, show atI (nWs n) (3 : Int) = some (numS n.2.2) from rfl, Option.bind_some, (fig_at (i := n.2.2) (by omega) (by omega)).1, Option.bind_some]
  rw [Option.bind_some, names_lc h, Option.bind_some, ib, Option.bind_some, Bool.not_true, cond_false]
  have : (cond (!decide (k.2.take j = ([] : List (Str × Str × Int)))) ((atI (k.2.take j) (-(1 : Int))).bind fun t8 => some (!ltP (t8.1, t8.2.1) (n.1, n.2.1))) (some false)) = some false := by
    cases j with
    | zero => rw [List.take_zero]; rfl
    | succ j =>
      obtain ⟨c, hc⟩ : ∃ c, k.2[j]? = some c := ⟨_, List.getElem?_eq_getElem (by omega)⟩
      rw [tk_last hc, Option.bind_some, decide_eq_false (fun e => by rw [e] at lt; cases lt), Bool.not_false, cond_true]
      have := pw_at h.nt.2 (i := j) (j := j + 1) (x := c) (y := n) (by omega) hc hn
      rw [this]
      rfl
  rw [this]
  rfl
theorem row_at {x : Int × Str} (hx : (enum (rowsOf k))[i]? = some x) : (∃ b, k.1[i]? = some b ∧ x = ((i : Int), bRow b)) ∨ ∃ j n, i = k.1.length + j ∧ k.2[j]? = some n ∧ x = ((i : Int), nRow n) := by
  obtain ⟨r, hr, rfl⟩ := enum_at hx
  unfold rowsOf at hr
  by_cases q : i < k.1.length
  · rw [List.getElem?_append_left (by rw [List.length_map]; exact q), List.getElem?_map] at hr
    obtain ⟨b, hb, rfl⟩ := Option.map_eq_some_iff.mp hr
    exact .inl ⟨b, hb, rfl⟩
  · rw [List.getElem?_append_right (by rw [List.length_map]; omega), List.length_map, List.getElem?_map] at hr
    obtain ⟨n, hn, rfl⟩ := Option.map_eq_some_iff.mp hr
    exact .inr ⟨i - k.1.length, n, by omega, hn, rfl⟩
/-- the rows gone through so far -/
def stK (k : KT0) (i : Nat) : List (Str × Int) × List (Str × Str × Int) := (k.1.take i, k.2.take (i - k.1.length))
theorem stK_zero : stK k 0 = ([], []) := by unfold stK; rw [Nat.zero_sub, List.take_zero, List.take_zero]
theorem stK_all : stK k (enum (rowsOf k)).length = (k.1, k.2) := by
  rw [enum_len, rows_len]
  unfold stK
  rw [List.take_of_length_le (by omega), List.take_of_length_le (by omega)]
theorem stK_bell (hb : k.1[i]? = some b) : stK k i = (k.1.take i, []) ∧ stK k (i + 1) = (k.1.take i ++ [b], []) := by
  have hi := (List.getElem?_eq_some_iff.mp hb).1
  unfold stK
  rw [show i - k.1.length = 0 by omega, show i + 1 - k.1.length = 0 by omega, List.take_zero, tk1 hb]
  exact ⟨rfl, rfl⟩
theorem stK_notch (e : i = k.1.length + j) (hn : k.2[j]? = some n) : stK k i = (k.1, k.2.take j) ∧ stK k (i + 1) = (k.1, k.2.take j ++ [n]) := by
  unfold stK
  rw [show i - k.1.length = j by omega, show i + 1 - k.1.length = j + 1 by omega, List.take_of_length_le (show k.1.length ≤ i by omega), List.take_of_length_le (show k.1.length ≤ i + 1 by omega), tk1 hn]
  exact ⟨rfl, rfl⟩
theorem app_yes {α : Type} {xs : List α} {x : α} (h : xs.length < 16777216) : appO xs x = some (xs ++ [x]) := by
  unfold appO
  rw [grd_yes h]
  rfl
theorem read_spec (h : Kit k) : m_read_peal (textOf k) = some (pl k) := by
  have h8 := h.l2
  have h6 := h.nl
  unfold m_read_peal
  rw [Bool.not_true, cond_false, text_cut h, Option.bind_some]
  refine (forO_run (stK k) stK_zero (fun i x hx => ?_)).trans ?_
  · rcases row_at hx with ⟨b, hb, rfl⟩ | ⟨j, n, e, hn, rfl⟩
    · obtain ⟨e1, e2⟩ := stK_bell hb
      rw [e1, e2]
      dsimp only
      rw [(bRow_ok h (List.mem_of_getElem? hb)).1, Option.bind_some, decide_eq_true rfl, cond_true, bell_yes h hb, Option.bind_some, Option.bind_some, notch_no, Option.bind_some]
      show (appO (k.1.take i) b).bind _ = _
      rw [app_yes (by rw [List.length_take]; omega)]
      rfl
    · obtain ⟨e1, e2⟩ := stK_notch e hn
      rw [e1, e2]
      dsimp only
      rw [(nRow_ok h (List.mem_of_getElem? hn)).1, Option.bind_some, bell_no, Option.bind_some]
      have : (cond (decide (k.2.take j = ([] : List (Str × Str × Int)))) (some (none : Option (Str × Int))) (some (none : Option (Str × Int)))) = some none := by
        cases decide (k.2.take j = ([] : List (Str × Str × Int))) <;> rfl
      rw [this, Option.bind_some, notch_yes h hn, Option.bind_some]
      show (appO (k.2.take j) n).bind _ = _
      rw [app_yes (by rw [List.length_take]; omega)]
      rfl
  · rw [stK_all]
    show (m_Peal___init__ (k.1, k.2)).bind _ = _
    rw [init_spec h]
    rfl
theorem read2_spec (h : Kit k) : m_read_peal_2 (textOf k) = some (.inl (pl k)) := by
  have h8 := h.l2
  have h6 := h.nl
  unfold m_read_peal_2
  rw [Bool.not_true, cond_false, text_cut h, Option.bind_some]
  refine (forR_run (stK k) stK_zero (fun i x hx => ?_)).trans ?_
  · rcases row_at hx with ⟨b, hb, rfl⟩ | ⟨j, n, e, hn, rfl⟩
    · obtain ⟨e1, e2⟩ := stK_bell hb
      rw [e1, e2]
      dsimp only
      rw [(bRow_ok h (List.mem_of_getElem? hb)).1, Option.bind_some, decide_eq_true rfl, cond_true, bell_yes h hb, Option.bind_some, Option.bind_some, notch_no, Option.bind_some]
      show (appO (k.1.take i) b).bind _ = _
      rw [app_yes (by rw [List.length_take]; omega)]
      rfl
    · obtain ⟨e1, e2⟩ := stK_notch e hn
      rw [e1, e2]
      dsimp only
      rw [(nRow_ok h (List.mem_of_getElem? hn)).1, Option.bind_some, bell_no, Option.bind_some]
      have : (cond (decide (k.2.take j = ([] : List (Str × Str × Int)))) (some (none : Option (Str × Int))) (some (none : Option (Str × Int)))) = some none := by
        cases decide (k.2.take j = ([] : List (Str × Str × Int))) <;> rfl
      rw [this, Option.bind_some, notch_yes h hn, Option.bind_some]
      show (appO (k.2.take j) n).bind _ = _
      rw [app_yes (by rw [List.length_take]; omega)]
      rfl
  · rw [stK_all, orI]
    show (m_Peal___init__ (k.1, k.2)).bind _ = _
    rw [init_spec h]
    rfl
theorem lc_pairs {ns : List (Str × Str × Int)} (h : ns.length ≤ 64) : lcO (fun x50 : (Str × Str × Int) => some (x50.1, x50.2.1)) ns = some (ns.map fun n => (n.1, n.2.1)) := by
  obtain ⟨r, e1, e2⟩ := wp_lcO_map (P := fun t => t = ns.map fun n => (n.1, n.2.1)) (f := fun x : (Str × Str × Int) => some (x.1, x.2.1)) (fun n => (n.1, n.2.1)) (by omega) (fun _ _ => rfl) rfl
  rw [e1, e2]
theorem lc_names {bs : List (Str × Int)} (h : bs.length ≤ 8) : lcO (fun x15 : (Str × Int) => some x15.1) bs = some (bs.map (·.1)) := by
  obtain ⟨r, e1, e2⟩ := wp_lcO_map (P := fun t => t = bs.map (·.1)) (f := fun x : (Str × Int) => some x.1) (·.1) (by omega) (fun _ _ => rfl) rfl
  rw [e1, e2]
/-- the last name so far, or the empty text, stands below the next -/
theorem last_name (h : Kit k) (hb : k.1[i]? = some b) : ∃ c, atI ([Str.ofString ""] ++ (k.1.take i).map (·.1)) (-(1 : Int)) = some c ∧ sLt c b.1 = true := by
  have hi := (List.getElem?_eq_some_iff.mp hb).1
  have e : [Str.ofString ""] ++ (k.1.take i).map (·.1) = (Str.ofString "" :: cs k).take (i + 1) := by
    rw [List.take_succ_cons]
    unfold cs
    rw [List.map_take]
    rfl
  rw [e]
  cases i with
  | zero => exact ⟨Str.ofString "", tk_last rfl, sLt_nil (h.name (List.mem_of_getElem? hb))⟩
  | succ i =>
    obtain ⟨c, hc⟩ : ∃ c, k.1[i]? = some c := ⟨_, List.getElem?_eq_getElem (by omega)⟩
    have hc' : (cs k)[i]? = some c.1 := by unfold cs; rw [List.getElem?_map, hc]; rfl
    exact ⟨c.1, tk_last (i := i + 1) hc', pw_at h.nm.2 (i := i) (j := i + 1) (by omega) hc' (by rw [List.getElem?_map, hb]; rfl)⟩
theorem last_pair (h : Kit k) (hn : k.2[j]? = some n) : ∃ c, atI ([(Str.ofString "", Str.ofString "")] ++ (k.2.take j).map fun n => (n.1, n.2.1)) (-(1 : Int)) = some c ∧ ltP c (n.1, n.2.1) = true := by
  have hi := (List.getElem?_eq_some_iff.mp hn).1
  have e : [(Str.ofString "", Str.ofString "")] ++ (k.2.take j).map (fun n => (n.1, n.2.1)) = ((Str.ofString "", Str.ofString "") :: k.2.map fun n => (n.1, n.2.1)).take (j + 1) := by
    rw [List.take_succ_cons, List.map_take]
    rfl
  rw [e]
  cases j with
  | zero => exact ⟨(Str.ofString "", Str.ofString ""), tk_last rfl, ltP_nil (h.nm.1 _ (h.nt.1 n (List.mem_of_getElem? hn)).1)⟩
  | succ j =>
    obtain ⟨c, hc⟩ : ∃ c, k.2[j]? = some c := ⟨_, List.getElem?_eq_getElem (by omega)⟩
    exact ⟨(c.1, c.2.1), tk_last (i := j + 1) (show (k.2.map fun n => (n.1, n.2.1))[j]? = _ by rw [List.getElem?_map, hc]; rfl), pw_at h.nt.2 (i := j) (j := j + 1) (by omega) hc hn⟩
theorem law_read_spec (h : Kit k) : m__law_read (textOf k) = some (k.1, k.2, none) := by
  have h8 := h.l2
  have h6 := h.nl
  unfold m__law_read
  rw [text_cut h, Option.bind_some]
  refine (forR_run (stK k) stK_zero (fun i x hx => ?_)).trans ?_
  · rcases row_at hx with ⟨b, hb, rfl⟩ | ⟨j, n, e, hn, rfl⟩
    · obtain ⟨e1, e2⟩ := stK_bell hb
      have hi := (List.getElem?_eq_some_iff.mp hb).1
      have hs := h.sz b (List.mem_of_getElem? hb)
      obtain ⟨c, ec, lc⟩ := last_name h hb
      have w := (fig_at (i := b.2) (by omega) (by omega)).2
      have lt : (k.1.take i).length = i := by rw [List.length_take]; omega
      rw [e1, e2]
      dsimp only
      rw [(bRow_ok h (List.mem_of_getElem? hb)).1, Option.bind_some, lc_names (by omega), Option.bind_some, show decide (((bWs b).length : Int) = (3 : Int)) = true from rfl, cond_true, show atI (bWs b) (0 : Int) = some (Str.ofString "bell") from rfl, Option.bind_some, show decide (Str.ofString "bell" = Str.ofString "bell") = true from decide_eq_true rfl, Bool.true_and, decide_eq_true (show ([] : List (Str × Str × Int)) = [] from rfl), Bool.true_and, decide_eq_true (show (((k.1.take i).map (·.1)).length : Int) < 8 by rw [List.length_map, lt]; omega), Option.bind_some, cond_true, show atI (bWs b) (1 : Int) = some b.1 from rfl, Option.bind_some, is_call_spec (h.name (List.mem_of_getElem? hb)), Option.bind_some, cond_true, show atI (bWs b) (2 : Int) = some (numS b.2) from rfl, Option.bind_some, w, Option.bind_some, decide_eq_true (show (1 : Int) < b.2 by omega), decide_eq_true (show b.2 < (25 : Int) by omega), Bool.and_self, cond_true, cat_ok (by rw [List.length_map, lt]; simp; omega), Option.bind_some, ec, Option.bind_some, Option.bind_some, lc, Option.bind_some, Option.bind_some, Option.bind_some, Option.bind_some, w, Option.bind_some, app_yes (by omega)]
      rfl
    · obtain ⟨e1, e2⟩ := stK_notch e hn
      have hj := (List.getElem?_eq_some_iff.mp hn).1
      obtain ⟨a1, a2, a3, a4, a5⟩ := h.nt.1 n (List.mem_of_getElem? hn)
      obtain ⟨c, ec, lc⟩ := last_pair h hn
      have w := (fig_at (i := n.2.2) (by omega) (by omega)).2
      have lt : (k.2.take j).length = j := by rw [List.length_take]; omega
      rw [e1, e2]
      dsimp only
      rw [(nRow_ok h (List.mem_of_getElem? hn)).1, Option.bind_some, lc_names (by omega), Option.bind_some, show decide (((nWs n).length : Int) = (3 : Int)) = false from rfl, cond_false, Option.bind_some, cond_false, show decide (((nWs n).length : Int) = (4 : Int)) = true from rfl, cond_true, show atI (nWs n) (1 : Int) = some (Str.ofString "turns") from rfl, Option.bind_some, show decide (Str.ofString "turns" = Str.ofString "turns") = true from decide_eq_true rfl, Option.bind_some, cond_true, show atI (nWs n) (0 : Int) = some n.1 from rfl, Option.bind_some, show memB n.1 (k.1.map (·.1)) = true from decide_eq_true a1, cond_true, show atI (nWs n) (2 : Int) = some n.2.1 from rfl, Option.bind_some, show memB n.2.1 (k.1.map (·.1)) = true from decide_eq_true a2, cond_true, Option.bind_some, Option.bind_some, decide_eq_false a3, Bool.not_false, Option.bind_some, Option.bind_some, lc_pairs (by omega), Option.bind_some, cat_ok (by rw [List.length_map, lt]; simp; omega), Option.bind_some, ec, Option.bind_some, cond_true, show atI (nWs n) (3 : Int) = some (numS n.2.2) from rfl, Option.bind_some, w, Option.bind_some, decide_eq_true (show (0 : Int) < n.2.2 by omega), decide_eq_true (show n.2.2 < (100 : Int) by omega), Bool.and_self, cond_true, Option.bind_some, Option.bind_some, lc, Option.bind_some, Option.bind_some, Option.bind_some, Option.bind_some, Option.bind_some, w, Option.bind_some, app_yes (by omega)]
      rfl
  · rw [stK_all, orI]
theorem Kit.rep5 (h : Kit k) : ∃ t, reprO (toPy (eP2 (eT (eP2 Dat.str Dat.int)) (eT (eP3 Dat.str Dat.str Dat.int)) (k.1, k.2))) = some t := by
  have hp : ∀ x ∈ (k.1.map fun b => toPy (eP2 Dat.str Dat.int b)), Rep 401 2 x := fun x hx => by
    obtain ⟨b, hb, rfl⟩ := List.mem_map.mp hx
    rw [toPy_tuple]
    have := h.sz b hb
    refine rep_tup (n := 200) (m := 1) (fun y hy => ?_) (by simp)
    simp only [List.map_cons, List.map_nil, List.mem_cons, List.not_mem_nil, or_false] at hy
    rcases hy with rfl | rfl
    · rw [toPy_str]
      exact (rep_str (m := 1) (h.name hb)).mono (by decide) (by decide)
    · rw [toPy_int]
      exact rep_int (by omega) (by omega)
  have hq : ∀ x ∈ (k.2.map fun b => toPy (eP3 Dat.str Dat.str Dat.int b)), Rep 601 2 x := fun x hx => by
    obtain ⟨b, hb, rfl⟩ := List.mem_map.mp hx
    rw [toPy_tuple]
    obtain ⟨h1, h2, h3, h4, h5⟩ := h.nt.1 b hb
    refine rep_tup (n := 200) (m := 1) (fun y hy => ?_) (by simp)
    simp only [List.map_cons, List.map_nil, List.mem_cons, List.not_mem_nil, or_false] at hy
    rcases hy with rfl | rfl | rfl
    · rw [toPy_str]
      exact (rep_str (m := 1) (h.nm.1 _ h1)).mono (by decide) (by decide)
    · rw [toPy_str]
      exact (rep_str (m := 1) (h.nm.1 _ h2)).mono (by decide) (by decide)
    · rw [toPy_int]
      exact rep_int (by omega) (by omega)
  have l1 := h.l2
  have l2 := h.nl
  have e1 : toPy (eT (eP2 Dat.str Dat.int) k.1) = .tuple (k.1.map fun b => toPy (eP2 Dat.str Dat.int b)) := by
    rw [toPy_tuple, List.map_map]
    rfl
  have e2 : toPy (eT (eP3 Dat.str Dat.str Dat.int) k.2) = .tuple (k.2.map fun b => toPy (eP3 Dat.str Dat.str Dat.int b)) := by
    rw [toPy_tuple, List.map_map]
    rfl
  have r1 : Rep 39000 3 (toPy (eT (eP2 Dat.str Dat.int) k.1)) := by
    rw [e1]
    exact (rep_tup (n := 401) (m := 2) (l := 401 * 8 + 1) hp (by rw [List.length_map]; omega)).mono (by decide) (by decide)
  have r2 : Rep 39000 3 (toPy (eT (eP3 Dat.str Dat.str Dat.int) k.2)) := by
    rw [e2]
    exact (rep_tup (n := 601) (m := 2) (l := 601 * 64 + 1) hq (by rw [List.length_map]; omega)).mono (by decide) (by decide)
  rw [toPy_tuple]
  refine (rep_tup (n := 39000) (m := 3) (l := 78001) (fun y hy => ?_) (by simp)).ok (by decide) (by decide)
  simp only [List.map_cons, List.map_nil, List.mem_cons, List.not_mem_nil, or_false] at hy
  rcases hy with rfl | rfl
  · exact r1
  · exact r2
theorem read_right_spec (h : Kit k) (d : Int) : m__law_read_right (textOf k, d) = some true := by
  obtain ⟨t, et⟩ := h.rep5
  unfold m__law_read_right
  dsimp only
  rw [law_read_spec h, Option.bind_some, read2_spec h]
  have e : (cond (decide (d = 0)) (some (Sum.inl (pl k)) : Option (((List (Str × Int)) × (List (Str × Str × Int)) × (List (Str × Int)) × (List ((Str × Str) × Int))) ⊕ Ex)) (some (.inl (pl k)))) = some (.inl (pl k)) := by
    cases decide (d = 0) <;> rfl
  rw [e, Option.bind_some, orX_v]
  have et' : reprO (toPy (eP2 (eT (eP2 Dat.str Dat.int)) (eT (eP3 Dat.str Dat.str Dat.int)) ((pl k).1, (pl k).2.1))) = some t := et
  dsimp only
  rw [show ((none : Option Int).isSome || !true) = false from rfl, cond_false, et', Option.bind_some, Option.bind_some, decide_eq_true rfl, cond_true, str_spec h, Option.bind_some, decide_eq_true rfl]
  rfl
end
end K05
end
section
set_option maxHeartbeats 4000000
namespace K05
open PySem L2 Kx Mx TL
/-! ### k05: the law -/
theorem wp_mapFS {α β : Type} {f : α → Sto → Option (Option β × Sto)} {T : α → β → Prop} {R : α → α → Prop} {Q : β → β → Prop} (hRQ : ∀ x x' y y', R x x' → T x y → T x' y' → Q y y') : ∀ {xs : List α} {z : Sto}, (∀ x ∈ xs, ∀ z, Wp (f x z) fun r => ∀ y, r.1 = some y → T x y) → xs.Pairwise R → Wp (mapFS f xs z) fun r => r.1.length ≤ xs.length ∧ (∀ y ∈ r.1, ∃ x ∈ xs, T x y) ∧ r.1.Pairwise Q
  | [], z, _, _ => wp_some ⟨Nat.le_refl _, fun y hy => (by cases hy), List.Pairwise.nil⟩
  | x :: xs, z, h, p => by
    have p' := List.pairwise_cons.mp p
    refine wp_bind (h x List.mem_cons_self z) fun y hy => ?_
    refine wp_bind (wp_mapFS hRQ (fun x hx => h x (List.mem_cons_of_mem _ hx)) p'.2) fun ys ⟨h1, h2, h3⟩ => wp_some ?_
    obtain ⟨y1, y2⟩ := y
    cases y1 with
    | none => exact ⟨by show ys.1.length ≤ _; rw [List.length_cons]; omega, fun y hy => by obtain ⟨x, hx, t⟩ := h2 y hy; exact ⟨x, List.mem_cons_of_mem _ hx, t⟩, h3⟩
    | some y =>
      refine ⟨by show (y :: ys.1).length ≤ _; rw [List.length_cons, List.length_cons]; omega, fun w hw => ?_, ?_⟩
      · rcases List.mem_cons.mp (show w ∈ y :: ys.1 from hw) with rfl | hw
        · exact ⟨x, List.mem_cons_self, hy _ rfl⟩
        · obtain ⟨x, hx, t⟩ := h2 w hw
          exact ⟨x, List.mem_cons_of_mem _ hx, t⟩
      · refine List.pairwise_cons.mpr ⟨fun w hw => ?_, h3⟩
        obtain ⟨x', hx, t⟩ := h2 w hw
        exact hRQ x x' y w (p'.1 x' hx) (hy _ rfl) t
theorem wp_lcFS {α β : Type} {f : α → Sto → Option (Option β × Sto)} {T : α → β → Prop} {R : α → α → Prop} {Q : β → β → Prop} {xs : List α} {z : Sto} (hRQ : ∀ x x' y y', R x x' → T x y → T x' y' → Q y y') (hl : xs.length ≤ 16777216) (h : ∀ x ∈ xs, ∀ z, Wp (f x z) fun r => ∀ y, r.1 = some y → T x y) (p : xs.Pairwise R) : Wp (lcFS f xs z) fun r => r.1.length ≤ xs.length ∧ (∀ y ∈ r.1, ∃ x ∈ xs, T x y) ∧ r.1.Pairwise Q :=
  wp_bind (wp_grd hl) fun _ _ => wp_mapFS hRQ h p
theorem ltP_fst {a b c d : Str} (h : sLt a c = true) : ltP (a, b) (c, d) = true := by
  unfold ltP
  dsimp only
  rw [if_neg (slt_ne h)]
  exact h
theorem ltP_snd {a b d : Str} (h : sLt b d = true) : ltP (a, b) (a, d) = true := by
  unfold ltP
  dsimp only
  rw [if_pos rfl]
  exact h
section
variable {k : KT0}
theorem all_teeth (h : Kit k) (z : Sto) : Wp (forO (fun (st10 : (List (Str × Str × Int)) × Sto) (x11 : (Str × Int)) => (lcFS (fun (x20 : (Str × Int)) (x20z : Sto) => cond (!decide (x20.1 = x11.1)) ((m__law_pull (99 : Int) x20z).bind fun t26 => some (some (x11.1, x20.1, ((1 : Int) + t26.1)), t26.2)) (some (none, x20z))) k.1 st10.2).bind fun t27 => (catO st10.1 t27.1).bind fun t28 => some (t28, t27.2)) k.1 (([] : (List (Str × Str × Int))), z)) fun r => NotOk (cs k) r.1 ∧ r.1.length ≤ 64 := by
  have h8 := h.l2
  refine wp_forO (fun i s => s.1.length ≤ 8 * i ∧ (∀ n ∈ s.1, (n.1 ∈ cs k ∧ n.2.1 ∈ cs k ∧ n.1 ≠ n.2.1 ∧ 1 ≤ n.2.2 ∧ n.2.2 ≤ 99) ∧ ∃ j, j < i ∧ (cs k)[j]? = some n.1) ∧ s.1.Pairwise fun a b => ltP (a.1, a.2.1) (b.1, b.2.1) = true) ⟨Nat.zero_le _, fun n hn => (by cases hn), List.Pairwise.nil⟩ (fun i x s hx ⟨a1, a2, a3⟩ => ?_) fun s ⟨a1, a2, a3⟩ => ⟨⟨fun n hn => (a2 n hn).1, a3⟩, by omega⟩
  have hi := (List.getElem?_eq_some_iff.mp hx).1
  have hxm := List.mem_of_getElem? hx
  refine wp_bind (wp_lcFS (T := fun (b : Str × Int) (y : Str × Str × Int) => y.1 = x.1 ∧ y.2.1 = b.1 ∧ y.1 ≠ y.2.1 ∧ 1 ≤ y.2.2 ∧ y.2.2 ≤ 99) (R := fun a b => sLt a.1 b.1 = true) (Q := fun a b => ltP (a.1, a.2.1) (b.1, b.2.1) = true) (fun b b' y y' hr t t' => ?_) (by omega) (fun b hb z => ?_) (List.pairwise_map.mp h.nm.2)) fun t27 ⟨b1, b2, b3⟩ => ?_
  · rw [t.1, t.2.1, t'.1, t'.2.1]
    exact ltP_snd hr
  · refine wp_cond (fun e => ?_) fun _ => wp_some fun y hy => by cases hy
    refine wp_bind (pull_nat z (by decide) (by decide)) fun t26 ⟨n, en, hn⟩ => wp_some fun y hy => ?_
    cases hy
    refine ⟨rfl, rfl, fun e' => ?_, ?_, ?_⟩
    · have e' : x.1 = b.1 := e'
      rw [e', decide_eq_true rfl] at e
      cases e
    · show (1 : Int) ≤ 1 + t26.1
      omega
    · show (1 : Int) + t26.1 ≤ 99
      omega
  · refine wp_bind (wp_catO (P := fun t => t = s.1 ++ t27.1) (by omega) rfl) fun t28 e28 => wp_some ?_
    subst e28
    have hxc : (cs k)[i]? = some x.1 := by unfold cs; rw [List.getElem?_map, hx]; rfl
    refine ⟨by show (s.1 ++ t27.1).length ≤ _; rw [List.length_append]; omega, fun n hn => ?_, List.pairwise_append.mpr ⟨a3, b3, fun a ha b hb => ?_⟩⟩
    · rcases List.mem_append.mp hn with hn | hn
      · obtain ⟨c1, j, hj, c2⟩ := a2 n hn
        exact ⟨c1, j, by omega, c2⟩
      · obtain ⟨b, hb, t1, t2, t3, t4, t5⟩ := b2 n hn
        refine ⟨⟨?_, ?_, t3, t4, t5⟩, i, by omega, ?_⟩
        · rw [t1]; exact List.mem_map.mpr ⟨x, hxm, rfl⟩
        · rw [t2]; exact List.mem_map.mpr ⟨b, hb, rfl⟩
        · rw [t1]; exact hxc
    · obtain ⟨_, j, hj, c2⟩ := a2 a ha
      obtain ⟨_, _, t1, _⟩ := b2 b hb
      refine ltP_fst ?_
      rw [t1]
      exact pw_at h.nm.2 hj c2 hxc
theorem Kit.with (h : Kit k) {ns : List (Str × Str × Int)} (h1 : NotOk (cs k) ns) (h2 : ns.length ≤ 64) : Kit (k.1, ns) := ⟨h.l1, h.l2, h.nm, h.sz, h1, h2⟩
theorem NotOk.take {c : List Str} {ns : List (Str × Str × Int)} (h : NotOk c ns) (n : Nat) : NotOk c (ns.take n) := ⟨fun x hx => h.1 x (List.mem_of_mem_take hx), h.2.sublist (List.take_sublist _ _)⟩
theorem right_spec (z : Sto) : Wp (m__law_right () z) fun r => r.1 = true := by
  unfold m__law_right
  refine wp_bind (kit_spec z (by decide) (by decide) (by decide) (by decide)) fun t1 ⟨h, _⟩ => ?_
  generalize t1.1 = k at *
  refine wp_bind (pull_nat _ (by decide) (by decide)) fun t6 _ => ?_
  refine wp_bind (P := fun j : List (Str × Str × Int) × Sto => NotOk (cs k) j.1 ∧ j.1.length ≤ 64) (wp_cond (fun _ => ?_) fun _ => wp_some ⟨h.nt, h.nl⟩) fun j ⟨j1, j2⟩ => ?_
  · exact wp_bind (all_teeth h _) fun fin9 hf => wp_some hf
  refine wp_bind (P := fun r : Unit ⊕ (Bool × Sto) => r = .inl ()) (wp_forR (fun _ => True) trivial (fun x hx s _ => ?_) fun s _ => rfl) fun fin e => ?_
  · have hk : Kit (k.1, x) := by
      simp only [List.mem_cons, List.not_mem_nil, or_false] at hx
      rcases hx with rfl | rfl | rfl
      · exact h.with j1 j2
      · exact h.with ⟨fun n hn => (by cases hn), List.Pairwise.nil⟩ (by simp)
      · rw [show cut j.1 none (some (1 : Int)) = j.1.take 1 from cut_to j.1 1]
        exact h.with (j1.take 1) (by rw [List.length_take]; omega)
    have i1 : m_Peal___init__ (k.1, x) = some (pl (k.1, x)) := init_spec hk
    have i2 : m__law_text (k.1, x) = some (textOf (k.1, x)) := law_text_spec hk
    have i3 : m_Peal___eq__ (pl (k.1, x), pl (k.1, x)) = some true := by
      unfold m_Peal___eq__
      rw [decide_eq_true rfl]
      rfl
    rw [i1, Option.bind_some, i2, Option.bind_some, str_spec hk, Option.bind_some, decide_eq_true rfl, Bool.not_true, cond_false, read_right_spec hk, Option.bind_some, Bool.not_true, cond_false, read_right_spec hk, Option.bind_some, Bool.not_true, Option.bind_some, Option.bind_some, cond_false, read_spec hk, Option.bind_some, i3, Option.bind_some, Bool.not_true, cond_false, Option.bind_some, str_spec hk, Option.bind_some, read_spec hk, Option.bind_some, i3, Option.bind_some, Bool.not_true, Option.bind_some, cond_false]
    exact wp_some ⟨(), rfl, trivial⟩
  · subst e
    exact wp_some rfl
end
end K05
end
section
set_option maxHeartbeats 2000000
namespace K05
open PySem L2 Kx Mx
theorem law_true (ns : List Int) (h : ns.length ≤ 63) : m_law ns = some true := by
  have W : Wp (m_law ns) fun b => b = true := by
    unfold m_law
    generalize hn : (if (if (6 : Int) < (ns.length : Int) then (6 : Int) else (ns.length : Int)) > (2 : Int) then (if (6 : Int) < (ns.length : Int) then (6 : Int) else (ns.length : Int)) else (2 : Int)) = n
    have b : 0 ≤ n ∧ n ≤ 63 := by
      rw [← hn]
      split <;> split <;> omega
    obtain ⟨k, rfl⟩ : ∃ k : Nat, n = (k : Int) := ⟨n.toNat, by omega⟩
    refine wp_bind (wp_rngN (P := fun t => t = irange 0 (k : Int)) (by omega) rfl) fun t1 e1 => ?_
    subst e1
    refine wp_bind (P := fun t : List Bool => t.all id = true) (wp_lcO (fun _ y => y = true) (by rw [irange_nat_len]; omega) (fun x hx => ?_) ?_) fun t10 h => wp_some h
    · obtain ⟨j, hj, rfl⟩ := irange_mem hx
      exact wp_bind (opened_spec ns j) fun t8 _ => wp_bind (right_spec t8) fun t9 h => wp_some h
    · intro ys hl h
      rw [List.all_eq_true]
      intro y hy
      obtain ⟨i, hi⟩ := List.mem_iff_getElem?.mp hy
      have hil := (List.getElem?_eq_some_iff.mp hi).1
      have := h i _ y (List.getElem?_eq_getElem (by omega)) hi
      rw [this]; rfl
  obtain ⟨r, hr, e⟩ := W
  rw [hr, e]
end K05
end
section
set_option maxHeartbeats 4000000
namespace K05
open PySem L2 Kx
theorem kwv_read_peal_text {zs : List V} {ws : List Value} (h : Vals zs ws) : Vals (kw_read_peal_text zs) (kw_read_peal_text ws) := by
  cases h with
  | nil => exact .nil
  | cons a0 h =>
    cases h with
    | nil => exact (.cons a0 .nil)
    | cons _ _ => exact .nil
theorem law_end [Tb] {K : PySem.W.Frag} {H : Hp} {a : Addr} {ns : List Int} (hl : ns.length ≤ 63) (hT : ∀ p ∈ Tb.t, H p.1 = some (.tbl #[])) (hS : SqL K H a (ns.map V.int)) : sp_law K [.ref a] H (fun v _ => v = .bl true) fun _ _ _ => False :=
  let ⟨G, ok, hG⟩ := start_ok hT hS
  ⟨G, fun _ => none, ns, true, ok, ⟨.ref a, [], rfl, ⟨a, rfl, hG⟩, rfl⟩, law_true ns hl, fun v G' H' _ _ hv => by (cases hv; rfl)⟩
theorem all_mk {l : PySem.W.OpenLaw} {w : World} {K : PySem.W.Frag} {h : Heap} {mg : Str → Option Value} {fa : Addr} (X : K.In h) (G : h.Ns mainGlobals mg) (hfa : mg "law" = some (.ref fa))
    {c_Peal : Addr}
    {c_NoPeal : Addr}
    {c_NoBells : Addr}
    {c_NoNotches : Addr}
    {c_NoText : Addr}
    {c_NoStanding : Addr}
    {c_NoRow : Addr}
    {c_NoDials : Addr}
    {c_NoRings : Addr}
    {c_NoCourse : Addr}
    {c_NoNumber : Addr}
    {c_NoModuli : Addr}
    {c_NoVectors : Addr}
    {c_NoVector : Addr}
    {c_NoWeights : Addr}
    {c_NoTruth : Addr}
    {c_NoHistories : Addr}
    {c_NoDeed : Addr}
    {c_NoLog : Addr}
    {c_NoSay : Addr}
    {c_NoName : Addr}
    {c_NoPlace : Addr}
    {c_NoBack : Addr}
    {c_TooMany : Addr}
    {c_BellError : Addr}
    {c_LostError : Addr}
    {c_GreatError : Addr}
    {nmx0 qx0 : Str} {Nx0 : Addr} {bsx0 : List Value} {snx0 : List Str} {subx0 : List Value} {abx0 : Bool} {colx0 : Option Bool} {ddx0 : Option Addr} {mx00 mx10 mx20 mx30 mx50 : Option Value}
    {f0 : Addr} {od0 an0 : Option Addr} {sl0 : Array (Option Value)} {oc0 kV0 dc0 pm0 cd0 ct0 : Value}
    {f1 : Addr} {od1 an1 : Option Addr} {sl1 : Array (Option Value)} {oc1 kV1 dc1 pm1 cd1 ct1 : Value}
    {f2 : Addr} {od2 an2 : Option Addr} {sl2 : Array (Option Value)} {oc2 kV2 dc2 pm2 cd2 ct2 : Value}
    {f3 : Addr} {od3 an3 : Option Addr} {sl3 : Array (Option Value)} {oc3 kV3 dc3 pm3 cd3 ct3 : Value}
    {f4 : Addr} {od4 an4 : Option Addr} {sl4 : Array (Option Value)} {oc4 kV4 dc4 pm4 cd4 ct4 : Value}
    {f5 : Addr} {od5 an5 : Option Addr} {sl5 : Array (Option Value)} {oc5 kV5 dc5 pm5 cd5 ct5 : Value}
    {f6 : Addr} {od6 an6 : Option Addr} {sl6 : Array (Option Value)} {oc6 kV6 dc6 pm6 cd6 ct6 : Value}
    {f7 : Addr} {od7 an7 : Option Addr} {sl7 : Array (Option Value)} {oc7 kV7 dc7 pm7 cd7 ct7 : Value}
    {f8 : Addr} {od8 an8 : Option Addr} {sl8 : Array (Option Value)} {oc8 kV8 dc8 pm8 cd8 ct8 : Value}
    {tt9 te9 : Addr} {dt9 : Option Addr} {st9 : Array (Option Value)} {cc9 : Value} {nt9 : Nat}
    {f9 : Addr} {od9 an9 : Option Addr} {sl9 : Array (Option Value)} {oc9 kV9 dc9 pm9 cd9 ct9 : Value}
    {f10 : Addr} {od10 an10 : Option Addr} {sl10 : Array (Option Value)} {oc10 kV10 dc10 pm10 cd10 ct10 : Value}
    {f11 : Addr} {od11 an11 : Option Addr} {sl11 : Array (Option Value)} {oc11 kV11 dc11 pm11 cd11 ct11 : Value}
    {f12 : Addr} {od12 an12 : Option Addr} {sl12 : Array (Option Value)} {oc12 kV12 dc12 pm12 cd12 ct12 : Value}
    {f13 : Addr} {od13 an13 : Option Addr} {sl13 : Array (Option Value)} {oc13 kV13 dc13 pm13 cd13 ct13 : Value}
    {f14 : Addr} {od14 an14 : Option Addr} {sl14 : Array (Option Value)} {oc14 kV14 dc14 pm14 cd14 ct14 : Value}
    {f15 : Addr} {od15 an15 : Option Addr} {sl15 : Array (Option Value)} {oc15 kV15 dc15 pm15 cd15 ct15 : Value}
    {f16 : Addr} {od16 an16 : Option Addr} {sl16 : Array (Option Value)} {oc16 kV16 dc16 pm16 cd16 ct16 : Value}
    {f17 : Addr} {od17 an17 : Option Addr} {sl17 : Array (Option Value)} {oc17 kV17 dc17 pm17 cd17 ct17 : Value}
    {f18 : Addr} {od18 an18 : Option Addr} {sl18 : Array (Option Value)} {oc18 kV18 dc18 pm18 cd18 ct18 : Value}
    {f19 : Addr} {od19 an19 : Option Addr} {sl19 : Array (Option Value)} {oc19 kV19 dc19 pm19 cd19 ct19 : Value}
    {f20 : Addr} {od20 an20 : Option Addr} {sl20 : Array (Option Value)} {oc20 kV20 dc20 pm20 cd20 ct20 : Value}
    {f21 : Addr} {od21 an21 : Option Addr} {sl21 : Array (Option Value)} {oc21 kV21 dc21 pm21 cd21 ct21 : Value}
    {f22 : Addr} {od22 an22 : Option Addr} {sl22 : Array (Option Value)} {oc22 kV22 dc22 pm22 cd22 ct22 : Value}
    {f23 : Addr} {od23 an23 : Option Addr} {sl23 : Array (Option Value)} {oc23 kV23 dc23 pm23 cd23 ct23 : Value}
    {f24 : Addr} {od24 an24 : Option Addr} {sl24 : Array (Option Value)} {oc24 kV24 dc24 pm24 cd24 ct24 : Value}
    {f25 : Addr} {od25 an25 : Option Addr} {sl25 : Array (Option Value)} {oc25 kV25 dc25 pm25 cd25 ct25 : Value}
    {f26 : Addr} {od26 an26 : Option Addr} {sl26 : Array (Option Value)} {oc26 kV26 dc26 pm26 cd26 ct26 : Value}
    {f27 : Addr} {od27 an27 : Option Addr} {sl27 : Array (Option Value)} {oc27 kV27 dc27 pm27 cd27 ct27 : Value}
    {f28 : Addr} {od28 an28 : Option Addr} {sl28 : Array (Option Value)} {oc28 kV28 dc28 pm28 cd28 ct28 : Value}
    {f29 : Addr} {od29 an29 : Option Addr} {sl29 : Array (Option Value)} {oc29 kV29 dc29 pm29 cd29 ct29 : Value}
    {f30 : Addr} {od30 an30 : Option Addr} {sl30 : Array (Option Value)} {oc30 kV30 dc30 pm30 cd30 ct30 : Value}
    {tk0 : Tok}
    {tk1 : Tok}
    {tk2 : Tok}
    {tk3 : Tok}
    {tk4 : Tok}
    {tk5 : Tok}
    {tk6 : Tok}
    (gc_Peal : PySem.W.nsIn K mainGlobals "Peal" = some (some (.ref c_Peal)))
    (p1_Peal : PySem.W.plainGet K c_Peal Str.empty = true) (p2_Peal : PySem.W.hasDictIn K c_Peal = true) (p3_Peal : PySem.W.plainOver K c_Peal = true) (p4_Peal : PySem.W.findIn K (.ref c_Peal) "__setattr__" = some (some (.builtin "object.__setattr__"))) (p5_Peal : PySem.W.makesIn K c_Peal = true) (p6_Peal : PySem.W.keepIn K (.ref c_Peal) = true)
    (p7_Peal : PySem.W.findIn K (.ref c_Peal) "__class__" = some (some (.builtin "object.__class__"))) (p8_Peal : PySem.W.specialIn K (.builtin "object.__class__") "__get__" = some (some (.builtin "getset_descriptor.__get__"))) (p9_Peal : PySem.W.takesIn K (.builtin "object.__class__") = some true) (pa_Peal : PySem.W.mroIn K c_Peal (.type "object") = some true)
    (pn_Peal : PySem.W.findIn K (.ref c_Peal) "__ne__" = some (some (.builtin "object.__ne__")))
    (no1_Peal : PySem.W.mroIn K c_Peal (.type "tuple") = some false)
    (no2_Peal : PySem.W.mroIn K c_Peal (.type "int") = some false)
    (no3_Peal : PySem.W.mroIn K c_Peal (.type "bool") = some false)
    (no4_Peal : PySem.W.mroIn K c_Peal (.type "str") = some false)
    (no5_Peal : PySem.W.mroIn K c_Peal (.type "list") = some false)
    (n_Peal_bells : PySem.W.findIn K (.ref c_Peal) "bells" = some none)
    (n_Peal_notches : PySem.W.findIn K (.ref c_Peal) "notches" = some none)
    (n_Peal_sizes : PySem.W.findIn K (.ref c_Peal) "sizes" = some none)
    (n_Peal_turning : PySem.W.findIn K (.ref c_Peal) "turning" = some none)
    (gc_NoPeal : PySem.W.nsIn K mainGlobals "NoPeal" = some (some (.ref c_NoPeal)))
    (gc_NoBells : PySem.W.nsIn K mainGlobals "NoBells" = some (some (.ref c_NoBells)))
    (gc_NoNotches : PySem.W.nsIn K mainGlobals "NoNotches" = some (some (.ref c_NoNotches)))
    (gc_NoText : PySem.W.nsIn K mainGlobals "NoText" = some (some (.ref c_NoText)))
    (gc_NoStanding : PySem.W.nsIn K mainGlobals "NoStanding" = some (some (.ref c_NoStanding)))
    (gc_NoRow : PySem.W.nsIn K mainGlobals "NoRow" = some (some (.ref c_NoRow)))
    (gc_NoDials : PySem.W.nsIn K mainGlobals "NoDials" = some (some (.ref c_NoDials)))
    (gc_NoRings : PySem.W.nsIn K mainGlobals "NoRings" = some (some (.ref c_NoRings)))
    (gc_NoCourse : PySem.W.nsIn K mainGlobals "NoCourse" = some (some (.ref c_NoCourse)))
    (gc_NoNumber : PySem.W.nsIn K mainGlobals "NoNumber" = some (some (.ref c_NoNumber)))
    (gc_NoModuli : PySem.W.nsIn K mainGlobals "NoModuli" = some (some (.ref c_NoModuli)))
    (gc_NoVectors : PySem.W.nsIn K mainGlobals "NoVectors" = some (some (.ref c_NoVectors)))
    (gc_NoVector : PySem.W.nsIn K mainGlobals "NoVector" = some (some (.ref c_NoVector)))
    (gc_NoWeights : PySem.W.nsIn K mainGlobals "NoWeights" = some (some (.ref c_NoWeights)))
    (gc_NoTruth : PySem.W.nsIn K mainGlobals "NoTruth" = some (some (.ref c_NoTruth)))
    (gc_NoHistories : PySem.W.nsIn K mainGlobals "NoHistories" = some (some (.ref c_NoHistories)))
    (gc_NoDeed : PySem.W.nsIn K mainGlobals "NoDeed" = some (some (.ref c_NoDeed)))
    (gc_NoLog : PySem.W.nsIn K mainGlobals "NoLog" = some (some (.ref c_NoLog)))
    (gc_NoSay : PySem.W.nsIn K mainGlobals "NoSay" = some (some (.ref c_NoSay)))
    (gc_NoName : PySem.W.nsIn K mainGlobals "NoName" = some (some (.ref c_NoName)))
    (gc_NoPlace : PySem.W.nsIn K mainGlobals "NoPlace" = some (some (.ref c_NoPlace)))
    (gc_NoBack : PySem.W.nsIn K mainGlobals "NoBack" = some (some (.ref c_NoBack)))
    (gc_TooMany : PySem.W.nsIn K mainGlobals "TooMany" = some (some (.ref c_TooMany)))
    (gc_BellError : PySem.W.nsIn K mainGlobals "BellError" = some (some (.ref c_BellError)))
    (gc_LostError : PySem.W.nsIn K mainGlobals "LostError" = some (some (.ref c_LostError)))
    (gc_GreatError : PySem.W.nsIn K mainGlobals "GreatError" = some (some (.ref c_GreatError)))
    (sB_BellError : PySem.W.subIn K (.ref c_BellError) (.type "BaseException") = some true)
    (hD_BellError : PySem.W.hasDictIn K c_BellError = true)
    (tY_BellError : PySem.W.typeIn K (.ref c_BellError) = some (.type "type"))
    (sU_NoText_BellError : PySem.W.subIn K (.ref c_NoText) (.ref c_BellError) = some true)
    (gA_NoText : PySem.W.findIn K (.ref c_NoText) "__getattribute__" = some (some (.builtin "BaseException.__getattribute__")))
    (gG_NoText : PySem.W.findIn K (.ref c_NoText) "__getattr__" = some none)
    (sB_NoText : PySem.W.subIn K (.ref c_NoText) (.type "BaseException") = some true)
    (hD_NoText : PySem.W.hasDictIn K c_NoText = true)
    (cC_NoText : PySem.W.findIn K (.ref c_NoText) "__class__" = some (some (.builtin "object.__class__")))
    (cN : PySem.W.specialIn K (.builtin "object.__class__") "__get__" = some (some (.builtin "getset_descriptor.__get__")))
    (cT : PySem.W.takesIn K (.builtin "object.__class__") = some true)
    (cM_NoText : PySem.W.mroIn K c_NoText (.type "object") = some true)
    (iC_NoPeal : PySem.W.isClsIn K c_NoPeal = true)
    (tY_NoPeal : PySem.W.typeIn K (.ref c_NoPeal) = some (.type "type"))
    (sU_NoText_NoText : PySem.W.subIn K (.ref c_NoText) (.ref c_NoText) = some true)
    (sU_NoText_NoPeal : PySem.W.subIn K (.ref c_NoText) (.ref c_NoPeal) = some false)
    (iC_NoBells : PySem.W.isClsIn K c_NoBells = true)
    (tY_NoBells : PySem.W.typeIn K (.ref c_NoBells) = some (.type "type"))
    (sU_NoText_NoBells : PySem.W.subIn K (.ref c_NoText) (.ref c_NoBells) = some false)
    (iC_NoNotches : PySem.W.isClsIn K c_NoNotches = true)
    (tY_NoNotches : PySem.W.typeIn K (.ref c_NoNotches) = some (.type "type"))
    (sU_NoText_NoNotches : PySem.W.subIn K (.ref c_NoText) (.ref c_NoNotches) = some false)
    (iC_NoStanding : PySem.W.isClsIn K c_NoStanding = true)
    (tY_NoStanding : PySem.W.typeIn K (.ref c_NoStanding) = some (.type "type"))
    (sU_NoText_NoStanding : PySem.W.subIn K (.ref c_NoText) (.ref c_NoStanding) = some false)
    (iC_NoRow : PySem.W.isClsIn K c_NoRow = true)
    (tY_NoRow : PySem.W.typeIn K (.ref c_NoRow) = some (.type "type"))
    (sU_NoText_NoRow : PySem.W.subIn K (.ref c_NoText) (.ref c_NoRow) = some false)
    (iC_NoDials : PySem.W.isClsIn K c_NoDials = true)
    (tY_NoDials : PySem.W.typeIn K (.ref c_NoDials) = some (.type "type"))
    (sU_NoText_NoDials : PySem.W.subIn K (.ref c_NoText) (.ref c_NoDials) = some false)
    (iC_NoRings : PySem.W.isClsIn K c_NoRings = true)
    (tY_NoRings : PySem.W.typeIn K (.ref c_NoRings) = some (.type "type"))
    (sU_NoText_NoRings : PySem.W.subIn K (.ref c_NoText) (.ref c_NoRings) = some false)
    (iC_NoCourse : PySem.W.isClsIn K c_NoCourse = true)
    (tY_NoCourse : PySem.W.typeIn K (.ref c_NoCourse) = some (.type "type"))
    (sU_NoText_NoCourse : PySem.W.subIn K (.ref c_NoText) (.ref c_NoCourse) = some false)
    (iC_NoNumber : PySem.W.isClsIn K c_NoNumber = true)
    (tY_NoNumber : PySem.W.typeIn K (.ref c_NoNumber) = some (.type "type"))
    (sU_NoText_NoNumber : PySem.W.subIn K (.ref c_NoText) (.ref c_NoNumber) = some false)
    (iC_NoModuli : PySem.W.isClsIn K c_NoModuli = true)
    (tY_NoModuli : PySem.W.typeIn K (.ref c_NoModuli) = some (.type "type"))
    (sU_NoText_NoModuli : PySem.W.subIn K (.ref c_NoText) (.ref c_NoModuli) = some false)
    (iC_NoVectors : PySem.W.isClsIn K c_NoVectors = true)
    (tY_NoVectors : PySem.W.typeIn K (.ref c_NoVectors) = some (.type "type"))
    (sU_NoText_NoVectors : PySem.W.subIn K (.ref c_NoText) (.ref c_NoVectors) = some false)
    (iC_NoVector : PySem.W.isClsIn K c_NoVector = true)
    (tY_NoVector : PySem.W.typeIn K (.ref c_NoVector) = some (.type "type"))
    (sU_NoText_NoVector : PySem.W.subIn K (.ref c_NoText) (.ref c_NoVector) = some false)
    (iC_NoWeights : PySem.W.isClsIn K c_NoWeights = true)
    (tY_NoWeights : PySem.W.typeIn K (.ref c_NoWeights) = some (.type "type"))
    (sU_NoText_NoWeights : PySem.W.subIn K (.ref c_NoText) (.ref c_NoWeights) = some false)
    (iC_NoTruth : PySem.W.isClsIn K c_NoTruth = true)
    (tY_NoTruth : PySem.W.typeIn K (.ref c_NoTruth) = some (.type "type"))
    (sU_NoText_NoTruth : PySem.W.subIn K (.ref c_NoText) (.ref c_NoTruth) = some false)
    (iC_NoHistories : PySem.W.isClsIn K c_NoHistories = true)
    (tY_NoHistories : PySem.W.typeIn K (.ref c_NoHistories) = some (.type "type"))
    (sU_NoText_NoHistories : PySem.W.subIn K (.ref c_NoText) (.ref c_NoHistories) = some false)
    (iC_NoDeed : PySem.W.isClsIn K c_NoDeed = true)
    (tY_NoDeed : PySem.W.typeIn K (.ref c_NoDeed) = some (.type "type"))
    (sU_NoText_NoDeed : PySem.W.subIn K (.ref c_NoText) (.ref c_NoDeed) = some false)
    (iC_NoLog : PySem.W.isClsIn K c_NoLog = true)
    (tY_NoLog : PySem.W.typeIn K (.ref c_NoLog) = some (.type "type"))
    (sU_NoText_NoLog : PySem.W.subIn K (.ref c_NoText) (.ref c_NoLog) = some false)
    (iC_NoSay : PySem.W.isClsIn K c_NoSay = true)
    (tY_NoSay : PySem.W.typeIn K (.ref c_NoSay) = some (.type "type"))
    (sU_NoText_NoSay : PySem.W.subIn K (.ref c_NoText) (.ref c_NoSay) = some false)
    (iC_NoName : PySem.W.isClsIn K c_NoName = true)
    (tY_NoName : PySem.W.typeIn K (.ref c_NoName) = some (.type "type"))
    (sU_NoText_NoName : PySem.W.subIn K (.ref c_NoText) (.ref c_NoName) = some false)
    (iC_NoPlace : PySem.W.isClsIn K c_NoPlace = true)
    (tY_NoPlace : PySem.W.typeIn K (.ref c_NoPlace) = some (.type "type"))
    (sU_NoText_NoPlace : PySem.W.subIn K (.ref c_NoText) (.ref c_NoPlace) = some false)
    (iC_NoBack : PySem.W.isClsIn K c_NoBack = true)
    (tY_NoBack : PySem.W.typeIn K (.ref c_NoBack) = some (.type "type"))
    (sU_NoText_NoBack : PySem.W.subIn K (.ref c_NoText) (.ref c_NoBack) = some false)
    (iC_TooMany : PySem.W.isClsIn K c_TooMany = true)
    (tY_TooMany : PySem.W.typeIn K (.ref c_TooMany) = some (.type "type"))
    (sU_NoText_TooMany : PySem.W.subIn K (.ref c_NoText) (.ref c_TooMany) = some false)
    (iC_BellError : PySem.W.isClsIn K c_BellError = true)
    (iC_LostError : PySem.W.isClsIn K c_LostError = true)
    (tY_LostError : PySem.W.typeIn K (.ref c_LostError) = some (.type "type"))
    (sU_NoText_LostError : PySem.W.subIn K (.ref c_NoText) (.ref c_LostError) = some false)
    (iC_GreatError : PySem.W.isClsIn K c_GreatError = true)
    (tY_GreatError : PySem.W.typeIn K (.ref c_GreatError) = some (.type "type"))
    (sU_NoText_GreatError : PySem.W.subIn K (.ref c_NoText) (.ref c_GreatError) = some false)
    (sU_NoText_ValueError : PySem.W.subIn K (.ref c_NoText) (.type "ValueError") = some true)
    (sU_NoText_LookupError : PySem.W.subIn K (.ref c_NoText) (.type "LookupError") = some false)
    (sU_NoText_ArithmeticError : PySem.W.subIn K (.ref c_NoText) (.type "ArithmeticError") = some false)
    (nF_NoText : PySem.W.findIn K (.ref c_NoText) "row" = some none)
    (xL_NoText : K.lookup c_NoText = some (excClassObj nmx0 qx0 c_NoText Nx0 bsx0 [.ref c_BellError, .type "ValueError", .type "Exception", .type "BaseException", .type "object"] true snx0 subx0 abx0 colx0 ddx0 mx00 mx10 mx20 mx30 mx50 "ValueError.__new__"))
    (sA_NoText : PySem.W.findIn K (.ref c_NoText) "__setattr__" = some (some (.builtin "object.__setattr__")))
    (tY_NoText : PySem.W.typeIn K (.ref c_NoText) = some (.type "type"))
    (kP_NoText : PySem.W.keepIn K (.ref c_NoText) = true)
    (bS_BellError : PySem.W.specialIn K (.ref c_BellError) "__getattribute__" = some (some (.builtin "type.__getattribute__")))
    (bR_BellError : PySem.W.readsIn K c_BellError (.type "type") = true)
    (bF_BellError : PySem.W.findCls K (.ref c_BellError) (.type "type") "__init__" = some (.val (.builtin "ValueError.__init__")))
    (a0 : PySem.W.findIn K (.ref c_NoText) "__init__" = some (some (.ref f0))) (t0 : PySem.W.typeIn K (.ref f0) = some (.type "function")) (l0 : K.lookup f0 = some ⟨oc0, od0, .func (PySem.W.fnOf "__init__" "NoText.__init__" (defArgs s_NoText___init__) (defBody s_NoText___init__) (defScope s_NoText___init__) .none kV0 dc0 pm0 an0 cd0 ct0), sl0⟩) (c0 : PySem.W.codeIn K cd0 "NoText.__init__" = true) (k0 : PySem.W.keepIn K (.ref f0) = true)
    (a1 : PySem.W.nsIn K mainGlobals "is_whole" = some (some (.ref f1))) (l1 : K.lookup f1 = some ⟨oc1, od1, .func (PySem.W.fnOf "is_whole" "is_whole" (defArgs s_is_whole) (defBody s_is_whole) (defScope s_is_whole) .none kV1 dc1 pm1 an1 cd1 ct1), sl1⟩) (c1 : PySem.W.codeIn K cd1 "is_whole" = true) (k1 : PySem.W.keepIn K (.ref f1) = true)
    (a2 : PySem.W.nsIn K mainGlobals "is_within" = some (some (.ref f2))) (l2 : K.lookup f2 = some ⟨oc2, od2, .func (PySem.W.fnOf "is_within" "is_within" (defArgs s_is_within) (defBody s_is_within) (defScope s_is_within) .none kV2 dc2 pm2 an2 cd2 ct2), sl2⟩) (c2 : PySem.W.codeIn K cd2 "is_within" = true) (k2 : PySem.W.keepIn K (.ref f2) = true)
    (a3 : PySem.W.nsIn K mainGlobals "is_name" = some (some (.ref f3))) (l3 : K.lookup f3 = some ⟨oc3, od3, .func (PySem.W.fnOf "is_name" "is_name" (defArgs s_is_name) (defBody s_is_name) (defScope s_is_name) .none kV3 dc3 pm3 an3 cd3 ct3), sl3⟩) (c3 : PySem.W.codeIn K cd3 "is_name" = true) (k3 : PySem.W.keepIn K (.ref f3) = true)
    (a4 : PySem.W.nsIn K mainGlobals "is_figures" = some (some (.ref f4))) (l4 : K.lookup f4 = some ⟨oc4, od4, .func (PySem.W.fnOf "is_figures" "is_figures" (defArgs s_is_figures) (defBody s_is_figures) (defScope s_is_figures) .none kV4 dc4 pm4 an4 cd4 ct4), sl4⟩) (c4 : PySem.W.codeIn K cd4 "is_figures" = true) (k4 : PySem.W.keepIn K (.ref f4) = true)
    (a5 : PySem.W.nsIn K mainGlobals "is_bell" = some (some (.ref f5))) (l5 : K.lookup f5 = some ⟨oc5, od5, .func (PySem.W.fnOf "is_bell" "is_bell" (defArgs s_is_bell) (defBody s_is_bell) (defScope s_is_bell) .none kV5 dc5 pm5 an5 cd5 ct5), sl5⟩) (c5 : PySem.W.codeIn K cd5 "is_bell" = true) (k5 : PySem.W.keepIn K (.ref f5) = true)
    (a6 : PySem.W.nsIn K mainGlobals "check_bells" = some (some (.ref f6))) (l6 : K.lookup f6 = some ⟨oc6, od6, .func (PySem.W.fnOf "check_bells" "check_bells" (defArgs s_check_bells) (defBody s_check_bells) (defScope s_check_bells) .none kV6 dc6 pm6 an6 cd6 ct6), sl6⟩) (c6 : PySem.W.codeIn K cd6 "check_bells" = true) (k6 : PySem.W.keepIn K (.ref f6) = true)
    (a7 : PySem.W.nsIn K mainGlobals "is_notch" = some (some (.ref f7))) (l7 : K.lookup f7 = some ⟨oc7, od7, .func (PySem.W.fnOf "is_notch" "is_notch" (defArgs s_is_notch) (defBody s_is_notch) (defScope s_is_notch) .none kV7 dc7 pm7 an7 cd7 ct7), sl7⟩) (c7 : PySem.W.codeIn K cd7 "is_notch" = true) (k7 : PySem.W.keepIn K (.ref f7) = true)
    (a8 : PySem.W.nsIn K mainGlobals "check_notches" = some (some (.ref f8))) (l8 : K.lookup f8 = some ⟨oc8, od8, .func (PySem.W.fnOf "check_notches" "check_notches" (defArgs s_check_notches) (defBody s_check_notches) (defScope s_check_notches) .none kV8 dc8 pm8 an8 cd8 ct8), sl8⟩) (c8 : PySem.W.codeIn K cd8 "check_notches" = true) (k8 : PySem.W.keepIn K (.ref f8) = true)
    (a9 : PySem.W.findIn K (.ref c_Peal) "__init__" = some (some (.ref f9))) (i9 : PySem.W.isFn K (.ref f9) = true) (l9 : K.lookup f9 = some ⟨oc9, od9, .func (PySem.W.fnOf "__init__" "Peal.__init__" (defArgs s_Peal___init__) (defBody s_Peal___init__) (defScope s_Peal___init__) (.ref tt9) kV9 dc9 pm9 an9 cd9 ct9), sl9⟩) (c9 : PySem.W.codeIn K cd9 "Peal.__init__" = true) (k9 : PySem.W.keepIn K (.ref f9) = true)
    (t9 : K.lookup tt9 = some ⟨cc9, dt9, .seq #[.ref te9] nt9, st9⟩)
    (a10 : PySem.W.findIn K (.ref c_Peal) "__eq__" = some (some (.ref f10))) (i10 : PySem.W.isFn K (.ref f10) = true) (l10 : K.lookup f10 = some ⟨oc10, od10, .func (PySem.W.fnOf "__eq__" "Peal.__eq__" (defArgs s_Peal___eq__) (defBody s_Peal___eq__) (defScope s_Peal___eq__) .none kV10 dc10 pm10 an10 cd10 ct10), sl10⟩) (c10 : PySem.W.codeIn K cd10 "Peal.__eq__" = true) (k10 : PySem.W.keepIn K (.ref f10) = true)
    (a11 : PySem.W.findIn K (.ref c_Peal) "__str__" = some (some (.ref f11))) (i11 : PySem.W.isFn K (.ref f11) = true) (l11 : K.lookup f11 = some ⟨oc11, od11, .func (PySem.W.fnOf "__str__" "Peal.__str__" (defArgs s_Peal___str__) (defBody s_Peal___str__) (defScope s_Peal___str__) .none kV11 dc11 pm11 an11 cd11 ct11), sl11⟩) (c11 : PySem.W.codeIn K cd11 "Peal.__str__" = true) (k11 : PySem.W.keepIn K (.ref f11) = true)
    (a12 : PySem.W.findIn K (.ref c_Peal) "__repr__" = some (some (.ref f12))) (i12 : PySem.W.isFn K (.ref f12) = true) (l12 : K.lookup f12 = some ⟨oc12, od12, .func (PySem.W.fnOf "__repr__" "Peal.__repr__" (defArgs s_Peal___repr__) (defBody s_Peal___repr__) (defScope s_Peal___repr__) .none kV12 dc12 pm12 an12 cd12 ct12), sl12⟩) (c12 : PySem.W.codeIn K cd12 "Peal.__repr__" = true) (k12 : PySem.W.keepIn K (.ref f12) = true)
    (a13 : PySem.W.nsIn K mainGlobals "number_of" = some (some (.ref f13))) (l13 : K.lookup f13 = some ⟨oc13, od13, .func (PySem.W.fnOf "number_of" "number_of" (defArgs s_number_of) (defBody s_number_of) (defScope s_number_of) .none kV13 dc13 pm13 an13 cd13 ct13), sl13⟩) (c13 : PySem.W.codeIn K cd13 "number_of" = true) (k13 : PySem.W.keepIn K (.ref f13) = true)
    (a14 : PySem.W.nsIn K mainGlobals "bell_of" = some (some (.ref f14))) (l14 : K.lookup f14 = some ⟨oc14, od14, .func (PySem.W.fnOf "bell_of" "bell_of" (defArgs s_bell_of) (defBody s_bell_of) (defScope s_bell_of) .none kV14 dc14 pm14 an14 cd14 ct14), sl14⟩) (c14 : PySem.W.codeIn K cd14 "bell_of" = true) (k14 : PySem.W.keepIn K (.ref f14) = true)
    (a15 : PySem.W.nsIn K mainGlobals "notch_of" = some (some (.ref f15))) (l15 : K.lookup f15 = some ⟨oc15, od15, .func (PySem.W.fnOf "notch_of" "notch_of" (defArgs s_notch_of) (defBody s_notch_of) (defScope s_notch_of) .none kV15 dc15 pm15 an15 cd15 ct15), sl15⟩) (c15 : PySem.W.codeIn K cd15 "notch_of" = true) (k15 : PySem.W.keepIn K (.ref f15) = true)
    (a16 : PySem.W.nsIn K mainGlobals "read_peal" = some (some (.ref f16))) (l16 : K.lookup f16 = some ⟨oc16, od16, .func (PySem.W.fnOf "read_peal" "read_peal" (defArgs s_read_peal) (defBody s_read_peal) (defScope s_read_peal) .none kV16 dc16 pm16 an16 cd16 ct16), sl16⟩) (c16 : PySem.W.codeIn K cd16 "read_peal" = true) (k16 : PySem.W.keepIn K (.ref f16) = true)
    (a17 : PySem.W.nsIn K mainGlobals "_law_opened" = some (some (.ref f17))) (l17 : K.lookup f17 = some ⟨oc17, od17, .func (PySem.W.fnOf "_law_opened" "_law_opened" (defArgs s__law_opened) (defBody s__law_opened) (defScope s__law_opened) .none kV17 dc17 pm17 an17 cd17 ct17), sl17⟩) (c17 : PySem.W.codeIn K cd17 "_law_opened" = true) (k17 : PySem.W.keepIn K (.ref f17) = true)
    (a18 : PySem.W.nsIn K mainGlobals "_law_pull" = some (some (.ref f18))) (l18 : K.lookup f18 = some ⟨oc18, od18, .func (PySem.W.fnOf "_law_pull" "_law_pull" (defArgs s__law_pull) (defBody s__law_pull) (defScope s__law_pull) .none kV18 dc18 pm18 an18 cd18 ct18), sl18⟩) (c18 : PySem.W.codeIn K cd18 "_law_pull" = true) (k18 : PySem.W.keepIn K (.ref f18) = true)
    (a19 : PySem.W.nsIn K mainGlobals "_law_spelt" = some (some (.ref f19))) (l19 : K.lookup f19 = some ⟨oc19, od19, .func (PySem.W.fnOf "_law_spelt" "_law_spelt" (defArgs s__law_spelt) (defBody s__law_spelt) (defScope s__law_spelt) .none kV19 dc19 pm19 an19 cd19 ct19), sl19⟩) (c19 : PySem.W.codeIn K cd19 "_law_spelt" = true) (k19 : PySem.W.keepIn K (.ref f19) = true)
    (a20 : PySem.W.nsIn K mainGlobals "_law_calls" = some (some (.ref f20))) (l20 : K.lookup f20 = some ⟨oc20, od20, .func (PySem.W.fnOf "_law_calls" "_law_calls" (defArgs s__law_calls) (defBody s__law_calls) (defScope s__law_calls) .none kV20 dc20 pm20 an20 cd20 ct20), sl20⟩) (c20 : PySem.W.codeIn K cd20 "_law_calls" = true) (k20 : PySem.W.keepIn K (.ref f20) = true)
    (a21 : PySem.W.nsIn K mainGlobals "_law_figure" = some (some (.ref f21))) (l21 : K.lookup f21 = some ⟨oc21, od21, .func (PySem.W.fnOf "_law_figure" "_law_figure" (defArgs s__law_figure) (defBody s__law_figure) (defScope s__law_figure) .none kV21 dc21 pm21 an21 cd21 ct21), sl21⟩) (c21 : PySem.W.codeIn K cd21 "_law_figure" = true) (k21 : PySem.W.keepIn K (.ref f21) = true)
    (a22 : PySem.W.nsIn K mainGlobals "_law_kit" = some (some (.ref f22))) (l22 : K.lookup f22 = some ⟨oc22, od22, .func (PySem.W.fnOf "_law_kit" "_law_kit" (defArgs s__law_kit) (defBody s__law_kit) (defScope s__law_kit) .none kV22 dc22 pm22 an22 cd22 ct22), sl22⟩) (c22 : PySem.W.codeIn K cd22 "_law_kit" = true) (k22 : PySem.W.keepIn K (.ref f22) = true)
    (a23 : PySem.W.nsIn K mainGlobals "_law_sort" = some (some (.ref f23))) (l23 : K.lookup f23 = some ⟨oc23, od23, .func (PySem.W.fnOf "_law_sort" "_law_sort" (defArgs s__law_sort) (defBody s__law_sort) (defScope s__law_sort) .none kV23 dc23 pm23 an23 cd23 ct23), sl23⟩) (c23 : PySem.W.codeIn K cd23 "_law_sort" = true) (k23 : PySem.W.keepIn K (.ref f23) = true)
    (a24 : PySem.W.nsIn K mainGlobals "_law_text" = some (some (.ref f24))) (l24 : K.lookup f24 = some ⟨oc24, od24, .func (PySem.W.fnOf "_law_text" "_law_text" (defArgs s__law_text) (defBody s__law_text) (defScope s__law_text) .none kV24 dc24 pm24 an24 cd24 ct24), sl24⟩) (c24 : PySem.W.codeIn K cd24 "_law_text" = true) (k24 : PySem.W.keepIn K (.ref f24) = true)
    (a25 : PySem.W.nsIn K mainGlobals "_law_is_call" = some (some (.ref f25))) (l25 : K.lookup f25 = some ⟨oc25, od25, .func (PySem.W.fnOf "_law_is_call" "_law_is_call" (defArgs s__law_is_call) (defBody s__law_is_call) (defScope s__law_is_call) .none kV25 dc25 pm25 an25 cd25 ct25), sl25⟩) (c25 : PySem.W.codeIn K cd25 "_law_is_call" = true) (k25 : PySem.W.keepIn K (.ref f25) = true)
    (a26 : PySem.W.nsIn K mainGlobals "_law_worth_of" = some (some (.ref f26))) (l26 : K.lookup f26 = some ⟨oc26, od26, .func (PySem.W.fnOf "_law_worth_of" "_law_worth_of" (defArgs s__law_worth_of) (defBody s__law_worth_of) (defScope s__law_worth_of) .none kV26 dc26 pm26 an26 cd26 ct26), sl26⟩) (c26 : PySem.W.codeIn K cd26 "_law_worth_of" = true) (k26 : PySem.W.keepIn K (.ref f26) = true)
    (a27 : PySem.W.nsIn K mainGlobals "_law_read" = some (some (.ref f27))) (l27 : K.lookup f27 = some ⟨oc27, od27, .func (PySem.W.fnOf "_law_read" "_law_read" (defArgs s__law_read) (defBody s__law_read) (defScope s__law_read) .none kV27 dc27 pm27 an27 cd27 ct27), sl27⟩) (c27 : PySem.W.codeIn K cd27 "_law_read" = true) (k27 : PySem.W.keepIn K (.ref f27) = true)
    (a28 : PySem.W.nsIn K mainGlobals "_law_read_right" = some (some (.ref f28))) (l28 : K.lookup f28 = some ⟨oc28, od28, .func (PySem.W.fnOf "_law_read_right" "_law_read_right" (defArgs s__law_read_right) (defBody s__law_read_right) (defScope s__law_read_right) .none kV28 dc28 pm28 an28 cd28 ct28), sl28⟩) (c28 : PySem.W.codeIn K cd28 "_law_read_right" = true) (k28 : PySem.W.keepIn K (.ref f28) = true)
    (a29 : PySem.W.nsIn K mainGlobals "_law_right" = some (some (.ref f29))) (l29 : K.lookup f29 = some ⟨oc29, od29, .func (PySem.W.fnOf "_law_right" "_law_right" (defArgs s__law_right) (defBody s__law_right) (defScope s__law_right) .none kV29 dc29 pm29 an29 cd29 ct29), sl29⟩) (c29 : PySem.W.codeIn K cd29 "_law_right" = true) (k29 : PySem.W.keepIn K (.ref f29) = true)
    (a30 : PySem.W.nsIn K mainGlobals "law" = some (some (.ref f30))) (l30 : K.lookup f30 = some ⟨oc30, od30, .func (PySem.W.fnOf "law" "law" (defArgs s_law) (defBody s_law) (defScope s_law) .none kV30 dc30 pm30 an30 cd30 ct30), sl30⟩) (c30 : PySem.W.codeIn K cd30 "law" = true) (k30 : PySem.W.keepIn K (.ref f30) = true)
    (z0 : PySem.W.nsIn K mainGlobals "int" = some none)
    (z1 : PySem.W.nsIn K mainGlobals "isinstance" = some none)
    (z2 : PySem.W.nsIn K mainGlobals "bool" = some none)
    (z3 : PySem.W.nsIn K mainGlobals "str" = some none)
    (z4 : PySem.W.nsIn K mainGlobals "len" = some none)
    (z5 : PySem.W.nsIn K mainGlobals "all" = some none)
    (z6 : PySem.W.nsIn K mainGlobals "tuple" = some none)
    (z7 : PySem.W.nsIn K mainGlobals "enumerate" = some none)
    (z8 : PySem.W.nsIn K mainGlobals "dict" = some none)
    (z9 : PySem.W.nsIn K mainGlobals "abs" = some none)
    (z10 : PySem.W.nsIn K mainGlobals "divmod" = some none)
    (z11 : PySem.W.nsIn K mainGlobals "range" = some none)
    (z12 : PySem.W.nsIn K mainGlobals "sorted" = some none)
    (z13 : PySem.W.nsIn K mainGlobals "ValueError" = some none)
    (z14 : PySem.W.nsIn K mainGlobals "LookupError" = some none)
    (z15 : PySem.W.nsIn K mainGlobals "ArithmeticError" = some none)
    (z16 : PySem.W.nsIn K mainGlobals "repr" = some none)
    (z17 : PySem.W.nsIn K mainGlobals "min" = some none)
    (z18 : PySem.W.nsIn K mainGlobals "max" = some none)
    (q0 : PySem.W.nsIn K mainGlobals "MOST_LETTERS" = some (some (.int 6 tk0)))
    (q1 : PySem.W.nsIn K mainGlobals "LETTERS" = some (some (.str "abcdefghijklmnopqrstuvwxyz" tk1)))
    (q2 : PySem.W.nsIn K mainGlobals "FIGURES" = some (some (.str "0123456789" tk2)))
    (q3 : PySem.W.nsIn K mainGlobals "LEAST_MARKS" = some (some (.int 2 tk3)))
    (q4 : PySem.W.nsIn K mainGlobals "MOST_MARKS" = some (some (.int 24 tk4)))
    (q5 : PySem.W.nsIn K mainGlobals "MOST_BELLS" = some (some (.int 8 tk5)))
    (q6 : PySem.W.nsIn K mainGlobals "MOST_NUMBER" = some (some (.int 99 tk6)))
    : LawTab l w K 11 63 "_law_script" mg fa h := by
  have ec_Peal := clsAt_of gc_Peal
  subst ec_Peal
  have ec_NoPeal := clsAt_of gc_NoPeal
  subst ec_NoPeal
  have ec_NoBells := clsAt_of gc_NoBells
  subst ec_NoBells
  have ec_NoNotches := clsAt_of gc_NoNotches
  subst ec_NoNotches
  have ec_NoText := clsAt_of gc_NoText
  subst ec_NoText
  have ec_NoStanding := clsAt_of gc_NoStanding
  subst ec_NoStanding
  have ec_NoRow := clsAt_of gc_NoRow
  subst ec_NoRow
  have ec_NoDials := clsAt_of gc_NoDials
  subst ec_NoDials
  have ec_NoRings := clsAt_of gc_NoRings
  subst ec_NoRings
  have ec_NoCourse := clsAt_of gc_NoCourse
  subst ec_NoCourse
  have ec_NoNumber := clsAt_of gc_NoNumber
  subst ec_NoNumber
  have ec_NoModuli := clsAt_of gc_NoModuli
  subst ec_NoModuli
  have ec_NoVectors := clsAt_of gc_NoVectors
  subst ec_NoVectors
  have ec_NoVector := clsAt_of gc_NoVector
  subst ec_NoVector
  have ec_NoWeights := clsAt_of gc_NoWeights
  subst ec_NoWeights
  have ec_NoTruth := clsAt_of gc_NoTruth
  subst ec_NoTruth
  have ec_NoHistories := clsAt_of gc_NoHistories
  subst ec_NoHistories
  have ec_NoDeed := clsAt_of gc_NoDeed
  subst ec_NoDeed
  have ec_NoLog := clsAt_of gc_NoLog
  subst ec_NoLog
  have ec_NoSay := clsAt_of gc_NoSay
  subst ec_NoSay
  have ec_NoName := clsAt_of gc_NoName
  subst ec_NoName
  have ec_NoPlace := clsAt_of gc_NoPlace
  subst ec_NoPlace
  have ec_NoBack := clsAt_of gc_NoBack
  subst ec_NoBack
  have ec_TooMany := clsAt_of gc_TooMany
  subst ec_TooMany
  have ec_BellError := clsAt_of gc_BellError
  subst ec_BellError
  have ec_LostError := clsAt_of gc_LostError
  subst ec_LostError
  have ec_GreatError := clsAt_of gc_GreatError
  subst ec_GreatError
  have e := hfa.symm.trans (PySem.W.mg_of X G a30)
  cases e
  have F0 := fun_mk (st := s_NoText___init__) l0 c0 k0
  have F1 := fun_mk (st := s_is_whole) l1 c1 k1
  have F2 := fun_mk (st := s_is_within) l2 c2 k2
  have F3 := fun_mk (st := s_is_name) l3 c3 k3
  have F4 := fun_mk (st := s_is_figures) l4 c4 k4
  have F5 := fun_mk (st := s_is_bell) l5 c5 k5
  have F6 := fun_mk (st := s_check_bells) l6 c6 k6
  have F7 := fun_mk (st := s_is_notch) l7 c7 k7
  have F8 := fun_mk (st := s_check_notches) l8 c8 k8
  have F9 := funT_mk (st := s_Peal___init__) l9 t9 c9 k9
  have F10 := fun_mk (st := s_Peal___eq__) l10 c10 k10
  have F11 := fun_mk (st := s_Peal___str__) l11 c11 k11
  have F12 := fun_mk (st := s_Peal___repr__) l12 c12 k12
  have F13 := fun_mk (st := s_number_of) l13 c13 k13
  have F14 := fun_mk (st := s_bell_of) l14 c14 k14
  have F15 := fun_mk (st := s_notch_of) l15 c15 k15
  have F16 := fun_mk (st := s_read_peal) l16 c16 k16
  have F17 := fun_mk (st := s__law_opened) l17 c17 k17
  have F18 := fun_mk (st := s__law_pull) l18 c18 k18
  have F19 := fun_mk (st := s__law_spelt) l19 c19 k19
  have F20 := fun_mk (st := s__law_calls) l20 c20 k20
  have F21 := fun_mk (st := s__law_figure) l21 c21 k21
  have F22 := fun_mk (st := s__law_kit) l22 c22 k22
  have F23 := fun_mk (st := s__law_sort) l23 c23 k23
  have F24 := fun_mk (st := s__law_text) l24 c24 k24
  have F25 := fun_mk (st := s__law_is_call) l25 c25 k25
  have F26 := fun_mk (st := s__law_worth_of) l26 c26 k26
  have F27 := fun_mk (st := s__law_read) l27 c27 k27
  have F28 := fun_mk (st := s__law_read_right) l28 c28 k28
  have F29 := fun_mk (st := s__law_right) l29 c29 k29
  have F30 := fun_mk (st := s_law) l30 c30 k30
  let T : Txt K mg := {
    a_NoText___init__ := f0,
    d_NoText___init__ := _,
    F_NoText___init__ := F0,
    b_NoText___init__ := F0.binds (ps := ["self", "row"]) fun _ _ _ _ _ _ us hl => match us, hl with | [_, _], _ => rfl,
    a_is_whole := f1,
    d_is_whole := _,
    F_is_whole := F1,
    b_is_whole := F1.binds (ps := ["thing"]) fun _ _ _ _ _ _ us hl => match us, hl with | [_], _ => rfl,
    g_is_whole := PySem.W.mg_of X G a1,
    a_is_within := f2,
    d_is_within := _,
    F_is_within := F2,
    b_is_within := F2.binds (ps := ["thing", "low", "high"]) fun _ _ _ _ _ _ us hl => match us, hl with | [_, _, _], _ => rfl,
    g_is_within := PySem.W.mg_of X G a2,
    a_is_name := f3,
    d_is_name := _,
    F_is_name := F3,
    b_is_name := F3.binds (ps := ["thing"]) fun _ _ _ _ _ _ us hl => match us, hl with | [_], _ => rfl,
    g_is_name := PySem.W.mg_of X G a3,
    a_is_figures := f4,
    d_is_figures := _,
    F_is_figures := F4,
    b_is_figures := F4.binds (ps := ["word"]) fun _ _ _ _ _ _ us hl => match us, hl with | [_], _ => rfl,
    g_is_figures := PySem.W.mg_of X G a4,
    a_is_bell := f5,
    d_is_bell := _,
    F_is_bell := F5,
    b_is_bell := F5.binds (ps := ["thing"]) fun _ _ _ _ _ _ us hl => match us, hl with | [_], _ => rfl,
    g_is_bell := PySem.W.mg_of X G a5,
    a_check_bells := f6,
    d_check_bells := _,
    F_check_bells := F6,
    b_check_bells := F6.binds (ps := ["bells"]) fun _ _ _ _ _ _ us hl => match us, hl with | [_], _ => rfl,
    g_check_bells := PySem.W.mg_of X G a6,
    a_is_notch := f7,
    d_is_notch := _,
    F_is_notch := F7,
    b_is_notch := F7.binds (ps := ["thing", "names"]) fun _ _ _ _ _ _ us hl => match us, hl with | [_, _], _ => rfl,
    g_is_notch := PySem.W.mg_of X G a7,
    a_check_notches := f8,
    d_check_notches := _,
    F_check_notches := F8,
    b_check_notches := F8.binds (ps := ["notches", "names"]) fun _ _ _ _ _ _ us hl => match us, hl with | [_, _], _ => rfl,
    g_check_notches := PySem.W.mg_of X G a8,
    a_Peal___init__ := f9,
    d_Peal___init__ := _,
    e_Peal___init__ := _,
    F_Peal___init__ := F9,
    b_Peal___init__ := F9.binds3 (ps := ["self", "bells", "notches"]) (fun _ _ _ _ _ _ _ us its hl hi => match us, its, hl, hi with | [_, _, _], [_], _, _ => ⟨_, rfl, rfl⟩),
    mk_Peal := ⟨p5_Peal, a9, i9, p6_Peal⟩,
    a_Peal___eq__ := f10,
    d_Peal___eq__ := _,
    F_Peal___eq__ := F10,
    b_Peal___eq__ := F10.binds (ps := ["self", "other"]) fun _ _ _ _ _ _ us hl => match us, hl with | [_, _], _ => rfl,
    me_Peal___eq__ := ⟨a10, i10, k10⟩,
    a_Peal___str__ := f11,
    d_Peal___str__ := _,
    F_Peal___str__ := F11,
    b_Peal___str__ := F11.binds (ps := ["self"]) fun _ _ _ _ _ _ us hl => match us, hl with | [_], _ => rfl,
    me_Peal___str__ := ⟨a11, i11, k11⟩,
    a_Peal___repr__ := f12,
    d_Peal___repr__ := _,
    F_Peal___repr__ := F12,
    b_Peal___repr__ := F12.binds (ps := ["self"]) fun _ _ _ _ _ _ us hl => match us, hl with | [_], _ => rfl,
    me_Peal___repr__ := ⟨a12, i12, k12⟩,
    a_number_of := f13,
    d_number_of := _,
    F_number_of := F13,
    b_number_of := F13.binds (ps := ["word"]) fun _ _ _ _ _ _ us hl => match us, hl with | [_], _ => rfl,
    g_number_of := PySem.W.mg_of X G a13,
    a_bell_of := f14,
    d_bell_of := _,
    F_bell_of := F14,
    b_bell_of := F14.binds (ps := ["words", "bells"]) fun _ _ _ _ _ _ us hl => match us, hl with | [_, _], _ => rfl,
    g_bell_of := PySem.W.mg_of X G a14,
    a_notch_of := f15,
    d_notch_of := _,
    F_notch_of := F15,
    b_notch_of := F15.binds (ps := ["words", "bells", "notches"]) fun _ _ _ _ _ _ us hl => match us, hl with | [_, _, _], _ => rfl,
    g_notch_of := PySem.W.mg_of X G a15,
    a_read_peal := f16,
    d_read_peal := _,
    F_read_peal := F16,
    b_read_peal := F16.binds (ps := ["text"]) fun _ _ _ _ _ _ us hl => match us, hl with | [_], _ => rfl,
    g_read_peal := PySem.W.mg_of X G a16,
    a__law_opened := f17,
    d__law_opened := _,
    F__law_opened := F17,
    b__law_opened := F17.binds (ps := ["_law_script", "_law_k"]) fun _ _ _ _ _ _ us hl => match us, hl with | [_, _], _ => rfl,
    g__law_opened := PySem.W.mg_of X G a17,
    a__law_pull := f18,
    d__law_pull := _,
    F__law_pull := F18,
    b__law_pull := F18.binds (ps := ["_law_store", "_law_many"]) fun _ _ _ _ _ _ us hl => match us, hl with | [_, _], _ => rfl,
    g__law_pull := PySem.W.mg_of X G a18,
    a__law_spelt := f19,
    d__law_spelt := _,
    F__law_spelt := F19,
    b__law_spelt := F19.binds (ps := ["_law_figure_here", "_law_wide"]) fun _ _ _ _ _ _ us hl => match us, hl with | [_, _], _ => rfl,
    g__law_spelt := PySem.W.mg_of X G a19,
    a__law_calls := f20,
    d__law_calls := _,
    F__law_calls := F20,
    b__law_calls := F20.binds (ps := ["_law_store", "_law_many"]) fun _ _ _ _ _ _ us hl => match us, hl with | [_, _], _ => rfl,
    g__law_calls := PySem.W.mg_of X G a20,
    a__law_figure := f21,
    d__law_figure := _,
    F__law_figure := F21,
    b__law_figure := F21.binds (ps := ["_law_store", "_law_mode", "_law_size"]) fun _ _ _ _ _ _ us hl => match us, hl with | [_, _, _], _ => rfl,
    g__law_figure := PySem.W.mg_of X G a21,
    a__law_kit := f22,
    d__law_kit := _,
    F__law_kit := F22,
    b__law_kit := F22.binds (ps := ["_law_store", "_law_upto", "_law_most"]) fun _ _ _ _ _ _ us hl => match us, hl with | [_, _, _], _ => rfl,
    g__law_kit := PySem.W.mg_of X G a22,
    a__law_sort := f23,
    d__law_sort := _,
    F__law_sort := F23,
    b__law_sort := F23.binds (ps := ["_law_e"]) fun _ _ _ _ _ _ us hl => match us, hl with | [_], _ => rfl,
    g__law_sort := PySem.W.mg_of X G a23,
    a__law_text := f24,
    d__law_text := _,
    F__law_text := F24,
    b__law_text := F24.binds (ps := ["_law_ringers", "_law_teeth"]) fun _ _ _ _ _ _ us hl => match us, hl with | [_, _], _ => rfl,
    g__law_text := PySem.W.mg_of X G a24,
    a__law_is_call := f25,
    d__law_is_call := _,
    F__law_is_call := F25,
    b__law_is_call := F25.binds (ps := ["_law_word"]) fun _ _ _ _ _ _ us hl => match us, hl with | [_], _ => rfl,
    g__law_is_call := PySem.W.mg_of X G a25,
    a__law_worth_of := f26,
    d__law_worth_of := _,
    F__law_worth_of := F26,
    b__law_worth_of := F26.binds (ps := ["_law_word"]) fun _ _ _ _ _ _ us hl => match us, hl with | [_], _ => rfl,
    g__law_worth_of := PySem.W.mg_of X G a26,
    a__law_read := f27,
    d__law_read := _,
    F__law_read := F27,
    b__law_read := F27.binds (ps := ["_law_written"]) fun _ _ _ _ _ _ us hl => match us, hl with | [_], _ => rfl,
    g__law_read := PySem.W.mg_of X G a27,
    a__law_read_right := f28,
    d__law_read_right := _,
    F__law_read_right := F28,
    b__law_read_right := F28.binds (ps := ["_law_written", "_law_door"]) fun _ _ _ _ _ _ us hl => match us, hl with | [_, _], _ => rfl,
    g__law_read_right := PySem.W.mg_of X G a28,
    a__law_right := f29,
    d__law_right := _,
    F__law_right := F29,
    b__law_right := F29.binds (ps := ["_law_store"]) fun _ _ _ _ _ _ us hl => match us, hl with | [_], _ => rfl,
    g__law_right := PySem.W.mg_of X G a29,
    a_law := fa,
    d_law := _,
    F_law := F30,
    b_law := F30.binds (ps := ["_law_script"]) fun _ _ _ _ _ _ us hl => match us, hl with | [_], _ => rfl,
    g_law := PySem.W.mg_of X G a30,
    kb_read_peal_text := kbw_of F16 (fun _ _ _ _ _ _ ws hl => match ws, hl with | [_], _ => rfl) (fun h => kwv_read_peal_text h),
    mc_NoPeal := PySem.W.mg_of X G gc_NoPeal,
    mc_NoBells := PySem.W.mg_of X G gc_NoBells,
    mc_NoNotches := PySem.W.mg_of X G gc_NoNotches,
    mc_NoText := PySem.W.mg_of X G gc_NoText,
    mc_NoStanding := PySem.W.mg_of X G gc_NoStanding,
    mc_NoRow := PySem.W.mg_of X G gc_NoRow,
    mc_NoDials := PySem.W.mg_of X G gc_NoDials,
    mc_NoRings := PySem.W.mg_of X G gc_NoRings,
    mc_NoCourse := PySem.W.mg_of X G gc_NoCourse,
    mc_NoNumber := PySem.W.mg_of X G gc_NoNumber,
    mc_NoModuli := PySem.W.mg_of X G gc_NoModuli,
    mc_NoVectors := PySem.W.mg_of X G gc_NoVectors,
    mc_NoVector := PySem.W.mg_of X G gc_NoVector,
    mc_NoWeights := PySem.W.mg_of X G gc_NoWeights,
    mc_NoTruth := PySem.W.mg_of X G gc_NoTruth,
    mc_NoHistories := PySem.W.mg_of X G gc_NoHistories,
    mc_NoDeed := PySem.W.mg_of X G gc_NoDeed,
    mc_NoLog := PySem.W.mg_of X G gc_NoLog,
    mc_NoSay := PySem.W.mg_of X G gc_NoSay,
    mc_NoName := PySem.W.mg_of X G gc_NoName,
    mc_NoPlace := PySem.W.mg_of X G gc_NoPlace,
    mc_NoBack := PySem.W.mg_of X G gc_NoBack,
    mc_TooMany := PySem.W.mg_of X G gc_TooMany,
    mc_BellError := PySem.W.mg_of X G gc_BellError,
    mc_LostError := PySem.W.mg_of X G gc_LostError,
    mc_GreatError := PySem.W.mg_of X G gc_GreatError,
    em_NoText_BellError := PySem.W.exm_ref sB_BellError hD_BellError tY_BellError sU_NoText_BellError,
    ec_NoText := ⟨gA_NoText, gG_NoText, sB_NoText, hD_NoText, cC_NoText, cN, cT, cM_NoText⟩,
    kx_NoText_NoPeal := kit_own iC_NoPeal tY_NoPeal sU_NoText_NoText sU_NoText_NoPeal,
    kx_NoText_NoBells := kit_own iC_NoBells tY_NoBells sU_NoText_NoText sU_NoText_NoBells,
    kx_NoText_NoNotches := kit_own iC_NoNotches tY_NoNotches sU_NoText_NoText sU_NoText_NoNotches,
    kx_NoText_NoText := kit_self,
    kx_NoText_NoStanding := kit_own iC_NoStanding tY_NoStanding sU_NoText_NoText sU_NoText_NoStanding,
    kx_NoText_NoRow := kit_own iC_NoRow tY_NoRow sU_NoText_NoText sU_NoText_NoRow,
    kx_NoText_NoDials := kit_own iC_NoDials tY_NoDials sU_NoText_NoText sU_NoText_NoDials,
    kx_NoText_NoRings := kit_own iC_NoRings tY_NoRings sU_NoText_NoText sU_NoText_NoRings,
    kx_NoText_NoCourse := kit_own iC_NoCourse tY_NoCourse sU_NoText_NoText sU_NoText_NoCourse,
    kx_NoText_NoNumber := kit_own iC_NoNumber tY_NoNumber sU_NoText_NoText sU_NoText_NoNumber,
    kx_NoText_NoModuli := kit_own iC_NoModuli tY_NoModuli sU_NoText_NoText sU_NoText_NoModuli,
    kx_NoText_NoVectors := kit_own iC_NoVectors tY_NoVectors sU_NoText_NoText sU_NoText_NoVectors,
    kx_NoText_NoVector := kit_own iC_NoVector tY_NoVector sU_NoText_NoText sU_NoText_NoVector,
    kx_NoText_NoWeights := kit_own iC_NoWeights tY_NoWeights sU_NoText_NoText sU_NoText_NoWeights,
    kx_NoText_NoTruth := kit_own iC_NoTruth tY_NoTruth sU_NoText_NoText sU_NoText_NoTruth,
    kx_NoText_NoHistories := kit_own iC_NoHistories tY_NoHistories sU_NoText_NoText sU_NoText_NoHistories,
    kx_NoText_NoDeed := kit_own iC_NoDeed tY_NoDeed sU_NoText_NoText sU_NoText_NoDeed,
    kx_NoText_NoLog := kit_own iC_NoLog tY_NoLog sU_NoText_NoText sU_NoText_NoLog,
    kx_NoText_NoSay := kit_own iC_NoSay tY_NoSay sU_NoText_NoText sU_NoText_NoSay,
    kx_NoText_NoName := kit_own iC_NoName tY_NoName sU_NoText_NoText sU_NoText_NoName,
    kx_NoText_NoPlace := kit_own iC_NoPlace tY_NoPlace sU_NoText_NoText sU_NoText_NoPlace,
    kx_NoText_NoBack := kit_own iC_NoBack tY_NoBack sU_NoText_NoText sU_NoText_NoBack,
    kx_NoText_TooMany := kit_own iC_TooMany tY_TooMany sU_NoText_NoText sU_NoText_TooMany,
    kx_NoText_BellError := kit_own iC_BellError tY_BellError sU_NoText_NoText sU_NoText_BellError,
    kx_NoText_LostError := kit_own iC_LostError tY_LostError sU_NoText_NoText sU_NoText_LostError,
    kx_NoText_GreatError := kit_own iC_GreatError tY_GreatError sU_NoText_NoText sU_NoText_GreatError,
    kx_NoText_ValueError := kit_blt (by decide +kernel) sU_NoText_ValueError,
    kx_NoText_LookupError := kit_blt (by decide +kernel) sU_NoText_LookupError,
    kx_NoText_ArithmeticError := kit_blt (by decide +kernel) sU_NoText_ArithmeticError,
    xc_NoText := ⟨gA_NoText, gG_NoText, sB_NoText, hD_NoText⟩,
    xn0_NoText := nF_NoText,
    mx_NoText := PySem.W.mg_of X G gc_NoText,
    ox_NoText := OexG.one PySem.F.excBase_ValueError PySem.F.store_ValueError rfl xL_NoText sA_NoText sB_NoText tY_NoText kP_NoText,
    xn_NoText := a0,
    xf_NoText := t0,
    no_NoText := nF_NoText,
    be_BellError := ⟨bS_BellError, bR_BellError, bF_BellError, rfl⟩,
    mx_BellError := PySem.W.mg_of X G gc_BellError,
    cl_Peal := ⟨p1_Peal, p2_Peal, p3_Peal, p4_Peal⟩,
    co_Peal := ⟨⟨p1_Peal, p2_Peal, p3_Peal, p4_Peal⟩, p7_Peal, p8_Peal, p9_Peal, pa_Peal⟩,
    ki_Peal := kit_self,
    cn_Peal := ⟨no1_Peal, no2_Peal, no3_Peal, no4_Peal, no5_Peal⟩,
    mg_Peal := PySem.W.mg_of X G gc_Peal,
    ne_Peal := pn_Peal,
    na_Peal_bells := n_Peal_bells,
    na_Peal_notches := n_Peal_notches,
    na_Peal_sizes := n_Peal_sizes,
    na_Peal_turning := n_Peal_turning,
    n_int := PySem.W.mg_none_of X G z0,
    n_isinstance := PySem.W.mg_none_of X G z1,
    n_bool := PySem.W.mg_none_of X G z2,
    n_str := PySem.W.mg_none_of X G z3,
    n_len := PySem.W.mg_none_of X G z4,
    n_all := PySem.W.mg_none_of X G z5,
    n_tuple := PySem.W.mg_none_of X G z6,
    n_enumerate := PySem.W.mg_none_of X G z7,
    n_dict := PySem.W.mg_none_of X G z8,
    n_abs := PySem.W.mg_none_of X G z9,
    n_divmod := PySem.W.mg_none_of X G z10,
    n_range := PySem.W.mg_none_of X G z11,
    n_sorted := PySem.W.mg_none_of X G z12,
    n_ValueError := PySem.W.mg_none_of X G z13,
    n_LookupError := PySem.W.mg_none_of X G z14,
    n_ArithmeticError := PySem.W.mg_none_of X G z15,
    n_repr := PySem.W.mg_none_of X G z16,
    n_min := PySem.W.mg_none_of X G z17,
    n_max := PySem.W.mg_none_of X G z18,
    t_MOST_LETTERS := _,
    c_MOST_LETTERS := PySem.W.mg_of X G q0,
    t_LETTERS := _,
    c_LETTERS := PySem.W.mg_of X G q1,
    t_FIGURES := _,
    c_FIGURES := PySem.W.mg_of X G q2,
    t_LEAST_MARKS := _,
    c_LEAST_MARKS := PySem.W.mg_of X G q3,
    t_MOST_MARKS := _,
    c_MOST_MARKS := PySem.W.mg_of X G q4,
    t_MOST_BELLS := _,
    c_MOST_BELLS := PySem.W.mg_of X G q5,
    t_MOST_NUMBER := _,
    c_MOST_NUMBER := PySem.W.mg_of X G q6 }
  letI tb : Tb := ⟨[]⟩
  refine ⟨T.d_law, [], sp_law K, (fun _ h => nomatch h), (fun _ h => nomatch h), (fun _ h => nomatch h), fun s v => .of_eq rfl, fun H a ns hl hT hS => law_end hl (fun _ h => nomatch h) hS, fun base kb nb TB => ?_⟩
  have O_NoText___init__ := ok_NoText___init__ (P := l.prog) (w := w) (base := base) T 
  have O_is_whole := ok_is_whole (P := l.prog) (w := w) (base := base) T 
  have O_is_whole_2 := ok_is_whole_2 (P := l.prog) (w := w) (base := base) T 
  have O_is_within := ok_is_within (P := l.prog) (w := w) (base := base) T O_is_whole
  have O_is_within_2 := ok_is_within_2 (P := l.prog) (w := w) (base := base) T O_is_whole_2
  have O_is_name := ok_is_name (P := l.prog) (w := w) (base := base) T 
  have O_is_name_2 := ok_is_name_2 (P := l.prog) (w := w) (base := base) T 
  have O_is_figures := ok_is_figures (P := l.prog) (w := w) (base := base) T 
  have O_is_bell := ok_is_bell (P := l.prog) (w := w) (base := base) T O_is_name O_is_within
  have O_check_bells := ok_check_bells (P := l.prog) (w := w) (base := base) T O_is_bell
  have O_is_bell_2 := ok_is_bell_2 (P := l.prog) (w := w) (base := base) T O_is_name_2 O_is_within_2
  have O_is_notch := ok_is_notch (P := l.prog) (w := w) (base := base) T O_is_name O_is_within
  have O_check_notches := ok_check_notches (P := l.prog) (w := w) (base := base) T O_is_notch
  have O_is_notch_2 := ok_is_notch_2 (P := l.prog) (w := w) (base := base) T O_is_name_2 O_is_within_2
  have O_Peal___init__ := ok_Peal___init__ (P := l.prog) (w := w) (base := base) T O_check_bells O_check_notches
  have O_Peal___eq__ := ok_Peal___eq__ (P := l.prog) (w := w) (base := base) T 
  have O_Peal___str__ := ok_Peal___str__ (P := l.prog) (w := w) (base := base) T 
  have O_Peal___repr__ := ok_Peal___repr__ (P := l.prog) (w := w) (base := base) T 
  have O_number_of := ok_number_of (P := l.prog) (w := w) (base := base) T O_is_figures
  have O_bell_of := ok_bell_of (P := l.prog) (w := w) (base := base) T O_number_of O_is_bell
  have O_notch_of := ok_notch_of (P := l.prog) (w := w) (base := base) T O_number_of O_is_notch
  have O_read_peal := ok_read_peal (P := l.prog) (w := w) (base := base) T O_bell_of O_notch_of O_Peal___init__
  have O_read_peal_2 := ok_read_peal_2 (P := l.prog) (w := w) (base := base) T O_NoText___init__ O_bell_of O_notch_of O_Peal___init__
  have O__law_opened := ok__law_opened (P := l.prog) (w := w) (base := base) T 
  have O__law_pull := ok__law_pull (P := l.prog) (w := w) (base := base) T 
  have O__law_spelt := ok__law_spelt (P := l.prog) (w := w) (base := base) T 
  have O__law_calls := ok__law_calls (P := l.prog) (w := w) (base := base) T O__law_pull O__law_spelt
  have O__law_figure := ok__law_figure (P := l.prog) (w := w) (base := base) T O__law_pull
  have O__law_kit := ok__law_kit (P := l.prog) (w := w) (base := base) T O__law_calls O__law_pull O__law_figure
  have O__law_sort := ok__law_sort (P := l.prog) (w := w) (base := base) T 
  have O__law_text := ok__law_text (P := l.prog) (w := w) (base := base) T 
  have O__law_is_call := ok__law_is_call (P := l.prog) (w := w) (base := base) T 
  have O__law_worth_of := ok__law_worth_of (P := l.prog) (w := w) (base := base) T 
  have O__law_read := ok__law_read (P := l.prog) (w := w) (base := base) T O__law_is_call O__law_worth_of
  have O__law_read_right := ok__law_read_right (P := l.prog) (w := w) (base := base) T O__law_read O_read_peal_2 O_Peal___str__ O__law_sort
  have O__law_right := ok__law_right (P := l.prog) (w := w) (base := base) T O__law_kit O__law_pull O_Peal___init__ O__law_text O_Peal___str__ O__law_read_right O_read_peal O_Peal___eq__
  have O_law := ok_law (P := l.prog) (w := w) (base := base) T O__law_right O__law_opened
  exact O_law
open H05
theorem gathered {l : PySem.W.OpenLaw} {w : World} {K : PySem.W.Frag} {h : Heap} {mg : Str → Option Value} {fa : Addr} (X : K.In h) (G : h.Ns mainGlobals mg) (hfa : mg "law" = some (.ref fa)) (c : He.SaysX [] hfn [] htf (fxOk hxs) w h K) : LawTab l w K 11 63 "_law_script" mg fa h := by
  have D : hfn.map (fun d => He.fnW K d.at_) = hfn.map He.DefD.val := congrArg (fun z : He.AlD => z.2) c.t.d
  obtain ⟨oc0, od0, sl0, kV0, dc0, pm0, an0, cd0, ct0, g_l0, g_c0⟩ := fDef_ok (p := ("NoText", some "__init__")) (q := "NoText.__init__") (nm := "__init__") (qn := "NoText.__init__") (ar := defArgs s_NoText___init__) (bd := defBody s_NoText___init__) (sc := defScope s_NoText___init__) (def_at D 0 (d := hd0) rfl) (fx_at c.more 0 0 (l := hx0) (f := fx0) rfl rfl)
  obtain ⟨oc1, od1, sl1, kV1, dc1, pm1, an1, cd1, ct1, g_l1, g_c1⟩ := fDef_ok (p := ("is_whole", none)) (q := "is_whole") (nm := "is_whole") (qn := "is_whole") (ar := defArgs s_is_whole) (bd := defBody s_is_whole) (sc := defScope s_is_whole) (def_at D 1 (d := hd1) rfl) (fx_at c.more 0 1 (l := hx0) (f := fx1) rfl rfl)
  obtain ⟨oc2, od2, sl2, kV2, dc2, pm2, an2, cd2, ct2, g_l2, g_c2⟩ := fDef_ok (p := ("is_within", none)) (q := "is_within") (nm := "is_within") (qn := "is_within") (ar := defArgs s_is_within) (bd := defBody s_is_within) (sc := defScope s_is_within) (def_at D 2 (d := hd2) rfl) (fx_at c.more 0 2 (l := hx0) (f := fx2) rfl rfl)
  obtain ⟨oc3, od3, sl3, kV3, dc3, pm3, an3, cd3, ct3, g_l3, g_c3⟩ := fDef_ok (p := ("is_name", none)) (q := "is_name") (nm := "is_name") (qn := "is_name") (ar := defArgs s_is_name) (bd := defBody s_is_name) (sc := defScope s_is_name) (def_at D 3 (d := hd3) rfl) (fx_at c.more 0 3 (l := hx0) (f := fx3) rfl rfl)
  obtain ⟨oc4, od4, sl4, kV4, dc4, pm4, an4, cd4, ct4, g_l4, g_c4⟩ := fDef_ok (p := ("is_figures", none)) (q := "is_figures") (nm := "is_figures") (qn := "is_figures") (ar := defArgs s_is_figures) (bd := defBody s_is_figures) (sc := defScope s_is_figures) (def_at D 4 (d := hd4) rfl) (fx_at c.more 0 4 (l := hx0) (f := fx4) rfl rfl)
  obtain ⟨oc5, od5, sl5, kV5, dc5, pm5, an5, cd5, ct5, g_l5, g_c5⟩ := fDef_ok (p := ("is_bell", none)) (q := "is_bell") (nm := "is_bell") (qn := "is_bell") (ar := defArgs s_is_bell) (bd := defBody s_is_bell) (sc := defScope s_is_bell) (def_at D 5 (d := hd5) rfl) (fx_at c.more 0 5 (l := hx0) (f := fx5) rfl rfl)
  obtain ⟨oc6, od6, sl6, kV6, dc6, pm6, an6, cd6, ct6, g_l6, g_c6⟩ := fDef_ok (p := ("check_bells", none)) (q := "check_bells") (nm := "check_bells") (qn := "check_bells") (ar := defArgs s_check_bells) (bd := defBody s_check_bells) (sc := defScope s_check_bells) (def_at D 6 (d := hd6) rfl) (fx_at c.more 0 6 (l := hx0) (f := fx6) rfl rfl)
  obtain ⟨oc7, od7, sl7, kV7, dc7, pm7, an7, cd7, ct7, g_l7, g_c7⟩ := fDef_ok (p := ("is_notch", none)) (q := "is_notch") (nm := "is_notch") (qn := "is_notch") (ar := defArgs s_is_notch) (bd := defBody s_is_notch) (sc := defScope s_is_notch) (def_at D 7 (d := hd7) rfl) (fx_at c.more 0 7 (l := hx0) (f := fx7) rfl rfl)
  obtain ⟨oc8, od8, sl8, kV8, dc8, pm8, an8, cd8, ct8, g_l8, g_c8⟩ := fDef_ok (p := ("check_notches", none)) (q := "check_notches") (nm := "check_notches") (qn := "check_notches") (ar := defArgs s_check_notches) (bd := defBody s_check_notches) (sc := defScope s_check_notches) (def_at D 8 (d := hd8) rfl) (fx_at c.more 0 8 (l := hx0) (f := fx8) rfl rfl)
  obtain ⟨oc9, od9, sl9, kV9, dc9, pm9, an9, cd9, ct9, tt9, te9, cc9, dt9, nt9, st9, g_l9, g_c9, g_t9, ge9⟩ := fDef1_ok (p := ("Peal", some "__init__")) (q := "Peal.__init__") (nm := "__init__") (qn := "Peal.__init__") (ar := defArgs s_Peal___init__) (bd := defBody s_Peal___init__) (sc := defScope s_Peal___init__) (def_at D 9 (d := hd9) rfl) (fx_at c.more 0 9 (l := hx0) (f := fx9) rfl rfl)
  subst ge9
  obtain ⟨oc10, od10, sl10, kV10, dc10, pm10, an10, cd10, ct10, g_l10, g_c10⟩ := fDef_ok (p := ("Peal", some "__eq__")) (q := "Peal.__eq__") (nm := "__eq__") (qn := "Peal.__eq__") (ar := defArgs s_Peal___eq__) (bd := defBody s_Peal___eq__) (sc := defScope s_Peal___eq__) (def_at D 10 (d := hd10) rfl) (fx_at c.more 0 10 (l := hx0) (f := fx10) rfl rfl)
  obtain ⟨oc11, od11, sl11, kV11, dc11, pm11, an11, cd11, ct11, g_l11, g_c11⟩ := fDef_ok (p := ("Peal", some "__str__")) (q := "Peal.__str__") (nm := "__str__") (qn := "Peal.__str__") (ar := defArgs s_Peal___str__) (bd := defBody s_Peal___str__) (sc := defScope s_Peal___str__) (def_at D 11 (d := hd11) rfl) (fx_at c.more 0 11 (l := hx0) (f := fx11) rfl rfl)
  obtain ⟨oc12, od12, sl12, kV12, dc12, pm12, an12, cd12, ct12, g_l12, g_c12⟩ := fDef_ok (p := ("Peal", some "__repr__")) (q := "Peal.__repr__") (nm := "__repr__") (qn := "Peal.__repr__") (ar := defArgs s_Peal___repr__) (bd := defBody s_Peal___repr__) (sc := defScope s_Peal___repr__) (def_at D 12 (d := hd12) rfl) (fx_at c.more 0 12 (l := hx0) (f := fx12) rfl rfl)
  obtain ⟨oc13, od13, sl13, kV13, dc13, pm13, an13, cd13, ct13, g_l13, g_c13⟩ := fDef_ok (p := ("number_of", none)) (q := "number_of") (nm := "number_of") (qn := "number_of") (ar := defArgs s_number_of) (bd := defBody s_number_of) (sc := defScope s_number_of) (def_at D 13 (d := hd13) rfl) (fx_at c.more 0 13 (l := hx0) (f := fx13) rfl rfl)
  obtain ⟨oc14, od14, sl14, kV14, dc14, pm14, an14, cd14, ct14, g_l14, g_c14⟩ := fDef_ok (p := ("bell_of", none)) (q := "bell_of") (nm := "bell_of") (qn := "bell_of") (ar := defArgs s_bell_of) (bd := defBody s_bell_of) (sc := defScope s_bell_of) (def_at D 14 (d := hd14) rfl) (fx_at c.more 0 14 (l := hx0) (f := fx14) rfl rfl)
  obtain ⟨oc15, od15, sl15, kV15, dc15, pm15, an15, cd15, ct15, g_l15, g_c15⟩ := fDef_ok (p := ("notch_of", none)) (q := "notch_of") (nm := "notch_of") (qn := "notch_of") (ar := defArgs s_notch_of) (bd := defBody s_notch_of) (sc := defScope s_notch_of) (def_at D 15 (d := hd15) rfl) (fx_at c.more 0 15 (l := hx0) (f := fx15) rfl rfl)
  obtain ⟨oc16, od16, sl16, kV16, dc16, pm16, an16, cd16, ct16, g_l16, g_c16⟩ := fDef_ok (p := ("read_peal", none)) (q := "read_peal") (nm := "read_peal") (qn := "read_peal") (ar := defArgs s_read_peal) (bd := defBody s_read_peal) (sc := defScope s_read_peal) (def_at D 16 (d := hd16) rfl) (fx_at c.more 0 16 (l := hx0) (f := fx16) rfl rfl)
  obtain ⟨oc17, od17, sl17, kV17, dc17, pm17, an17, cd17, ct17, g_l17, g_c17⟩ := fDef_ok (p := ("_law_opened", none)) (q := "_law_opened") (nm := "_law_opened") (qn := "_law_opened") (ar := defArgs s__law_opened) (bd := defBody s__law_opened) (sc := defScope s__law_opened) (def_at D 17 (d := hd17) rfl) (fx_at c.more 0 17 (l := hx0) (f := fx17) rfl rfl)
  obtain ⟨oc18, od18, sl18, kV18, dc18, pm18, an18, cd18, ct18, g_l18, g_c18⟩ := fDef_ok (p := ("_law_pull", none)) (q := "_law_pull") (nm := "_law_pull") (qn := "_law_pull") (ar := defArgs s__law_pull) (bd := defBody s__law_pull) (sc := defScope s__law_pull) (def_at D 18 (d := hd18) rfl) (fx_at c.more 0 18 (l := hx0) (f := fx18) rfl rfl)
  obtain ⟨oc19, od19, sl19, kV19, dc19, pm19, an19, cd19, ct19, g_l19, g_c19⟩ := fDef_ok (p := ("_law_spelt", none)) (q := "_law_spelt") (nm := "_law_spelt") (qn := "_law_spelt") (ar := defArgs s__law_spelt) (bd := defBody s__law_spelt) (sc := defScope s__law_spelt) (def_at D 19 (d := hd19) rfl) (fx_at c.more 0 19 (l := hx0) (f := fx19) rfl rfl)
  obtain ⟨oc20, od20, sl20, kV20, dc20, pm20, an20, cd20, ct20, g_l20, g_c20⟩ := fDef_ok (p := ("_law_calls", none)) (q := "_law_calls") (nm := "_law_calls") (qn := "_law_calls") (ar := defArgs s__law_calls) (bd := defBody s__law_calls) (sc := defScope s__law_calls) (def_at D 20 (d := hd20) rfl) (fx_at c.more 1 0 (l := hx1) (f := fx20) rfl rfl)
  obtain ⟨oc21, od21, sl21, kV21, dc21, pm21, an21, cd21, ct21, g_l21, g_c21⟩ := fDef_ok (p := ("_law_figure", none)) (q := "_law_figure") (nm := "_law_figure") (qn := "_law_figure") (ar := defArgs s__law_figure) (bd := defBody s__law_figure) (sc := defScope s__law_figure) (def_at D 21 (d := hd21) rfl) (fx_at c.more 1 1 (l := hx1) (f := fx21) rfl rfl)
  obtain ⟨oc22, od22, sl22, kV22, dc22, pm22, an22, cd22, ct22, g_l22, g_c22⟩ := fDef_ok (p := ("_law_kit", none)) (q := "_law_kit") (nm := "_law_kit") (qn := "_law_kit") (ar := defArgs s__law_kit) (bd := defBody s__law_kit) (sc := defScope s__law_kit) (def_at D 22 (d := hd22) rfl) (fx_at c.more 1 2 (l := hx1) (f := fx22) rfl rfl)
  obtain ⟨oc23, od23, sl23, kV23, dc23, pm23, an23, cd23, ct23, g_l23, g_c23⟩ := fDef_ok (p := ("_law_sort", none)) (q := "_law_sort") (nm := "_law_sort") (qn := "_law_sort") (ar := defArgs s__law_sort) (bd := defBody s__law_sort) (sc := defScope s__law_sort) (def_at D 23 (d := hd23) rfl) (fx_at c.more 1 3 (l := hx1) (f := fx23) rfl rfl)
  obtain ⟨oc24, od24, sl24, kV24, dc24, pm24, an24, cd24, ct24, g_l24, g_c24⟩ := fDef_ok (p := ("_law_text", none)) (q := "_law_text") (nm := "_law_text") (qn := "_law_text") (ar := defArgs s__law_text) (bd := defBody s__law_text) (sc := defScope s__law_text) (def_at D 24 (d := hd24) rfl) (fx_at c.more 1 4 (l := hx1) (f := fx24) rfl rfl)
  obtain ⟨oc25, od25, sl25, kV25, dc25, pm25, an25, cd25, ct25, g_l25, g_c25⟩ := fDef_ok (p := ("_law_is_call", none)) (q := "_law_is_call") (nm := "_law_is_call") (qn := "_law_is_call") (ar := defArgs s__law_is_call) (bd := defBody s__law_is_call) (sc := defScope s__law_is_call) (def_at D 25 (d := hd25) rfl) (fx_at c.more 1 5 (l := hx1) (f := fx25) rfl rfl)
  obtain ⟨oc26, od26, sl26, kV26, dc26, pm26, an26, cd26, ct26, g_l26, g_c26⟩ := fDef_ok (p := ("_law_worth_of", none)) (q := "_law_worth_of") (nm := "_law_worth_of") (qn := "_law_worth_of") (ar := defArgs s__law_worth_of) (bd := defBody s__law_worth_of) (sc := defScope s__law_worth_of) (def_at D 26 (d := hd26) rfl) (fx_at c.more 1 6 (l := hx1) (f := fx26) rfl rfl)
  obtain ⟨oc27, od27, sl27, kV27, dc27, pm27, an27, cd27, ct27, g_l27, g_c27⟩ := fDef_ok (p := ("_law_read", none)) (q := "_law_read") (nm := "_law_read") (qn := "_law_read") (ar := defArgs s__law_read) (bd := defBody s__law_read) (sc := defScope s__law_read) (def_at D 27 (d := hd27) rfl) (fx_at c.more 1 7 (l := hx1) (f := fx27) rfl rfl)
  obtain ⟨oc28, od28, sl28, kV28, dc28, pm28, an28, cd28, ct28, g_l28, g_c28⟩ := fDef_ok (p := ("_law_read_right", none)) (q := "_law_read_right") (nm := "_law_read_right") (qn := "_law_read_right") (ar := defArgs s__law_read_right) (bd := defBody s__law_read_right) (sc := defScope s__law_read_right) (def_at D 28 (d := hd28) rfl) (fx_at c.more 1 8 (l := hx1) (f := fx28) rfl rfl)
  obtain ⟨oc29, od29, sl29, kV29, dc29, pm29, an29, cd29, ct29, g_l29, g_c29⟩ := fDef_ok (p := ("_law_right", none)) (q := "_law_right") (nm := "_law_right") (qn := "_law_right") (ar := defArgs s__law_right) (bd := defBody s__law_right) (sc := defScope s__law_right) (def_at D 29 (d := hd29) rfl) (fx_at c.more 1 9 (l := hx1) (f := fx29) rfl rfl)
  obtain ⟨oc30, od30, sl30, kV30, dc30, pm30, an30, cd30, ct30, g_l30, g_c30⟩ := fDef_ok (p := ("law", none)) (q := "law") (nm := "law") (qn := "law") (ar := defArgs s_law) (bd := defBody s_law) (sc := defScope s_law) (def_at D 30 (d := hd30) rfl) (fx_at c.more 1 10 (l := hx1) (f := fx30) rfl rfl)
  have g_gc_Peal : PySem.W.nsIn K mainGlobals "Peal" = some (some (.ref (He.ga K "Peal"))) := He.eqO_ok (fx_at c.more 1 11 (l := hx1) (f := fx31) rfl rfl)
  have g_p1_Peal : PySem.W.plainGet K (He.ga K "Peal") Str.empty = true := (fx_at c.more 1 12 (l := hx1) (f := fx32) rfl rfl)
  have g_p2_Peal : PySem.W.hasDictIn K (He.ga K "Peal") = true := (fx_at c.more 1 13 (l := hx1) (f := fx33) rfl rfl)
  have g_p3_Peal : PySem.W.plainOver K (He.ga K "Peal") = true := (fx_at c.more 1 14 (l := hx1) (f := fx34) rfl rfl)
  have g_p4_Peal : PySem.W.findIn K (.ref (He.ga K "Peal")) "__setattr__" = some (some (.builtin "object.__setattr__")) := He.eqO_ok (fx_at c.more 1 15 (l := hx1) (f := fx35) rfl rfl)
  have g_p5_Peal : PySem.W.makesIn K (He.ga K "Peal") = true := (fx_at c.more 1 16 (l := hx1) (f := fx36) rfl rfl)
  have g_p6_Peal : PySem.W.keepIn K (.ref (He.ga K "Peal")) = true := (fx_at c.more 1 17 (l := hx1) (f := fx37) rfl rfl)
  have g_p7_Peal : PySem.W.findIn K (.ref (He.ga K "Peal")) "__class__" = some (some (.builtin "object.__class__")) := He.eqO_ok (fx_at c.more 1 18 (l := hx1) (f := fx38) rfl rfl)
  have g_p8_Peal : PySem.W.specialIn K (.builtin "object.__class__") "__get__" = some (some (.builtin "getset_descriptor.__get__")) := He.eqO_ok (fx_at c.more 1 19 (l := hx1) (f := fx39) rfl rfl)
  have g_p9_Peal : PySem.W.takesIn K (.builtin "object.__class__") = some true := of_decide_eq_true (fx_at c.more 2 0 (l := hx2) (f := fx40) rfl rfl)
  have g_pa_Peal : PySem.W.mroIn K (He.ga K "Peal") (.type "object") = some true := of_decide_eq_true (fx_at c.more 2 1 (l := hx2) (f := fx41) rfl rfl)
  have g_pn_Peal : PySem.W.findIn K (.ref (He.ga K "Peal")) "__ne__" = some (some (.builtin "object.__ne__")) := He.eqO_ok (fx_at c.more 2 2 (l := hx2) (f := fx42) rfl rfl)
  have g_no1_Peal : PySem.W.mroIn K (He.ga K "Peal") (.type "tuple") = some false := of_decide_eq_true (fx_at c.more 2 3 (l := hx2) (f := fx43) rfl rfl)
  have g_no2_Peal : PySem.W.mroIn K (He.ga K "Peal") (.type "int") = some false := of_decide_eq_true (fx_at c.more 2 4 (l := hx2) (f := fx44) rfl rfl)
  have g_no3_Peal : PySem.W.mroIn K (He.ga K "Peal") (.type "bool") = some false := of_decide_eq_true (fx_at c.more 2 5 (l := hx2) (f := fx45) rfl rfl)
  have g_no4_Peal : PySem.W.mroIn K (He.ga K "Peal") (.type "str") = some false := of_decide_eq_true (fx_at c.more 2 6 (l := hx2) (f := fx46) rfl rfl)
  have g_no5_Peal : PySem.W.mroIn K (He.ga K "Peal") (.type "list") = some false := of_decide_eq_true (fx_at c.more 2 7 (l := hx2) (f := fx47) rfl rfl)
  have g_n_Peal_bells : PySem.W.findIn K (.ref (He.ga K "Peal")) "bells" = some none := He.eqO_ok (fx_at c.more 2 8 (l := hx2) (f := fx48) rfl rfl)
  have g_n_Peal_notches : PySem.W.findIn K (.ref (He.ga K "Peal")) "notches" = some none := He.eqO_ok (fx_at c.more 2 9 (l := hx2) (f := fx49) rfl rfl)
  have g_n_Peal_sizes : PySem.W.findIn K (.ref (He.ga K "Peal")) "sizes" = some none := He.eqO_ok (fx_at c.more 2 10 (l := hx2) (f := fx50) rfl rfl)
  have g_n_Peal_turning : PySem.W.findIn K (.ref (He.ga K "Peal")) "turning" = some none := He.eqO_ok (fx_at c.more 2 11 (l := hx2) (f := fx51) rfl rfl)
  have g_gc_NoPeal : PySem.W.nsIn K mainGlobals "NoPeal" = some (some (.ref (He.ga K "NoPeal"))) := He.eqO_ok (fx_at c.more 2 12 (l := hx2) (f := fx52) rfl rfl)
  have g_gc_NoBells : PySem.W.nsIn K mainGlobals "NoBells" = some (some (.ref (He.ga K "NoBells"))) := He.eqO_ok (fx_at c.more 2 13 (l := hx2) (f := fx53) rfl rfl)
  have g_gc_NoNotches : PySem.W.nsIn K mainGlobals "NoNotches" = some (some (.ref (He.ga K "NoNotches"))) := He.eqO_ok (fx_at c.more 2 14 (l := hx2) (f := fx54) rfl rfl)
  have g_gc_NoText : PySem.W.nsIn K mainGlobals "NoText" = some (some (.ref (He.ga K "NoText"))) := He.eqO_ok (fx_at c.more 2 15 (l := hx2) (f := fx55) rfl rfl)
  have g_gc_NoStanding : PySem.W.nsIn K mainGlobals "NoStanding" = some (some (.ref (He.ga K "NoStanding"))) := He.eqO_ok (fx_at c.more 2 16 (l := hx2) (f := fx56) rfl rfl)
  have g_gc_NoRow : PySem.W.nsIn K mainGlobals "NoRow" = some (some (.ref (He.ga K "NoRow"))) := He.eqO_ok (fx_at c.more 2 17 (l := hx2) (f := fx57) rfl rfl)
  have g_gc_NoDials : PySem.W.nsIn K mainGlobals "NoDials" = some (some (.ref (He.ga K "NoDials"))) := He.eqO_ok (fx_at c.more 2 18 (l := hx2) (f := fx58) rfl rfl)
  have g_gc_NoRings : PySem.W.nsIn K mainGlobals "NoRings" = some (some (.ref (He.ga K "NoRings"))) := He.eqO_ok (fx_at c.more 2 19 (l := hx2) (f := fx59) rfl rfl)
  have g_gc_NoCourse : PySem.W.nsIn K mainGlobals "NoCourse" = some (some (.ref (He.ga K "NoCourse"))) := He.eqO_ok (fx_at c.more 3 0 (l := hx3) (f := fx60) rfl rfl)
  have g_gc_NoNumber : PySem.W.nsIn K mainGlobals "NoNumber" = some (some (.ref (He.ga K "NoNumber"))) := He.eqO_ok (fx_at c.more 3 1 (l := hx3) (f := fx61) rfl rfl)
  have g_gc_NoModuli : PySem.W.nsIn K mainGlobals "NoModuli" = some (some (.ref (He.ga K "NoModuli"))) := He.eqO_ok (fx_at c.more 3 2 (l := hx3) (f := fx62) rfl rfl)
  have g_gc_NoVectors : PySem.W.nsIn K mainGlobals "NoVectors" = some (some (.ref (He.ga K "NoVectors"))) := He.eqO_ok (fx_at c.more 3 3 (l := hx3) (f := fx63) rfl rfl)
  have g_gc_NoVector : PySem.W.nsIn K mainGlobals "NoVector" = some (some (.ref (He.ga K "NoVector"))) := He.eqO_ok (fx_at c.more 3 4 (l := hx3) (f := fx64) rfl rfl)
  have g_gc_NoWeights : PySem.W.nsIn K mainGlobals "NoWeights" = some (some (.ref (He.ga K "NoWeights"))) := He.eqO_ok (fx_at c.more 3 5 (l := hx3) (f := fx65) rfl rfl)
  have g_gc_NoTruth : PySem.W.nsIn K mainGlobals "NoTruth" = some (some (.ref (He.ga K "NoTruth"))) := He.eqO_ok (fx_at c.more 3 6 (l := hx3) (f := fx66) rfl rfl)
  have g_gc_NoHistories : PySem.W.nsIn K mainGlobals "NoHistories" = some (some (.ref (He.ga K "NoHistories"))) := He.eqO_ok (fx_at c.more 3 7 (l := hx3) (f := fx67) rfl rfl)
  have g_gc_NoDeed : PySem.W.nsIn K mainGlobals "NoDeed" = some (some (.ref (He.ga K "NoDeed"))) := He.eqO_ok (fx_at c.more 3 8 (l := hx3) (f := fx68) rfl rfl)
  have g_gc_NoLog : PySem.W.nsIn K mainGlobals "NoLog" = some (some (.ref (He.ga K "NoLog"))) := He.eqO_ok (fx_at c.more 3 9 (l := hx3) (f := fx69) rfl rfl)
  have g_gc_NoSay : PySem.W.nsIn K mainGlobals "NoSay" = some (some (.ref (He.ga K "NoSay"))) := He.eqO_ok (fx_at c.more 3 10 (l := hx3) (f := fx70) rfl rfl)
  have g_gc_NoName : PySem.W.nsIn K mainGlobals "NoName" = some (some (.ref (He.ga K "NoName"))) := He.eqO_ok (fx_at c.more 3 11 (l := hx3) (f := fx71) rfl rfl)
  have g_gc_NoPlace : PySem.W.nsIn K mainGlobals "NoPlace" = some (some (.ref (He.ga K "NoPlace"))) := He.eqO_ok (fx_at c.more 3 12 (l := hx3) (f := fx72) rfl rfl)
  have g_gc_NoBack : PySem.W.nsIn K mainGlobals "NoBack" = some (some (.ref (He.ga K "NoBack"))) := He.eqO_ok (fx_at c.more 3 13 (l := hx3) (f := fx73) rfl rfl)
  have g_gc_TooMany : PySem.W.nsIn K mainGlobals "TooMany" = some (some (.ref (He.ga K "TooMany"))) := He.eqO_ok (fx_at c.more 3 14 (l := hx3) (f := fx74) rfl rfl)
  have g_gc_BellError : PySem.W.nsIn K mainGlobals "BellError" = some (some (.ref (He.ga K "BellError"))) := He.eqO_ok (fx_at c.more 3 15 (l := hx3) (f := fx75) rfl rfl)
  have g_gc_LostError : PySem.W.nsIn K mainGlobals "LostError" = some (some (.ref (He.ga K "LostError"))) := He.eqO_ok (fx_at c.more 3 16 (l := hx3) (f := fx76) rfl rfl)
  have g_gc_GreatError : PySem.W.nsIn K mainGlobals "GreatError" = some (some (.ref (He.ga K "GreatError"))) := He.eqO_ok (fx_at c.more 3 17 (l := hx3) (f := fx77) rfl rfl)
  have g_sB_BellError : PySem.W.subIn K (.ref (He.ga K "BellError")) (.type "BaseException") = some true := of_decide_eq_true (fx_at c.more 3 18 (l := hx3) (f := fx78) rfl rfl)
  have g_hD_BellError : PySem.W.hasDictIn K (He.ga K "BellError") = true := (fx_at c.more 3 19 (l := hx3) (f := fx79) rfl rfl)
  have g_tY_BellError : PySem.W.typeIn K (.ref (He.ga K "BellError")) = some (.type "type") := of_decide_eq_true (fx_at c.more 4 0 (l := hx4) (f := fx80) rfl rfl)
  have g_sU_NoText_BellError : PySem.W.subIn K (.ref (He.ga K "NoText")) (.ref (He.ga K "BellError")) = some true := of_decide_eq_true (fx_at c.more 4 1 (l := hx4) (f := fx81) rfl rfl)
  have g_gA_NoText : PySem.W.findIn K (.ref (He.ga K "NoText")) "__getattribute__" = some (some (.builtin "BaseException.__getattribute__")) := He.eqO_ok (fx_at c.more 4 2 (l := hx4) (f := fx82) rfl rfl)
  have g_gG_NoText : PySem.W.findIn K (.ref (He.ga K "NoText")) "__getattr__" = some none := He.eqO_ok (fx_at c.more 4 3 (l := hx4) (f := fx83) rfl rfl)
  have g_sB_NoText : PySem.W.subIn K (.ref (He.ga K "NoText")) (.type "BaseException") = some true := of_decide_eq_true (fx_at c.more 4 4 (l := hx4) (f := fx84) rfl rfl)
  have g_hD_NoText : PySem.W.hasDictIn K (He.ga K "NoText") = true := (fx_at c.more 4 5 (l := hx4) (f := fx85) rfl rfl)
  have g_cC_NoText : PySem.W.findIn K (.ref (He.ga K "NoText")) "__class__" = some (some (.builtin "object.__class__")) := He.eqO_ok (fx_at c.more 4 6 (l := hx4) (f := fx86) rfl rfl)
  have g_cN : PySem.W.specialIn K (.builtin "object.__class__") "__get__" = some (some (.builtin "getset_descriptor.__get__")) := He.eqO_ok (fx_at c.more 4 7 (l := hx4) (f := fx87) rfl rfl)
  have g_cT : PySem.W.takesIn K (.builtin "object.__class__") = some true := of_decide_eq_true (fx_at c.more 4 8 (l := hx4) (f := fx88) rfl rfl)
  have g_cM_NoText : PySem.W.mroIn K (He.ga K "NoText") (.type "object") = some true := of_decide_eq_true (fx_at c.more 4 9 (l := hx4) (f := fx89) rfl rfl)
  have g_iC_NoPeal : PySem.W.isClsIn K (He.ga K "NoPeal") = true := (fx_at c.more 4 10 (l := hx4) (f := fx90) rfl rfl)
  have g_tY_NoPeal : PySem.W.typeIn K (.ref (He.ga K "NoPeal")) = some (.type "type") := of_decide_eq_true (fx_at c.more 4 11 (l := hx4) (f := fx91) rfl rfl)
  have g_sU_NoText_NoText : PySem.W.subIn K (.ref (He.ga K "NoText")) (.ref (He.ga K "NoText")) = some true := of_decide_eq_true (fx_at c.more 4 12 (l := hx4) (f := fx92) rfl rfl)
  have g_sU_NoText_NoPeal : PySem.W.subIn K (.ref (He.ga K "NoText")) (.ref (He.ga K "NoPeal")) = some false := of_decide_eq_true (fx_at c.more 4 13 (l := hx4) (f := fx93) rfl rfl)
  have g_iC_NoBells : PySem.W.isClsIn K (He.ga K "NoBells") = true := (fx_at c.more 4 14 (l := hx4) (f := fx94) rfl rfl)
  have g_tY_NoBells : PySem.W.typeIn K (.ref (He.ga K "NoBells")) = some (.type "type") := of_decide_eq_true (fx_at c.more 4 15 (l := hx4) (f := fx95) rfl rfl)
  have g_sU_NoText_NoBells : PySem.W.subIn K (.ref (He.ga K "NoText")) (.ref (He.ga K "NoBells")) = some false := of_decide_eq_true (fx_at c.more 4 16 (l := hx4) (f := fx96) rfl rfl)
  have g_iC_NoNotches : PySem.W.isClsIn K (He.ga K "NoNotches") = true := (fx_at c.more 4 17 (l := hx4) (f := fx97) rfl rfl)
  have g_tY_NoNotches : PySem.W.typeIn K (.ref (He.ga K "NoNotches")) = some (.type "type") := of_decide_eq_true (fx_at c.more 4 18 (l := hx4) (f := fx98) rfl rfl)
  have g_sU_NoText_NoNotches : PySem.W.subIn K (.ref (He.ga K "NoText")) (.ref (He.ga K "NoNotches")) = some false := of_decide_eq_true (fx_at c.more 4 19 (l := hx4) (f := fx99) rfl rfl)
  have g_iC_NoStanding : PySem.W.isClsIn K (He.ga K "NoStanding") = true := (fx_at c.more 5 0 (l := hx5) (f := fx100) rfl rfl)
  have g_tY_NoStanding : PySem.W.typeIn K (.ref (He.ga K "NoStanding")) = some (.type "type") := of_decide_eq_true (fx_at c.more 5 1 (l := hx5) (f := fx101) rfl rfl)
  have g_sU_NoText_NoStanding : PySem.W.subIn K (.ref (He.ga K "NoText")) (.ref (He.ga K "NoStanding")) = some false := of_decide_eq_true (fx_at c.more 5 2 (l := hx5) (f := fx102) rfl rfl)
  have g_iC_NoRow : PySem.W.isClsIn K (He.ga K "NoRow") = true := (fx_at c.more 5 3 (l := hx5) (f := fx103) rfl rfl)
  have g_tY_NoRow : PySem.W.typeIn K (.ref (He.ga K "NoRow")) = some (.type "type") := of_decide_eq_true (fx_at c.more 5 4 (l := hx5) (f := fx104) rfl rfl)
  have g_sU_NoText_NoRow : PySem.W.subIn K (.ref (He.ga K "NoText")) (.ref (He.ga K "NoRow")) = some false := of_decide_eq_true (fx_at c.more 5 5 (l := hx5) (f := fx105) rfl rfl)
  have g_iC_NoDials : PySem.W.isClsIn K (He.ga K "NoDials") = true := (fx_at c.more 5 6 (l := hx5) (f := fx106) rfl rfl)
  have g_tY_NoDials : PySem.W.typeIn K (.ref (He.ga K "NoDials")) = some (.type "type") := of_decide_eq_true (fx_at c.more 5 7 (l := hx5) (f := fx107) rfl rfl)
  have g_sU_NoText_NoDials : PySem.W.subIn K (.ref (He.ga K "NoText")) (.ref (He.ga K "NoDials")) = some false := of_decide_eq_true (fx_at c.more 5 8 (l := hx5) (f := fx108) rfl rfl)
  have g_iC_NoRings : PySem.W.isClsIn K (He.ga K "NoRings") = true := (fx_at c.more 5 9 (l := hx5) (f := fx109) rfl rfl)
  have g_tY_NoRings : PySem.W.typeIn K (.ref (He.ga K "NoRings")) = some (.type "type") := of_decide_eq_true (fx_at c.more 5 10 (l := hx5) (f := fx110) rfl rfl)
  have g_sU_NoText_NoRings : PySem.W.subIn K (.ref (He.ga K "NoText")) (.ref (He.ga K "NoRings")) = some false := of_decide_eq_true (fx_at c.more 5 11 (l := hx5) (f := fx111) rfl rfl)
  have g_iC_NoCourse : PySem.W.isClsIn K (He.ga K "NoCourse") = true := (fx_at c.more 5 12 (l := hx5) (f := fx112) rfl rfl)
  have g_tY_NoCourse : PySem.W.typeIn K (.ref (He.ga K "NoCourse")) = some (.type "type") := of_decide_eq_true (fx_at c.more 5 13 (l := hx5) (f := fx113) rfl rfl)
  have g_sU_NoText_NoCourse : PySem.W.subIn K (.ref (He.ga K "NoText")) (.ref (He.ga K "NoCourse")) = some false := of_decide_eq_true (fx_at c.more 5 14 (l := hx5) (f := fx114) rfl rfl)
  have g_iC_NoNumber : PySem.W.isClsIn K (He.ga K "NoNumber") = true := (fx_at c.more 5 15 (l := hx5) (f := fx115) rfl rfl)
  have g_tY_NoNumber : PySem.W.typeIn K (.ref (He.ga K "NoNumber")) = some (.type "type") := of_decide_eq_true (fx_at c.more 5 16 (l := hx5) (f := fx116) rfl rfl)
  have g_sU_NoText_NoNumber : PySem.W.subIn K (.ref (He.ga K "NoText")) (.ref (He.ga K "NoNumber")) = some false := of_decide_eq_true (fx_at c.more 5 17 (l := hx5) (f := fx117) rfl rfl)
  have g_iC_NoModuli : PySem.W.isClsIn K (He.ga K "NoModuli") = true := (fx_at c.more 5 18 (l := hx5) (f := fx118) rfl rfl)
  have g_tY_NoModuli : PySem.W.typeIn K (.ref (He.ga K "NoModuli")) = some (.type "type") := of_decide_eq_true (fx_at c.more 5 19 (l := hx5) (f := fx119) rfl rfl)
  have g_sU_NoText_NoModuli : PySem.W.subIn K (.ref (He.ga K "NoText")) (.ref (He.ga K "NoModuli")) = some false := of_decide_eq_true (fx_at c.more 6 0 (l := hx6) (f := fx120) rfl rfl)
  have g_iC_NoVectors : PySem.W.isClsIn K (He.ga K "NoVectors") = true := (fx_at c.more 6 1 (l := hx6) (f := fx121) rfl rfl)
  have g_tY_NoVectors : PySem.W.typeIn K (.ref (He.ga K "NoVectors")) = some (.type "type") := of_decide_eq_true (fx_at c.more 6 2 (l := hx6) (f := fx122) rfl rfl)
  have g_sU_NoText_NoVectors : PySem.W.subIn K (.ref (He.ga K "NoText")) (.ref (He.ga K "NoVectors")) = some false := of_decide_eq_true (fx_at c.more 6 3 (l := hx6) (f := fx123) rfl rfl)
  have g_iC_NoVector : PySem.W.isClsIn K (He.ga K "NoVector") = true := (fx_at c.more 6 4 (l := hx6) (f := fx124) rfl rfl)
  have g_tY_NoVector : PySem.W.typeIn K (.ref (He.ga K "NoVector")) = some (.type "type") := of_decide_eq_true (fx_at c.more 6 5 (l := hx6) (f := fx125) rfl rfl)
  have g_sU_NoText_NoVector : PySem.W.subIn K (.ref (He.ga K "NoText")) (.ref (He.ga K "NoVector")) = some false := of_decide_eq_true (fx_at c.more 6 6 (l := hx6) (f := fx126) rfl rfl)
  have g_iC_NoWeights : PySem.W.isClsIn K (He.ga K "NoWeights") = true := (fx_at c.more 6 7 (l := hx6) (f := fx127) rfl rfl)
  have g_tY_NoWeights : PySem.W.typeIn K (.ref (He.ga K "NoWeights")) = some (.type "type") := of_decide_eq_true (fx_at c.more 6 8 (l := hx6) (f := fx128) rfl rfl)
  have g_sU_NoText_NoWeights : PySem.W.subIn K (.ref (He.ga K "NoText")) (.ref (He.ga K "NoWeights")) = some false := of_decide_eq_true (fx_at c.more 6 9 (l := hx6) (f := fx129) rfl rfl)
  have g_iC_NoTruth : PySem.W.isClsIn K (He.ga K "NoTruth") = true := (fx_at c.more 6 10 (l := hx6) (f := fx130) rfl rfl)
  have g_tY_NoTruth : PySem.W.typeIn K (.ref (He.ga K "NoTruth")) = some (.type "type") := of_decide_eq_true (fx_at c.more 6 11 (l := hx6) (f := fx131) rfl rfl)
  have g_sU_NoText_NoTruth : PySem.W.subIn K (.ref (He.ga K "NoText")) (.ref (He.ga K "NoTruth")) = some false := of_decide_eq_true (fx_at c.more 6 12 (l := hx6) (f := fx132) rfl rfl)
  have g_iC_NoHistories : PySem.W.isClsIn K (He.ga K "NoHistories") = true := (fx_at c.more 6 13 (l := hx6) (f := fx133) rfl rfl)
  have g_tY_NoHistories : PySem.W.typeIn K (.ref (He.ga K "NoHistories")) = some (.type "type") := of_decide_eq_true (fx_at c.more 6 14 (l := hx6) (f := fx134) rfl rfl)
  have g_sU_NoText_NoHistories : PySem.W.subIn K (.ref (He.ga K "NoText")) (.ref (He.ga K "NoHistories")) = some false := of_decide_eq_true (fx_at c.more 6 15 (l := hx6) (f := fx135) rfl rfl)
  have g_iC_NoDeed : PySem.W.isClsIn K (He.ga K "NoDeed") = true := (fx_at c.more 6 16 (l := hx6) (f := fx136) rfl rfl)
  have g_tY_NoDeed : PySem.W.typeIn K (.ref (He.ga K "NoDeed")) = some (.type "type") := of_decide_eq_true (fx_at c.more 6 17 (l := hx6) (f := fx137) rfl rfl)
  have g_sU_NoText_NoDeed : PySem.W.subIn K (.ref (He.ga K "NoText")) (.ref (He.ga K "NoDeed")) = some false := of_decide_eq_true (fx_at c.more 6 18 (l := hx6) (f := fx138) rfl rfl)
  have g_iC_NoLog : PySem.W.isClsIn K (He.ga K "NoLog") = true := (fx_at c.more 6 19 (l := hx6) (f := fx139) rfl rfl)
  have g_tY_NoLog : PySem.W.typeIn K (.ref (He.ga K "NoLog")) = some (.type "type") := of_decide_eq_true (fx_at c.more 7 0 (l := hx7) (f := fx140) rfl rfl)
  have g_sU_NoText_NoLog : PySem.W.subIn K (.ref (He.ga K "NoText")) (.ref (He.ga K "NoLog")) = some false := of_decide_eq_true (fx_at c.more 7 1 (l := hx7) (f := fx141) rfl rfl)
  have g_iC_NoSay : PySem.W.isClsIn K (He.ga K "NoSay") = true := (fx_at c.more 7 2 (l := hx7) (f := fx142) rfl rfl)
  have g_tY_NoSay : PySem.W.typeIn K (.ref (He.ga K "NoSay")) = some (.type "type") := of_decide_eq_true (fx_at c.more 7 3 (l := hx7) (f := fx143) rfl rfl)
  have g_sU_NoText_NoSay : PySem.W.subIn K (.ref (He.ga K "NoText")) (.ref (He.ga K "NoSay")) = some false := of_decide_eq_true (fx_at c.more 7 4 (l := hx7) (f := fx144) rfl rfl)
  have g_iC_NoName : PySem.W.isClsIn K (He.ga K "NoName") = true := (fx_at c.more 7 5 (l := hx7) (f := fx145) rfl rfl)
  have g_tY_NoName : PySem.W.typeIn K (.ref (He.ga K "NoName")) = some (.type "type") := of_decide_eq_true (fx_at c.more 7 6 (l := hx7) (f := fx146) rfl rfl)
  have g_sU_NoText_NoName : PySem.W.subIn K (.ref (He.ga K "NoText")) (.ref (He.ga K "NoName")) = some false := of_decide_eq_true (fx_at c.more 7 7 (l := hx7) (f := fx147) rfl rfl)
  have g_iC_NoPlace : PySem.W.isClsIn K (He.ga K "NoPlace") = true := (fx_at c.more 7 8 (l := hx7) (f := fx148) rfl rfl)
  have g_tY_NoPlace : PySem.W.typeIn K (.ref (He.ga K "NoPlace")) = some (.type "type") := of_decide_eq_true (fx_at c.more 7 9 (l := hx7) (f := fx149) rfl rfl)
  have g_sU_NoText_NoPlace : PySem.W.subIn K (.ref (He.ga K "NoText")) (.ref (He.ga K "NoPlace")) = some false := of_decide_eq_true (fx_at c.more 7 10 (l := hx7) (f := fx150) rfl rfl)
  have g_iC_NoBack : PySem.W.isClsIn K (He.ga K "NoBack") = true := (fx_at c.more 7 11 (l := hx7) (f := fx151) rfl rfl)
  have g_tY_NoBack : PySem.W.typeIn K (.ref (He.ga K "NoBack")) = some (.type "type") := of_decide_eq_true (fx_at c.more 7 12 (l := hx7) (f := fx152) rfl rfl)
  have g_sU_NoText_NoBack : PySem.W.subIn K (.ref (He.ga K "NoText")) (.ref (He.ga K "NoBack")) = some false := of_decide_eq_true (fx_at c.more 7 13 (l := hx7) (f := fx153) rfl rfl)
  have g_iC_TooMany : PySem.W.isClsIn K (He.ga K "TooMany") = true := (fx_at c.more 7 14 (l := hx7) (f := fx154) rfl rfl)
  have g_tY_TooMany : PySem.W.typeIn K (.ref (He.ga K "TooMany")) = some (.type "type") := of_decide_eq_true (fx_at c.more 7 15 (l := hx7) (f := fx155) rfl rfl)
  have g_sU_NoText_TooMany : PySem.W.subIn K (.ref (He.ga K "NoText")) (.ref (He.ga K "TooMany")) = some false := of_decide_eq_true (fx_at c.more 7 16 (l := hx7) (f := fx156) rfl rfl)
  have g_iC_BellError : PySem.W.isClsIn K (He.ga K "BellError") = true := (fx_at c.more 7 17 (l := hx7) (f := fx157) rfl rfl)
  have g_iC_LostError : PySem.W.isClsIn K (He.ga K "LostError") = true := (fx_at c.more 7 18 (l := hx7) (f := fx158) rfl rfl)
  have g_tY_LostError : PySem.W.typeIn K (.ref (He.ga K "LostError")) = some (.type "type") := of_decide_eq_true (fx_at c.more 7 19 (l := hx7) (f := fx159) rfl rfl)
  have g_sU_NoText_LostError : PySem.W.subIn K (.ref (He.ga K "NoText")) (.ref (He.ga K "LostError")) = some false := of_decide_eq_true (fx_at c.more 8 0 (l := hx8) (f := fx160) rfl rfl)
  have g_iC_GreatError : PySem.W.isClsIn K (He.ga K "GreatError") = true := (fx_at c.more 8 1 (l := hx8) (f := fx161) rfl rfl)
  have g_tY_GreatError : PySem.W.typeIn K (.ref (He.ga K "GreatError")) = some (.type "type") := of_decide_eq_true (fx_at c.more 8 2 (l := hx8) (f := fx162) rfl rfl)
  have g_sU_NoText_GreatError : PySem.W.subIn K (.ref (He.ga K "NoText")) (.ref (He.ga K "GreatError")) = some false := of_decide_eq_true (fx_at c.more 8 3 (l := hx8) (f := fx163) rfl rfl)
  have g_sU_NoText_ValueError : PySem.W.subIn K (.ref (He.ga K "NoText")) (.type "ValueError") = some true := of_decide_eq_true (fx_at c.more 8 4 (l := hx8) (f := fx164) rfl rfl)
  have g_sU_NoText_LookupError : PySem.W.subIn K (.ref (He.ga K "NoText")) (.type "LookupError") = some false := of_decide_eq_true (fx_at c.more 8 5 (l := hx8) (f := fx165) rfl rfl)
  have g_sU_NoText_ArithmeticError : PySem.W.subIn K (.ref (He.ga K "NoText")) (.type "ArithmeticError") = some false := of_decide_eq_true (fx_at c.more 8 6 (l := hx8) (f := fx166) rfl rfl)
  have g_nF_NoText : PySem.W.findIn K (.ref (He.ga K "NoText")) "row" = some none := He.eqO_ok (fx_at c.more 8 7 (l := hx8) (f := fx167) rfl rfl)
  obtain ⟨_, _, _, _, _, _, _, _, _, _, _, _, _, _, g_xL_NoText⟩ := fExc_ok (C := fun K => (He.ga K "NoText")) (mro := fun K => [.ref (He.ga K "BellError"), .type "ValueError", .type "Exception", .type "BaseException", .type "object"]) (newId := "ValueError.__new__") (fx_at c.more 8 8 (l := hx8) (f := fx168) rfl rfl)
  have g_sA_NoText : PySem.W.findIn K (.ref (He.ga K "NoText")) "__setattr__" = some (some (.builtin "object.__setattr__")) := He.eqO_ok (fx_at c.more 8 9 (l := hx8) (f := fx169) rfl rfl)
  have g_tY_NoText : PySem.W.typeIn K (.ref (He.ga K "NoText")) = some (.type "type") := of_decide_eq_true (fx_at c.more 8 10 (l := hx8) (f := fx170) rfl rfl)
  have g_kP_NoText : PySem.W.keepIn K (.ref (He.ga K "NoText")) = true := (fx_at c.more 8 11 (l := hx8) (f := fx171) rfl rfl)
  have g_bS_BellError : PySem.W.specialIn K (.ref (He.ga K "BellError")) "__getattribute__" = some (some (.builtin "type.__getattribute__")) := He.eqO_ok (fx_at c.more 8 12 (l := hx8) (f := fx172) rfl rfl)
  have g_bR_BellError : PySem.W.readsIn K (He.ga K "BellError") (.type "type") = true := (fx_at c.more 8 13 (l := hx8) (f := fx173) rfl rfl)
  have g_bF_BellError : PySem.W.findCls K (.ref (He.ga K "BellError")) (.type "type") "__init__" = some (.val (.builtin "ValueError.__init__")) := fCls_ok (C := fun K => (.ref (He.ga K "BellError"))) (M := fun K => (.type "type")) (fx_at c.more 8 14 (l := hx8) (f := fx174) rfl rfl)
  have g_a0 : PySem.W.findIn K (.ref (He.ga K "NoText")) "__init__" = some (some (.ref (He.fAd K ("NoText", some "__init__")))) := He.eqO_ok (fx_at c.more 8 15 (l := hx8) (f := fx175) rfl rfl)
  have g_t0 : PySem.W.typeIn K (.ref (He.fAd K ("NoText", some "__init__"))) = some (.type "function") := of_decide_eq_true (fx_at c.more 8 16 (l := hx8) (f := fx176) rfl rfl)
  have g_k0 : PySem.W.keepIn K (.ref (He.fAd K ("NoText", some "__init__"))) = true := (fx_at c.more 8 17 (l := hx8) (f := fx177) rfl rfl)
  have g_a1 : PySem.W.nsIn K mainGlobals "is_whole" = some (some (.ref (He.fAd K ("is_whole", none)))) := He.eqO_ok (fx_at c.more 8 18 (l := hx8) (f := fx178) rfl rfl)
  have g_k1 : PySem.W.keepIn K (.ref (He.fAd K ("is_whole", none))) = true := (fx_at c.more 8 19 (l := hx8) (f := fx179) rfl rfl)
  have g_a2 : PySem.W.nsIn K mainGlobals "is_within" = some (some (.ref (He.fAd K ("is_within", none)))) := He.eqO_ok (fx_at c.more 9 0 (l := hx9) (f := fx180) rfl rfl)
  have g_k2 : PySem.W.keepIn K (.ref (He.fAd K ("is_within", none))) = true := (fx_at c.more 9 1 (l := hx9) (f := fx181) rfl rfl)
  have g_a3 : PySem.W.nsIn K mainGlobals "is_name" = some (some (.ref (He.fAd K ("is_name", none)))) := He.eqO_ok (fx_at c.more 9 2 (l := hx9) (f := fx182) rfl rfl)
  have g_k3 : PySem.W.keepIn K (.ref (He.fAd K ("is_name", none))) = true := (fx_at c.more 9 3 (l := hx9) (f := fx183) rfl rfl)
  have g_a4 : PySem.W.nsIn K mainGlobals "is_figures" = some (some (.ref (He.fAd K ("is_figures", none)))) := He.eqO_ok (fx_at c.more 9 4 (l := hx9) (f := fx184) rfl rfl)
  have g_k4 : PySem.W.keepIn K (.ref (He.fAd K ("is_figures", none))) = true := (fx_at c.more 9 5 (l := hx9) (f := fx185) rfl rfl)
  have g_a5 : PySem.W.nsIn K mainGlobals "is_bell" = some (some (.ref (He.fAd K ("is_bell", none)))) := He.eqO_ok (fx_at c.more 9 6 (l := hx9) (f := fx186) rfl rfl)
  have g_k5 : PySem.W.keepIn K (.ref (He.fAd K ("is_bell", none))) = true := (fx_at c.more 9 7 (l := hx9) (f := fx187) rfl rfl)
  have g_a6 : PySem.W.nsIn K mainGlobals "check_bells" = some (some (.ref (He.fAd K ("check_bells", none)))) := He.eqO_ok (fx_at c.more 9 8 (l := hx9) (f := fx188) rfl rfl)
  have g_k6 : PySem.W.keepIn K (.ref (He.fAd K ("check_bells", none))) = true := (fx_at c.more 9 9 (l := hx9) (f := fx189) rfl rfl)
  have g_a7 : PySem.W.nsIn K mainGlobals "is_notch" = some (some (.ref (He.fAd K ("is_notch", none)))) := He.eqO_ok (fx_at c.more 9 10 (l := hx9) (f := fx190) rfl rfl)
  have g_k7 : PySem.W.keepIn K (.ref (He.fAd K ("is_notch", none))) = true := (fx_at c.more 9 11 (l := hx9) (f := fx191) rfl rfl)
  have g_a8 : PySem.W.nsIn K mainGlobals "check_notches" = some (some (.ref (He.fAd K ("check_notches", none)))) := He.eqO_ok (fx_at c.more 9 12 (l := hx9) (f := fx192) rfl rfl)
  have g_k8 : PySem.W.keepIn K (.ref (He.fAd K ("check_notches", none))) = true := (fx_at c.more 9 13 (l := hx9) (f := fx193) rfl rfl)
  have g_a9 : PySem.W.findIn K (.ref (He.ga K "Peal")) "__init__" = some (some (.ref (He.fAd K ("Peal", some "__init__")))) := He.eqO_ok (fx_at c.more 9 14 (l := hx9) (f := fx194) rfl rfl)
  have g_i9 : PySem.W.isFn K (.ref (He.fAd K ("Peal", some "__init__"))) = true := (fx_at c.more 9 15 (l := hx9) (f := fx195) rfl rfl)
  have g_k9 : PySem.W.keepIn K (.ref (He.fAd K ("Peal", some "__init__"))) = true := (fx_at c.more 9 16 (l := hx9) (f := fx196) rfl rfl)
  have g_a10 : PySem.W.findIn K (.ref (He.ga K "Peal")) "__eq__" = some (some (.ref (He.fAd K ("Peal", some "__eq__")))) := He.eqO_ok (fx_at c.more 9 17 (l := hx9) (f := fx197) rfl rfl)
  have g_i10 : PySem.W.isFn K (.ref (He.fAd K ("Peal", some "__eq__"))) = true := (fx_at c.more 9 18 (l := hx9) (f := fx198) rfl rfl)
  have g_k10 : PySem.W.keepIn K (.ref (He.fAd K ("Peal", some "__eq__"))) = true := (fx_at c.more 9 19 (l := hx9) (f := fx199) rfl rfl)
  have g_a11 : PySem.W.findIn K (.ref (He.ga K "Peal")) "__str__" = some (some (.ref (He.fAd K ("Peal", some "__str__")))) := He.eqO_ok (fx_at c.more 10 0 (l := hx10) (f := fx200) rfl rfl)
  have g_i11 : PySem.W.isFn K (.ref (He.fAd K ("Peal", some "__str__"))) = true := (fx_at c.more 10 1 (l := hx10) (f := fx201) rfl rfl)
  have g_k11 : PySem.W.keepIn K (.ref (He.fAd K ("Peal", some "__str__"))) = true := (fx_at c.more 10 2 (l := hx10) (f := fx202) rfl rfl)
  have g_a12 : PySem.W.findIn K (.ref (He.ga K "Peal")) "__repr__" = some (some (.ref (He.fAd K ("Peal", some "__repr__")))) := He.eqO_ok (fx_at c.more 10 3 (l := hx10) (f := fx203) rfl rfl)
  have g_i12 : PySem.W.isFn K (.ref (He.fAd K ("Peal", some "__repr__"))) = true := (fx_at c.more 10 4 (l := hx10) (f := fx204) rfl rfl)
  have g_k12 : PySem.W.keepIn K (.ref (He.fAd K ("Peal", some "__repr__"))) = true := (fx_at c.more 10 5 (l := hx10) (f := fx205) rfl rfl)
  have g_a13 : PySem.W.nsIn K mainGlobals "number_of" = some (some (.ref (He.fAd K ("number_of", none)))) := He.eqO_ok (fx_at c.more 10 6 (l := hx10) (f := fx206) rfl rfl)
  have g_k13 : PySem.W.keepIn K (.ref (He.fAd K ("number_of", none))) = true := (fx_at c.more 10 7 (l := hx10) (f := fx207) rfl rfl)
  have g_a14 : PySem.W.nsIn K mainGlobals "bell_of" = some (some (.ref (He.fAd K ("bell_of", none)))) := He.eqO_ok (fx_at c.more 10 8 (l := hx10) (f := fx208) rfl rfl)
  have g_k14 : PySem.W.keepIn K (.ref (He.fAd K ("bell_of", none))) = true := (fx_at c.more 10 9 (l := hx10) (f := fx209) rfl rfl)
  have g_a15 : PySem.W.nsIn K mainGlobals "notch_of" = some (some (.ref (He.fAd K ("notch_of", none)))) := He.eqO_ok (fx_at c.more 10 10 (l := hx10) (f := fx210) rfl rfl)
  have g_k15 : PySem.W.keepIn K (.ref (He.fAd K ("notch_of", none))) = true := (fx_at c.more 10 11 (l := hx10) (f := fx211) rfl rfl)
  have g_a16 : PySem.W.nsIn K mainGlobals "read_peal" = some (some (.ref (He.fAd K ("read_peal", none)))) := He.eqO_ok (fx_at c.more 10 12 (l := hx10) (f := fx212) rfl rfl)
  have g_k16 : PySem.W.keepIn K (.ref (He.fAd K ("read_peal", none))) = true := (fx_at c.more 10 13 (l := hx10) (f := fx213) rfl rfl)
  have g_a17 : PySem.W.nsIn K mainGlobals "_law_opened" = some (some (.ref (He.fAd K ("_law_opened", none)))) := He.eqO_ok (fx_at c.more 10 14 (l := hx10) (f := fx214) rfl rfl)
  have g_k17 : PySem.W.keepIn K (.ref (He.fAd K ("_law_opened", none))) = true := (fx_at c.more 10 15 (l := hx10) (f := fx215) rfl rfl)
  have g_a18 : PySem.W.nsIn K mainGlobals "_law_pull" = some (some (.ref (He.fAd K ("_law_pull", none)))) := He.eqO_ok (fx_at c.more 10 16 (l := hx10) (f := fx216) rfl rfl)
  have g_k18 : PySem.W.keepIn K (.ref (He.fAd K ("_law_pull", none))) = true := (fx_at c.more 10 17 (l := hx10) (f := fx217) rfl rfl)
  have g_a19 : PySem.W.nsIn K mainGlobals "_law_spelt" = some (some (.ref (He.fAd K ("_law_spelt", none)))) := He.eqO_ok (fx_at c.more 10 18 (l := hx10) (f := fx218) rfl rfl)
  have g_k19 : PySem.W.keepIn K (.ref (He.fAd K ("_law_spelt", none))) = true := (fx_at c.more 10 19 (l := hx10) (f := fx219) rfl rfl)
  have g_a20 : PySem.W.nsIn K mainGlobals "_law_calls" = some (some (.ref (He.fAd K ("_law_calls", none)))) := He.eqO_ok (fx_at c.more 11 0 (l := hx11) (f := fx220) rfl rfl)
  have g_k20 : PySem.W.keepIn K (.ref (He.fAd K ("_law_calls", none))) = true := (fx_at c.more 11 1 (l := hx11) (f := fx221) rfl rfl)
  have g_a21 : PySem.W.nsIn K mainGlobals "_law_figure" = some (some (.ref (He.fAd K ("_law_figure", none)))) := He.eqO_ok (fx_at c.more 11 2 (l := hx11) (f := fx222) rfl rfl)
  have g_k21 : PySem.W.keepIn K (.ref (He.fAd K ("_law_figure", none))) = true := (fx_at c.more 11 3 (l := hx11) (f := fx223) rfl rfl)
  have g_a22 : PySem.W.nsIn K mainGlobals "_law_kit" = some (some (.ref (He.fAd K ("_law_kit", none)))) := He.eqO_ok (fx_at c.more 11 4 (l := hx11) (f := fx224) rfl rfl)
  have g_k22 : PySem.W.keepIn K (.ref (He.fAd K ("_law_kit", none))) = true := (fx_at c.more 11 5 (l := hx11) (f := fx225) rfl rfl)
  have g_a23 : PySem.W.nsIn K mainGlobals "_law_sort" = some (some (.ref (He.fAd K ("_law_sort", none)))) := He.eqO_ok (fx_at c.more 11 6 (l := hx11) (f := fx226) rfl rfl)
  have g_k23 : PySem.W.keepIn K (.ref (He.fAd K ("_law_sort", none))) = true := (fx_at c.more 11 7 (l := hx11) (f := fx227) rfl rfl)
  have g_a24 : PySem.W.nsIn K mainGlobals "_law_text" = some (some (.ref (He.fAd K ("_law_text", none)))) := He.eqO_ok (fx_at c.more 11 8 (l := hx11) (f := fx228) rfl rfl)
  have g_k24 : PySem.W.keepIn K (.ref (He.fAd K ("_law_text", none))) = true := (fx_at c.more 11 9 (l := hx11) (f := fx229) rfl rfl)
  have g_a25 : PySem.W.nsIn K mainGlobals "_law_is_call" = some (some (.ref (He.fAd K ("_law_is_call", none)))) := He.eqO_ok (fx_at c.more 11 10 (l := hx11) (f := fx230) rfl rfl)
  have g_k25 : PySem.W.keepIn K (.ref (He.fAd K ("_law_is_call", none))) = true := (fx_at c.more 11 11 (l := hx11) (f := fx231) rfl rfl)
  have g_a26 : PySem.W.nsIn K mainGlobals "_law_worth_of" = some (some (.ref (He.fAd K ("_law_worth_of", none)))) := He.eqO_ok (fx_at c.more 11 12 (l := hx11) (f := fx232) rfl rfl)
  have g_k26 : PySem.W.keepIn K (.ref (He.fAd K ("_law_worth_of", none))) = true := (fx_at c.more 11 13 (l := hx11) (f := fx233) rfl rfl)
  have g_a27 : PySem.W.nsIn K mainGlobals "_law_read" = some (some (.ref (He.fAd K ("_law_read", none)))) := He.eqO_ok (fx_at c.more 11 14 (l := hx11) (f := fx234) rfl rfl)
  have g_k27 : PySem.W.keepIn K (.ref (He.fAd K ("_law_read", none))) = true := (fx_at c.more 11 15 (l := hx11) (f := fx235) rfl rfl)
  have g_a28 : PySem.W.nsIn K mainGlobals "_law_read_right" = some (some (.ref (He.fAd K ("_law_read_right", none)))) := He.eqO_ok (fx_at c.more 11 16 (l := hx11) (f := fx236) rfl rfl)
  have g_k28 : PySem.W.keepIn K (.ref (He.fAd K ("_law_read_right", none))) = true := (fx_at c.more 11 17 (l := hx11) (f := fx237) rfl rfl)
  have g_a29 : PySem.W.nsIn K mainGlobals "_law_right" = some (some (.ref (He.fAd K ("_law_right", none)))) := He.eqO_ok (fx_at c.more 11 18 (l := hx11) (f := fx238) rfl rfl)
  have g_k29 : PySem.W.keepIn K (.ref (He.fAd K ("_law_right", none))) = true := (fx_at c.more 11 19 (l := hx11) (f := fx239) rfl rfl)
  have g_a30 : PySem.W.nsIn K mainGlobals "law" = some (some (.ref (He.fAd K ("law", none)))) := He.eqO_ok (fx_at c.more 12 0 (l := hx12) (f := fx240) rfl rfl)
  have g_k30 : PySem.W.keepIn K (.ref (He.fAd K ("law", none))) = true := (fx_at c.more 12 1 (l := hx12) (f := fx241) rfl rfl)
  have g_z0 : PySem.W.nsIn K mainGlobals "int" = some none := He.eqO_ok (fx_at c.more 12 2 (l := hx12) (f := fx242) rfl rfl)
  have g_z1 : PySem.W.nsIn K mainGlobals "isinstance" = some none := He.eqO_ok (fx_at c.more 12 3 (l := hx12) (f := fx243) rfl rfl)
  have g_z2 : PySem.W.nsIn K mainGlobals "bool" = some none := He.eqO_ok (fx_at c.more 12 4 (l := hx12) (f := fx244) rfl rfl)
  have g_z3 : PySem.W.nsIn K mainGlobals "str" = some none := He.eqO_ok (fx_at c.more 12 5 (l := hx12) (f := fx245) rfl rfl)
  have g_z4 : PySem.W.nsIn K mainGlobals "len" = some none := He.eqO_ok (fx_at c.more 12 6 (l := hx12) (f := fx246) rfl rfl)
  have g_z5 : PySem.W.nsIn K mainGlobals "all" = some none := He.eqO_ok (fx_at c.more 12 7 (l := hx12) (f := fx247) rfl rfl)
  have g_z6 : PySem.W.nsIn K mainGlobals "tuple" = some none := He.eqO_ok (fx_at c.more 12 8 (l := hx12) (f := fx248) rfl rfl)
  have g_z7 : PySem.W.nsIn K mainGlobals "enumerate" = some none := He.eqO_ok (fx_at c.more 12 9 (l := hx12) (f := fx249) rfl rfl)
  have g_z8 : PySem.W.nsIn K mainGlobals "dict" = some none := He.eqO_ok (fx_at c.more 12 10 (l := hx12) (f := fx250) rfl rfl)
  have g_z9 : PySem.W.nsIn K mainGlobals "abs" = some none := He.eqO_ok (fx_at c.more 12 11 (l := hx12) (f := fx251) rfl rfl)
  have g_z10 : PySem.W.nsIn K mainGlobals "divmod" = some none := He.eqO_ok (fx_at c.more 12 12 (l := hx12) (f := fx252) rfl rfl)
  have g_z11 : PySem.W.nsIn K mainGlobals "range" = some none := He.eqO_ok (fx_at c.more 12 13 (l := hx12) (f := fx253) rfl rfl)
  have g_z12 : PySem.W.nsIn K mainGlobals "sorted" = some none := He.eqO_ok (fx_at c.more 12 14 (l := hx12) (f := fx254) rfl rfl)
  have g_z13 : PySem.W.nsIn K mainGlobals "ValueError" = some none := He.eqO_ok (fx_at c.more 12 15 (l := hx12) (f := fx255) rfl rfl)
  have g_z14 : PySem.W.nsIn K mainGlobals "LookupError" = some none := He.eqO_ok (fx_at c.more 12 16 (l := hx12) (f := fx256) rfl rfl)
  have g_z15 : PySem.W.nsIn K mainGlobals "ArithmeticError" = some none := He.eqO_ok (fx_at c.more 12 17 (l := hx12) (f := fx257) rfl rfl)
  have g_z16 : PySem.W.nsIn K mainGlobals "repr" = some none := He.eqO_ok (fx_at c.more 12 18 (l := hx12) (f := fx258) rfl rfl)
  have g_z17 : PySem.W.nsIn K mainGlobals "min" = some none := He.eqO_ok (fx_at c.more 12 19 (l := hx12) (f := fx259) rfl rfl)
  have g_z18 : PySem.W.nsIn K mainGlobals "max" = some none := He.eqO_ok (fx_at c.more 13 0 (l := hx13) (f := fx260) rfl rfl)
  obtain ⟨_, g_q0⟩ := fInt_ok (fx_at c.more 13 1 (l := hx13) (f := fx261) rfl rfl)
  obtain ⟨_, g_q1⟩ := fStr_ok (fx_at c.more 13 2 (l := hx13) (f := fx262) rfl rfl)
  obtain ⟨_, g_q2⟩ := fStr_ok (fx_at c.more 13 3 (l := hx13) (f := fx263) rfl rfl)
  obtain ⟨_, g_q3⟩ := fInt_ok (fx_at c.more 13 4 (l := hx13) (f := fx264) rfl rfl)
  obtain ⟨_, g_q4⟩ := fInt_ok (fx_at c.more 13 5 (l := hx13) (f := fx265) rfl rfl)
  obtain ⟨_, g_q5⟩ := fInt_ok (fx_at c.more 13 6 (l := hx13) (f := fx266) rfl rfl)
  obtain ⟨_, g_q6⟩ := fInt_ok (fx_at c.more 13 7 (l := hx13) (f := fx267) rfl rfl)
  exact all_mk X G hfa g_gc_Peal g_p1_Peal g_p2_Peal g_p3_Peal g_p4_Peal g_p5_Peal g_p6_Peal g_p7_Peal g_p8_Peal g_p9_Peal g_pa_Peal g_pn_Peal g_no1_Peal g_no2_Peal g_no3_Peal g_no4_Peal g_no5_Peal g_n_Peal_bells g_n_Peal_notches g_n_Peal_sizes g_n_Peal_turning g_gc_NoPeal g_gc_NoBells g_gc_NoNotches g_gc_NoText g_gc_NoStanding g_gc_NoRow g_gc_NoDials g_gc_NoRings g_gc_NoCourse g_gc_NoNumber g_gc_NoModuli g_gc_NoVectors g_gc_NoVector g_gc_NoWeights g_gc_NoTruth g_gc_NoHistories g_gc_NoDeed g_gc_NoLog g_gc_NoSay g_gc_NoName g_gc_NoPlace g_gc_NoBack g_gc_TooMany g_gc_BellError g_gc_LostError g_gc_GreatError g_sB_BellError g_hD_BellError g_tY_BellError g_sU_NoText_BellError g_gA_NoText g_gG_NoText g_sB_NoText g_hD_NoText g_cC_NoText g_cN g_cT g_cM_NoText g_iC_NoPeal g_tY_NoPeal g_sU_NoText_NoText g_sU_NoText_NoPeal g_iC_NoBells g_tY_NoBells g_sU_NoText_NoBells g_iC_NoNotches g_tY_NoNotches g_sU_NoText_NoNotches g_iC_NoStanding g_tY_NoStanding g_sU_NoText_NoStanding g_iC_NoRow g_tY_NoRow g_sU_NoText_NoRow g_iC_NoDials g_tY_NoDials g_sU_NoText_NoDials g_iC_NoRings g_tY_NoRings g_sU_NoText_NoRings g_iC_NoCourse g_tY_NoCourse g_sU_NoText_NoCourse g_iC_NoNumber g_tY_NoNumber g_sU_NoText_NoNumber g_iC_NoModuli g_tY_NoModuli g_sU_NoText_NoModuli g_iC_NoVectors g_tY_NoVectors g_sU_NoText_NoVectors g_iC_NoVector g_tY_NoVector g_sU_NoText_NoVector g_iC_NoWeights g_tY_NoWeights g_sU_NoText_NoWeights g_iC_NoTruth g_tY_NoTruth g_sU_NoText_NoTruth g_iC_NoHistories g_tY_NoHistories g_sU_NoText_NoHistories g_iC_NoDeed g_tY_NoDeed g_sU_NoText_NoDeed g_iC_NoLog g_tY_NoLog g_sU_NoText_NoLog g_iC_NoSay g_tY_NoSay g_sU_NoText_NoSay g_iC_NoName g_tY_NoName g_sU_NoText_NoName g_iC_NoPlace g_tY_NoPlace g_sU_NoText_NoPlace g_iC_NoBack g_tY_NoBack g_sU_NoText_NoBack g_iC_TooMany g_tY_TooMany g_sU_NoText_TooMany g_iC_BellError g_iC_LostError g_tY_LostError g_sU_NoText_LostError g_iC_GreatError g_tY_GreatError g_sU_NoText_GreatError g_sU_NoText_ValueError g_sU_NoText_LookupError g_sU_NoText_ArithmeticError g_nF_NoText g_xL_NoText g_sA_NoText g_tY_NoText g_kP_NoText g_bS_BellError g_bR_BellError g_bF_BellError g_a0 g_t0 g_l0 g_c0 g_k0 g_a1 g_l1 g_c1 g_k1 g_a2 g_l2 g_c2 g_k2 g_a3 g_l3 g_c3 g_k3 g_a4 g_l4 g_c4 g_k4 g_a5 g_l5 g_c5 g_k5 g_a6 g_l6 g_c6 g_k6 g_a7 g_l7 g_c7 g_k7 g_a8 g_l8 g_c8 g_k8 g_a9 g_i9 g_l9 g_c9 g_k9 g_t9 g_a10 g_i10 g_l10 g_c10 g_k10 g_a11 g_i11 g_l11 g_c11 g_k11 g_a12 g_i12 g_l12 g_c12 g_k12 g_a13 g_l13 g_c13 g_k13 g_a14 g_l14 g_c14 g_k14 g_a15 g_l15 g_c15 g_k15 g_a16 g_l16 g_c16 g_k16 g_a17 g_l17 g_c17 g_k17 g_a18 g_l18 g_c18 g_k18 g_a19 g_l19 g_c19 g_k19 g_a20 g_l20 g_c20 g_k20 g_a21 g_l21 g_c21 g_k21 g_a22 g_l22 g_c22 g_k22 g_a23 g_l23 g_c23 g_k23 g_a24 g_l24 g_c24 g_k24 g_a25 g_l25 g_c25 g_k25 g_a26 g_l26 g_c26 g_k26 g_a27 g_l27 g_c27 g_k27 g_a28 g_l28 g_c28 g_k28 g_a29 g_l29 g_c29 g_k29 g_a30 g_l30 g_c30 g_k30 g_z0 g_z1 g_z2 g_z3 g_z4 g_z5 g_z6 g_z7 g_z8 g_z9 g_z10 g_z11 g_z12 g_z13 g_z14 g_z15 g_z16 g_z17 g_z18 g_q0 g_q1 g_q2 g_q3 g_q4 g_q5 g_q6
end K05
open PySem PySem.W PyProof.Rows
set_option maxHeartbeats 0 in
theorem PySem.Challenge.cw_sincerung_k05_texts_written_and_read_holds : PySem.Challenge.rw_sincerung_k05_texts_written_and_read.Holds := by
  w_on; o_law
  refine HandSHeadRun.head_any (r := H05.hR) (q := H05.hqv) (H := H05.hhk) (ob := H05.hob) (M := 30000) (loose := H05.hnames) (kwd := []) H05.hob_eq (by kernel_rfl) (fun s => by kernel_rfl) H05.hrun (by rfl) (by rfl) (by rfl) (by rfl) (by first | assumption | decide +kernel) (by decide +kernel) ⟨rfl, rfl, rfl, rfl, rfl, by decide +kernel⟩ ?hw ?hc
  case hw => w_witness2
  case hc => exact Kx.walk_ofTX (l := PySem.Challenge.rw_sincerung_k05_texts_written_and_read) (n := 63) (k := 11) (x := "_law_script") rfl (by decide) rfl ⟨rfl, by decide, by decide⟩ fun w mg fa h Y G hmg => let ⟨K, KX, c⟩ := Y; ⟨K, KX, K05.gathered KX G hmg c⟩
end
