import PyProof.Rows.All
import HandS.Text
import Wide.All
import OpenK.AllK
import Wide.FinOn
import HandS.ForMost
import HandS.Walk
import HandS.Zip
import HandS.IsInst
import HandS.Deep
import HandS.Style
import HandS.WideBits
import HandS.TupAny
import KE.GoesEnum
import KE.GoesMore
import HandS.Wide
import KE.KTupSum
import HandS.Strs
import HandS.DictComp
import KE.KDictPairs
import HandS.Defaults
import KE.DataCmp
import KE.KDictWalk
import PyProof.ReprRoads
import PyProof.ReprLen
import HandS.TupMul
import HandS.TryOnly
import KE.KSortTupG
import KE.KDictSum
import HandS.WordsExc
import HandS.Small
import HandS.ExcInit
import HandS.HotCalls
import HandS.ExcIs
import HandS.ExcField
import KE.KExcIs
import HandS.ExcCtx
import HandS.Hot
import HandS.MakeKwOnly
import HandS.ExcInitHot
import KE.KTryMore
import HandS.Lambda
import HandS.EndTab
import KE.KNestM
import KE.KExcInit
import HandS.Flow
import HandS.Head0
import HandS.Head1
import HandS.Head2
import HandS.HeadHook4
import HandS.FStr
import KE.KFmtOwn
import PySem.Challenge.RW_sincerung_k16_courses_as_texts
set_option Elab.async false
set_option linter.all false
set_option maxRecDepth 100000
section
set_option maxHeartbeats 2000000
namespace Kx
open PySem PySem.Spec PyProof.Rows L2
/-! ### what the head's one run tells, by names -/
abbrev FX := PySem.W.Frag → Bool
def fxOk (fs : List (List FX)) (K : PySem.W.Frag) : Bool := fs.all fun l => l.all fun f => f K
theorem fx_at {fs : List (List FX)} {K : PySem.W.Frag} (h : fxOk fs K = true) (i j : Nat) {l : List FX} {f : FX} (e : fs[i]? = some l) (e2 : l[j]? = some f) : f K = true :=
  List.all_eq_true.mp (List.all_eq_true.mp h l (List.mem_of_getElem? e)) f (List.mem_of_getElem? e2)
theorem def_at {fn : List He.DefD} {K : PySem.W.Frag} (D : fn.map (fun d => He.fnW K d.at_) = fn.map He.DefD.val) (i : Nat) {d : He.DefD} (h : fn[i]? = some d) : He.fnW K d.at_ = d.val := by
  have e : (fn.map fun d => He.fnW K d.at_)[i]? = (fn.map He.DefD.val)[i]? := by rw [D]
  rw [List.getElem?_map, List.getElem?_map, h] at e
  exact Option.some.inj e
def fInt (x : Str) (i : Int) : FX := fun K => match PySem.W.nsIn K mainGlobals x with
  | some (some (.int j _)) => decide (j = i)
  | _ => false
theorem fInt_ok {K : PySem.W.Frag} {x : Str} {i : Int} (h : fInt x i K = true) : ∃ t, PySem.W.nsIn K mainGlobals x = some (some (.int i t)) := by
  unfold fInt at h
  split at h
  · next j t e => exact ⟨t, by rw [e, of_decide_eq_true h]⟩
  · cases h
def fStr (x z : Str) : FX := fun K => match PySem.W.nsIn K mainGlobals x with
  | some (some (.str y _)) => decide (y = z)
  | _ => false
theorem fStr_ok {K : PySem.W.Frag} {x z : Str} (h : fStr x z K = true) : ∃ t, PySem.W.nsIn K mainGlobals x = some (some (.str z t)) := by
  unfold fStr at h
  split at h
  · next j t e => exact ⟨t, by rw [e, of_decide_eq_true h]⟩
  · cases h
def fCls (C M : PySem.W.Frag → Value) (x : Str) (v : Value) : FX := fun K => match PySem.W.findCls K (C K) (M K) x with
  | some (.val u) => decide (u = v)
  | _ => false
theorem fCls_ok {K : PySem.W.Frag} {C M : PySem.W.Frag → Value} {x : Str} {v : Value} (h : fCls C M x v K = true) : PySem.W.findCls K (C K) (M K) x = some (.val v) := by
  unfold fCls at h
  split at h
  · next u e => rw [e, of_decide_eq_true h]
  · cases h
def isSix (newId : String) : List (Option Value) → Bool
  | [_, _, _, _, some (.builtin n), _] => decide (n = newId)
  | _ => false
theorem isSix_ok {newId : String} {l : List (Option Value)} (h : isSix newId l = true) : ∃ k0 k1 k2 k3 k5, l = [k0, k1, k2, k3, some (.builtin newId), k5] := by
  unfold isSix at h
  split at h
  · exact ⟨_, _, _, _, _, by rw [of_decide_eq_true h]⟩
  · cases h
def fExc (C : PySem.W.Frag → Addr) (mro : PySem.W.Frag → List Value) (newId : String) : FX := fun K => match K.lookup (C K) with
  | some ⟨.type t, _, .cls cd, sl⟩ => decide (t = "type") && (decide (cd.mro = .ref (C K) :: mro K) && (cd.hasDict && (!cd.hasDel && isSix newId sl.toList)))
  | _ => false
theorem fExc_ok {K : PySem.W.Frag} {C : PySem.W.Frag → Addr} {mro : PySem.W.Frag → List Value} {newId : String} (h : fExc C mro newId K = true) :
    ∃ nm q N bs sn sub ab col dd k0 k1 k2 k3 k5, K.lookup (C K) = some (excClassObj nm q (C K) N bs (mro K) true sn sub ab col dd k0 k1 k2 k3 k5 newId) := by
  unfold fExc at h
  split at h
  · next t dd cd sl e =>
    obtain ⟨h1, h⟩ := Bool.and_eq_true_iff.mp h
    obtain ⟨h2, h⟩ := Bool.and_eq_true_iff.mp h
    obtain ⟨h3, h⟩ := Bool.and_eq_true_iff.mp h
    obtain ⟨h4, h5⟩ := Bool.and_eq_true_iff.mp h
    obtain ⟨k0, k1, k2, k3, k5, hs⟩ := isSix_ok h5
    have h1 := of_decide_eq_true h1
    have h2 := of_decide_eq_true h2
    obtain ⟨nm, bs, mr, ns, qn, hd, sn, sub, ab, col, del⟩ := cd
    dsimp only at h2 h3 h4
    have h4 : del = false := by cases del; rfl; cases h4
    subst h1 h2 h3 h4
    obtain ⟨l⟩ := sl
    dsimp only at hs
    subst hs
    exact ⟨nm, qn, ns, bs, sn, sub, ab, col, dd, k0, k1, k2, k3, k5, e⟩
  · cases h
/-- a def's function object: its code's name, no defaults -/
def fDef (p : He.Defn) (q : Str) : FX := fun K => match K.lookup (He.fAd K p) with
  | some ⟨_, _, .func fd, _⟩ => PySem.W.codeIn K fd.code q && (match fd.defaults with
    | .none => true
    | _ => false)
  | _ => false
theorem fDef_ok {K : PySem.W.Frag} {p : He.Defn} {q nm qn : Str} {ar : Arguments} {bd : List Stmt} {sc : Scope} (e : He.fnW K p = some (nm, qn, ar, .stmts bd, sc, mainGlobals, [], builtinsNs)) (h : fDef p q K = true) :
    ∃ oc od sl kV dc pm an cd ct, K.lookup (He.fAd K p) = some ⟨oc, od, .func (PySem.W.fnOf nm qn ar bd sc .none kV dc pm an cd ct), sl⟩ ∧ PySem.W.codeIn K cd q = true := by
  unfold fDef at h
  unfold He.fnW at e
  split at h
  · next oc od fd sl e1 =>
    rw [e1] at e
    obtain ⟨n1, n2, n3, n4, n5, n6, n7, n8, n9, n10, n11, n12, n13, n14, n15⟩ := fd
    obtain ⟨h1, h2⟩ := Bool.and_eq_true_iff.mp h
    have e2 : (some (n1, n2, n3, n4, n5, n6, n7, n15) : He.FnW) = some (nm, qn, ar, .stmts bd, sc, mainGlobals, [], builtinsNs) := e
    simp only [Option.some.injEq, Prod.mk.injEq] at e2
    obtain ⟨g1, g2, g3, g4, g5, g6, g7, g8⟩ := e2
    subst g1 g2 g3 g4 g5 g6 g7 g8
    dsimp only at h1 h2
    have h3 : n8 = .none := by
      split at h2
      · rfl
      · cases h2
    subst h3
    exact ⟨oc, od, sl, n9, n10, n11, n12, n13, n14, e1, h1⟩
  · cases h
def fDef1 (p : He.Defn) (q : Str) : FX := fun K => match K.lookup (He.fAd K p) with
  | some ⟨_, _, .func fd, _⟩ => PySem.W.codeIn K fd.code q && (match fd.defaults with
    | .ref T => (match K.lookup T with
      | some ⟨_, _, .seq its _, _⟩ => (match its.toList with
        | [.ref _] => true
        | _ => false)
      | _ => false)
    | _ => false)
  | _ => false
theorem fDef1_ok {K : PySem.W.Frag} {p : He.Defn} {q nm qn : Str} {ar : Arguments} {bd : List Stmt} {sc : Scope} (e : He.fnW K p = some (nm, qn, ar, .stmts bd, sc, mainGlobals, [], builtinsNs)) (h : fDef1 p q K = true) :
    ∃ oc od sl kV dc pm an cd ct T E cc dt nt st, K.lookup (He.fAd K p) = some ⟨oc, od, .func (PySem.W.fnOf nm qn ar bd sc (.ref T) kV dc pm an cd ct), sl⟩ ∧ PySem.W.codeIn K cd q = true ∧ K.lookup T = some ⟨cc, dt, .seq #[.ref E] nt, st⟩ ∧ E = He.dflAt p 0 K := by
  unfold fDef1 at h
  unfold He.fnW at e
  split at h
  · next oc od fd sl e1 =>
    rw [e1] at e
    obtain ⟨n1, n2, n3, n4, n5, n6, n7, n8, n9, n10, n11, n12, n13, n14, n15⟩ := fd
    obtain ⟨h1, h2⟩ := Bool.and_eq_true_iff.mp h
    have e2 : (some (n1, n2, n3, n4, n5, n6, n7, n15) : He.FnW) = some (nm, qn, ar, .stmts bd, sc, mainGlobals, [], builtinsNs) := e
    simp only [Option.some.injEq, Prod.mk.injEq] at e2
    obtain ⟨g1, g2, g3, g4, g5, g6, g7, g8⟩ := e2
    subst g1 g2 g3 g4 g5 g6 g7 g8
    dsimp only at h1 h2
    split at h2
    · next T =>
      split at h2
      · next cc dt its nt st e3 =>
        split at h2
        · next E e4 =>
          obtain ⟨l⟩ := its
          dsimp only at e4
          subst e4
          refine ⟨oc, od, sl, n9, n10, n11, n12, n13, n14, T, E, cc, dt, nt, st, e1, h1, e3, ?_⟩
          unfold He.dflAt
          rw [e1]
          dsimp only
          rw [e3]
          rfl
        · cases h2
      · cases h2
    · cases h2
  · cases h
def fTup0 (A : PySem.W.Frag → Addr) : FX := fun K => match K.lookup (A K) with
  | some ⟨.type t, none, .seq its _, _⟩ => decide (t = "tuple") && its.isEmpty
  | _ => false
theorem fTup0_ok {K : PySem.W.Frag} {A : PySem.W.Frag → Addr} (h : fTup0 A K = true) : ∃ nn sn, K.lookup (A K) = some ⟨.type "tuple", none, .seq #[] nn, sn⟩ := by
  unfold fTup0 at h
  split at h
  · next t its nn sn e =>
    obtain ⟨h1, h2⟩ := Bool.and_eq_true_iff.mp h
    rw [of_decide_eq_true h1, Array.isEmpty_iff.mp h2] at e
    exact ⟨nn, sn, e⟩
  · cases h
/-- a def's code object and its table -/
def fCT (p : He.Defn) : FX := fun K => match K.lookup (He.codeOf K p) with
  | some ⟨.type c, _, .fields vs, _⟩ => decide (c = "code") && (match (vs[11]? : Option Value) with
    | some (.ref _) => true
    | _ => false)
  | _ => false
theorem fCT_ok {K : PySem.W.Frag} {p : He.Defn} (h : fCT p K = true) : ∃ dC vC sC, K.lookup (He.codeOf K p) = some ⟨.type "code", dC, .fields vC, sC⟩ ∧ (vC[11]? : Option Value) = some (.ref (He.cT K p).2) := by
  unfold fCT at h
  split at h
  · next c dC vs sC e =>
    obtain ⟨h1, h2⟩ := Bool.and_eq_true_iff.mp h
    have h1 := of_decide_eq_true h1
    subst h1
    split at h2
    · next P e2 =>
      refine ⟨dC, vs, sC, e, ?_⟩
      rw [e2]
      have : (He.cT K p).2 = P := by
        show He.tabOf K (He.codeOf K p) = P
        unfold He.tabOf
        rw [e]
        dsimp only
        have : vs.getD 11 .none = .ref P := by
          rw [Array.getD_eq_getD_getElem?, e2]
          rfl
        rw [this]
      rw [this]
    · cases h2
  · cases h
theorem code_ref {K : PySem.W.Frag} {p : He.Defn} {oc : Value} {od : Option Addr} {sl : Array (Option Value)} {nm qn q : Str} {ar : Arguments} {bd : List Stmt} {sc : Scope} {dV kV dc pm cd ct : Value} {an : Option Addr}
    (l : K.lookup (He.fAd K p) = some ⟨oc, od, .func (PySem.W.fnOf nm qn ar bd sc dV kV dc pm an cd ct), sl⟩) (c : PySem.W.codeIn K cd q = true) : cd = .ref (He.codeOf K p) := by
  obtain ⟨a, rfl⟩ := He.codeIn_ref c
  rw [He.codeOf_eq l rfl]
/-! ### the Hook: what the module's names reach, and the statics -/
def asY (g : Addr → Option Obj) (n : Nat) : List Addr := cStatics :: He.asD g n
abbrev frY (g : Addr → Option Obj) (n : Nat) : PySem.W.Frag := He.frT g (asY g n)
def obsY (n : Nat) (fn : List He.DefD) (tf : List He.Defn) (ex : FX) (g : Addr → Option Obj) : He.AlX := (fun K => (He.obsT [] fn [] K, ex K && He.tabsB g tf K)) (frY g n)
theorem saysY_of {n : Nat} {fn : List He.DefD} {tf : List He.Defn} {ex : FX} {w : World} {h : Heap} (e : obsY n fn tf ex h.get? = He.valX fn [] w) : He.SaysX [] fn [] tf ex w h (frY h.get? n) := by
  have e1 : He.obsT [] fn [] (frY h.get? n) = He.valT fn [] w := congrArg (fun z : He.AlX => z.1) e
  have e2 : (ex (frY h.get? n) && He.tabsB h.get? tf (frY h.get? n)) = true := congrArg (fun z : He.AlX => z.2) e
  obtain ⟨h1, h2⟩ := Bool.and_eq_true_iff.mp e2
  have key : ∀ p ∈ tf, PySem.W.codeHdIn (frY h.get? n) (He.cT (frY h.get? n) p).1 (He.cT (frY h.get? n) p).2 = true ∧ ∃ o, h.get? (He.cT (frY h.get? n) p).2 = some o ∧ He.emptyTab o = true := fun p hp => by
    obtain ⟨h3, h4⟩ := Bool.and_eq_true_iff.mp (List.all_eq_true.mp h2 p hp)
    refine ⟨h3, ?_⟩
    cases q : h.get? (He.cT (frY h.get? n) p).2 with
    | none =>
      rw [q] at h4
      cases h4
    | some o =>
      rw [q] at h4
      exact ⟨o, rfl, h4⟩
  exact ⟨e1, h1, fun p hp => (key p hp).1, fun p hp => by
    obtain ⟨_, o, q, z⟩ := key p hp
    exact He.frT_none q z, fun p hp => by
    obtain ⟨_, o, q, z⟩ := key p hp
    rw [q, He.emptyTab_eq z]⟩
def hookY (n : Nat) (fn : List He.DefD) (tf : List He.Defn) (ex : FX) : PySem.W.Hook where
  α := He.AlX
  obs := fun s => obsY n fn tf ex s.heap.get?
  val := fun w => He.valX fn [] w
  says := fun w h => ∃ K : PySem.W.Frag, K.In h ∧ He.SaysX [] fn [] tf ex w h K
  of := fun _ _ e => ⟨_, He.frT_in, saysY_of e⟩
  keeps := fun _ _ _ ⟨K, hK, c⟩ k => ⟨K, PySem.W.Frag.In.keeps hK k, ⟨c.t, c.more, c.hd, c.out, fun p hp => k _ _ (c.empty p hp)⟩⟩
theorem obsY_eq {n : Nat} {fn : List He.DefD} {tf : List He.Defn} {ex : FX} {g : Addr → Option Obj} {s : Shared} (h : ∀ a, g a = s.heap.get? a) : obsY n fn tf ex g = (hookY n fn tf ex).obs s := by
  have e : g = s.heap.get? := funext h
  rw [e] <;> rfl
/-- the run in two halves: each half's run is told by itself -/
def runA (r : PySem.W.OpenRow) (q : Program) (fn : List He.DefD) (ob : PySem.W.SharedT → He.AlX) (M : Nat) (loose : List Str) (w : World) : Prop :=
  ∀ os : OsState, Option.map (fun s => (HandSHeadRun.looksF r.prog (PySem.W.boot_heap w.params) s.abs, HandSHeadRun.seenQ q loose (importedModules r.prog.main.body) (fun s => PySem.W.xlAt q [] s && PySem.W.recOk r.records s) s.abs, (ob s).1)) (HandSHeadRun.endF (HandSHeadRun.stepQ (HandSHeadRun.denQ HandSHeadRun.tabQ) r.prog w) M r.prog w os) = some (true, PySem.W.openGood q loose, (He.valX fn [] w).1)
def runB (r : PySem.W.OpenRow) (fn : List He.DefD) (ob : PySem.W.SharedT → He.AlX) (M : Nat) (w : World) : Prop :=
  ∀ os : OsState, Option.map (fun s => (ob s).2) (HandSHeadRun.endF (HandSHeadRun.stepQ (HandSHeadRun.denQ HandSHeadRun.tabQ) r.prog w) M r.prog w os) = some (He.valX fn [] w).2
theorem runAB {r : PySem.W.OpenRow} {q : Program} {n : Nat} {fn : List He.DefD} {tf : List He.Defn} {ex : FX} {ob : PySem.W.SharedT → He.AlX} {M : Nat} {loose : List Str} {w : World}
    (A : runA r q fn ob M loose w) (B : runB r fn ob M w) : HandSHeadRun.RunEq r q (hookY n fn tf ex) ob M loose w := by
  intro os
  have a := A os
  have b := B os
  show Option.map (fun s => (HandSHeadRun.looksF r.prog (PySem.W.boot_heap w.params) s.abs, HandSHeadRun.seenQ q loose (importedModules r.prog.main.body) (fun s => PySem.W.xlAt q [] s && PySem.W.recOk r.records s) s.abs, (ob s : He.AlX))) _ = some (true, PySem.W.openGood q loose, (He.valX fn [] w : He.AlX))
  generalize HandSHeadRun.endF (HandSHeadRun.stepQ (HandSHeadRun.denQ HandSHeadRun.tabQ) r.prog w) M r.prog w os = e at a b ⊢
  cases e with
  | none => cases a
  | some s =>
    simp only [Option.map_some, Option.some.injEq, Prod.mk.injEq] at a b ⊢
    exact ⟨a.1, a.2.1, Prod.ext a.2.2 b⟩
end Kx
end
section
set_option maxHeartbeats 4000000
namespace H16
open PySem L2 Kx
def topS (i : Nat) : Stmt := PySem.Challenge.pw_sincerung_k16_courses_as_texts.main.body.getD i (.Pass ⟨0, 0, 0, 0⟩)
abbrev s_NoText___init__ : Stmt := inClass (topS 18) 0
abbrev s_is_whole : Stmt := topS 39
abbrev s_is_within : Stmt := topS 40
abbrev s_is_name : Stmt := topS 41
abbrev s_is_bell : Stmt := topS 43
abbrev s_check_bells : Stmt := topS 44
abbrev s_is_notch : Stmt := topS 45
abbrev s_check_notches : Stmt := topS 46
abbrev s_Peal___init__ : Stmt := inClass (topS 47) 0
abbrev s_check_peal : Stmt := topS 48
abbrev s_parts_in : Stmt := topS 52
abbrev s_fits_course : Stmt := topS 53
abbrev s_check_course : Stmt := topS 54
abbrev s_part_text : Stmt := topS 58
abbrev s_course_text : Stmt := topS 59
abbrev s_show_course : Stmt := topS 60
abbrev s_end_of : Stmt := topS 61
abbrev s_part_read : Stmt := topS 62
abbrev s_course_read : Stmt := topS 63
abbrev s_read_course : Stmt := topS 64
abbrev s__law_sort : Stmt := topS 66
abbrev s__law_caught : Stmt := topS 67
abbrev s__law_opened : Stmt := topS 68
abbrev s__law_pull : Stmt := topS 69
abbrev s__law_spelt : Stmt := topS 70
abbrev s__law_calls : Stmt := topS 71
abbrev s__law_figure : Stmt := topS 72
abbrev s__law_kit : Stmt := topS 73
abbrev s__law_tune : Stmt := topS 74
abbrev s__law_same : Stmt := topS 75
abbrev s__law_text_of : Stmt := topS 76
abbrev s__law_one_right : Stmt := topS 77
abbrev s__law_deep : Stmt := topS 78
abbrev s__law_right : Stmt := topS 79
abbrev s_law : Stmt := topS 80
def fx0 : FX := fDef ("NoText", some "__init__") "NoText.__init__"
def fx1 : FX := fDef ("is_whole", none) "is_whole"
def fx2 : FX := fDef ("is_within", none) "is_within"
def fx3 : FX := fDef ("is_name", none) "is_name"
def fx4 : FX := fDef ("is_bell", none) "is_bell"
def fx5 : FX := fDef ("check_bells", none) "check_bells"
def fx6 : FX := fDef ("is_notch", none) "is_notch"
def fx7 : FX := fDef ("check_notches", none) "check_notches"
def fx8 : FX := fDef1 ("Peal", some "__init__") "Peal.__init__"
def fx9 : FX := fDef ("check_peal", none) "check_peal"
def fx10 : FX := fDef ("parts_in", none) "parts_in"
def fx11 : FX := fDef ("fits_course", none) "fits_course"
def fx12 : FX := fDef ("check_course", none) "check_course"
def fx13 : FX := fDef ("part_text", none) "part_text"
def fx14 : FX := fDef ("course_text", none) "course_text"
def fx15 : FX := fDef ("show_course", none) "show_course"
def fx16 : FX := fDef ("end_of", none) "end_of"
def fx17 : FX := fDef ("part_read", none) "part_read"
def fx18 : FX := fDef ("course_read", none) "course_read"
def fx19 : FX := fDef ("read_course", none) "read_course"
def fx20 : FX := fDef ("_law_sort", none) "_law_sort"
def fx21 : FX := fDef ("_law_caught", none) "_law_caught"
def fx22 : FX := fDef ("_law_opened", none) "_law_opened"
def fx23 : FX := fDef ("_law_pull", none) "_law_pull"
def fx24 : FX := fDef ("_law_spelt", none) "_law_spelt"
def fx25 : FX := fDef ("_law_calls", none) "_law_calls"
def fx26 : FX := fDef ("_law_figure", none) "_law_figure"
def fx27 : FX := fDef ("_law_kit", none) "_law_kit"
def fx28 : FX := fDef ("_law_tune", none) "_law_tune"
def fx29 : FX := fDef ("_law_same", none) "_law_same"
def fx30 : FX := fDef ("_law_text_of", none) "_law_text_of"
def fx31 : FX := fDef ("_law_one_right", none) "_law_one_right"
def fx32 : FX := fDef ("_law_deep", none) "_law_deep"
def fx33 : FX := fDef ("_law_right", none) "_law_right"
def fx34 : FX := fDef ("law", none) "law"
def fx35 : FX := fCT ("_law_one_right", none)
def fx36 : FX := fun K => He.eqO (PySem.W.nsIn K mainGlobals "Peal") (some (some (.ref (He.ga K "Peal"))))
def fx37 : FX := fun K => PySem.W.plainGet K (He.ga K "Peal") Str.empty
def fx38 : FX := fun K => PySem.W.hasDictIn K (He.ga K "Peal")
def fx39 : FX := fun K => PySem.W.plainOver K (He.ga K "Peal")
def fx40 : FX := fun K => He.eqO (PySem.W.findIn K (.ref (He.ga K "Peal")) "__setattr__") (some (some (.builtin "object.__setattr__")))
def fx41 : FX := fun K => PySem.W.makesIn K (He.ga K "Peal")
def fx42 : FX := fun K => PySem.W.keepIn K (.ref (He.ga K "Peal"))
def fx43 : FX := fun K => He.eqO (PySem.W.findIn K (.ref (He.ga K "Peal")) "__class__") (some (some (.builtin "object.__class__")))
def fx44 : FX := fun K => He.eqO (PySem.W.specialIn K (.builtin "object.__class__") "__get__") (some (some (.builtin "getset_descriptor.__get__")))
def fx45 : FX := fun K => decide (PySem.W.takesIn K (.builtin "object.__class__") = some true)
def fx46 : FX := fun K => decide (PySem.W.mroIn K (He.ga K "Peal") (.type "object") = some true)
def fx47 : FX := fun K => He.eqO (PySem.W.findIn K (.ref (He.ga K "Peal")) "bells") (some none)
def fx48 : FX := fun K => He.eqO (PySem.W.findIn K (.ref (He.ga K "Peal")) "notches") (some none)
def fx49 : FX := fun K => He.eqO (PySem.W.findIn K (.ref (He.ga K "Peal")) "sizes") (some none)
def fx50 : FX := fun K => He.eqO (PySem.W.findIn K (.ref (He.ga K "Peal")) "turning") (some none)
def fx51 : FX := fun K => He.eqO (PySem.W.nsIn K mainGlobals "NoPeal") (some (some (.ref (He.ga K "NoPeal"))))
def fx52 : FX := fun K => He.eqO (PySem.W.nsIn K mainGlobals "NoBells") (some (some (.ref (He.ga K "NoBells"))))
def fx53 : FX := fun K => He.eqO (PySem.W.nsIn K mainGlobals "NoNotches") (some (some (.ref (He.ga K "NoNotches"))))
def fx54 : FX := fun K => He.eqO (PySem.W.nsIn K mainGlobals "NoText") (some (some (.ref (He.ga K "NoText"))))
def fx55 : FX := fun K => He.eqO (PySem.W.nsIn K mainGlobals "NoStanding") (some (some (.ref (He.ga K "NoStanding"))))
def fx56 : FX := fun K => He.eqO (PySem.W.nsIn K mainGlobals "NoRow") (some (some (.ref (He.ga K "NoRow"))))
def fx57 : FX := fun K => He.eqO (PySem.W.nsIn K mainGlobals "NoDials") (some (some (.ref (He.ga K "NoDials"))))
def fx58 : FX := fun K => He.eqO (PySem.W.nsIn K mainGlobals "NoRings") (some (some (.ref (He.ga K "NoRings"))))
def fx59 : FX := fun K => He.eqO (PySem.W.nsIn K mainGlobals "NoCourse") (some (some (.ref (He.ga K "NoCourse"))))
def fx60 : FX := fun K => He.eqO (PySem.W.nsIn K mainGlobals "NoNumber") (some (some (.ref (He.ga K "NoNumber"))))
def fx61 : FX := fun K => He.eqO (PySem.W.nsIn K mainGlobals "NoModuli") (some (some (.ref (He.ga K "NoModuli"))))
def fx62 : FX := fun K => He.eqO (PySem.W.nsIn K mainGlobals "NoVectors") (some (some (.ref (He.ga K "NoVectors"))))
def fx63 : FX := fun K => He.eqO (PySem.W.nsIn K mainGlobals "NoVector") (some (some (.ref (He.ga K "NoVector"))))
def fx64 : FX := fun K => He.eqO (PySem.W.nsIn K mainGlobals "NoWeights") (some (some (.ref (He.ga K "NoWeights"))))
def fx65 : FX := fun K => He.eqO (PySem.W.nsIn K mainGlobals "NoTruth") (some (some (.ref (He.ga K "NoTruth"))))
def fx66 : FX := fun K => He.eqO (PySem.W.nsIn K mainGlobals "NoHistories") (some (some (.ref (He.ga K "NoHistories"))))
def fx67 : FX := fun K => He.eqO (PySem.W.nsIn K mainGlobals "NoDeed") (some (some (.ref (He.ga K "NoDeed"))))
def fx68 : FX := fun K => He.eqO (PySem.W.nsIn K mainGlobals "NoLog") (some (some (.ref (He.ga K "NoLog"))))
def fx69 : FX := fun K => He.eqO (PySem.W.nsIn K mainGlobals "NoSay") (some (some (.ref (He.ga K "NoSay"))))
def fx70 : FX := fun K => He.eqO (PySem.W.nsIn K mainGlobals "NoName") (some (some (.ref (He.ga K "NoName"))))
def fx71 : FX := fun K => He.eqO (PySem.W.nsIn K mainGlobals "NoPlace") (some (some (.ref (He.ga K "NoPlace"))))
def fx72 : FX := fun K => He.eqO (PySem.W.nsIn K mainGlobals "NoBack") (some (some (.ref (He.ga K "NoBack"))))
def fx73 : FX := fun K => He.eqO (PySem.W.nsIn K mainGlobals "TooMany") (some (some (.ref (He.ga K "TooMany"))))
def fx74 : FX := fun K => He.eqO (PySem.W.nsIn K mainGlobals "BellError") (some (some (.ref (He.ga K "BellError"))))
def fx75 : FX := fun K => He.eqO (PySem.W.nsIn K mainGlobals "LostError") (some (some (.ref (He.ga K "LostError"))))
def fx76 : FX := fun K => He.eqO (PySem.W.nsIn K mainGlobals "GreatError") (some (some (.ref (He.ga K "GreatError"))))
def fx77 : FX := fun K => decide (PySem.W.subIn K (.ref (He.ga K "BellError")) (.type "BaseException") = some true)
def fx78 : FX := fun K => PySem.W.hasDictIn K (He.ga K "BellError")
def fx79 : FX := fun K => decide (PySem.W.typeIn K (.ref (He.ga K "BellError")) = some (.type "type"))
def fx80 : FX := fun K => decide (PySem.W.subIn K (.ref (He.ga K "NoText")) (.ref (He.ga K "BellError")) = some true)
def fx81 : FX := fun K => decide (PySem.W.subIn K (.ref (He.ga K "LostError")) (.type "BaseException") = some true)
def fx82 : FX := fun K => PySem.W.hasDictIn K (He.ga K "LostError")
def fx83 : FX := fun K => decide (PySem.W.typeIn K (.ref (He.ga K "LostError")) = some (.type "type"))
def fx84 : FX := fun K => decide (PySem.W.subIn K (.ref (He.ga K "NoText")) (.ref (He.ga K "LostError")) = some false)
def fx85 : FX := fun K => decide (PySem.W.subIn K (.ref (He.ga K "GreatError")) (.type "BaseException") = some true)
def fx86 : FX := fun K => PySem.W.hasDictIn K (He.ga K "GreatError")
def fx87 : FX := fun K => decide (PySem.W.typeIn K (.ref (He.ga K "GreatError")) = some (.type "type"))
def fx88 : FX := fun K => decide (PySem.W.subIn K (.ref (He.ga K "NoText")) (.ref (He.ga K "GreatError")) = some false)
def fx89 : FX := fun K => He.eqO (PySem.W.findIn K (.ref (He.ga K "NoText")) "__getattribute__") (some (some (.builtin "BaseException.__getattribute__")))
def fx90 : FX := fun K => He.eqO (PySem.W.findIn K (.ref (He.ga K "NoText")) "__getattr__") (some none)
def fx91 : FX := fun K => decide (PySem.W.subIn K (.ref (He.ga K "NoText")) (.type "BaseException") = some true)
def fx92 : FX := fun K => PySem.W.hasDictIn K (He.ga K "NoText")
def fx93 : FX := fun K => He.eqO (PySem.W.findIn K (.ref (He.ga K "NoText")) "__class__") (some (some (.builtin "object.__class__")))
def fx94 : FX := fun K => He.eqO (PySem.W.specialIn K (.builtin "object.__class__") "__get__") (some (some (.builtin "getset_descriptor.__get__")))
def fx95 : FX := fun K => decide (PySem.W.takesIn K (.builtin "object.__class__") = some true)
def fx96 : FX := fun K => decide (PySem.W.mroIn K (He.ga K "NoText") (.type "object") = some true)
def fx97 : FX := fun K => PySem.W.isClsIn K (He.ga K "NoPeal")
def fx98 : FX := fun K => decide (PySem.W.typeIn K (.ref (He.ga K "NoPeal")) = some (.type "type"))
def fx99 : FX := fun K => decide (PySem.W.subIn K (.ref (He.ga K "NoText")) (.ref (He.ga K "NoText")) = some true)
def fx100 : FX := fun K => decide (PySem.W.subIn K (.ref (He.ga K "NoText")) (.ref (He.ga K "NoPeal")) = some false)
def fx101 : FX := fun K => PySem.W.isClsIn K (He.ga K "NoBells")
def fx102 : FX := fun K => decide (PySem.W.typeIn K (.ref (He.ga K "NoBells")) = some (.type "type"))
def fx103 : FX := fun K => decide (PySem.W.subIn K (.ref (He.ga K "NoText")) (.ref (He.ga K "NoBells")) = some false)
def fx104 : FX := fun K => PySem.W.isClsIn K (He.ga K "NoNotches")
def fx105 : FX := fun K => decide (PySem.W.typeIn K (.ref (He.ga K "NoNotches")) = some (.type "type"))
def fx106 : FX := fun K => decide (PySem.W.subIn K (.ref (He.ga K "NoText")) (.ref (He.ga K "NoNotches")) = some false)
def fx107 : FX := fun K => PySem.W.isClsIn K (He.ga K "NoStanding")
def fx108 : FX := fun K => decide (PySem.W.typeIn K (.ref (He.ga K "NoStanding")) = some (.type "type"))
def fx109 : FX := fun K => decide (PySem.W.subIn K (.ref (He.ga K "NoText")) (.ref (He.ga K "NoStanding")) = some false)
def fx110 : FX := fun K => PySem.W.isClsIn K (He.ga K "NoRow")
def fx111 : FX := fun K => decide (PySem.W.typeIn K (.ref (He.ga K "NoRow")) = some (.type "type"))
def fx112 : FX := fun K => decide (PySem.W.subIn K (.ref (He.ga K "NoText")) (.ref (He.ga K "NoRow")) = some false)
def fx113 : FX := fun K => PySem.W.isClsIn K (He.ga K "NoDials")
def fx114 : FX := fun K => decide (PySem.W.typeIn K (.ref (He.ga K "NoDials")) = some (.type "type"))
def fx115 : FX := fun K => decide (PySem.W.subIn K (.ref (He.ga K "NoText")) (.ref (He.ga K "NoDials")) = some false)
def fx116 : FX := fun K => PySem.W.isClsIn K (He.ga K "NoRings")
def fx117 : FX := fun K => decide (PySem.W.typeIn K (.ref (He.ga K "NoRings")) = some (.type "type"))
def fx118 : FX := fun K => decide (PySem.W.subIn K (.ref (He.ga K "NoText")) (.ref (He.ga K "NoRings")) = some false)
def fx119 : FX := fun K => PySem.W.isClsIn K (He.ga K "NoCourse")
def fx120 : FX := fun K => decide (PySem.W.typeIn K (.ref (He.ga K "NoCourse")) = some (.type "type"))
def fx121 : FX := fun K => decide (PySem.W.subIn K (.ref (He.ga K "NoText")) (.ref (He.ga K "NoCourse")) = some false)
def fx122 : FX := fun K => PySem.W.isClsIn K (He.ga K "NoNumber")
def fx123 : FX := fun K => decide (PySem.W.typeIn K (.ref (He.ga K "NoNumber")) = some (.type "type"))
def fx124 : FX := fun K => decide (PySem.W.subIn K (.ref (He.ga K "NoText")) (.ref (He.ga K "NoNumber")) = some false)
def fx125 : FX := fun K => PySem.W.isClsIn K (He.ga K "NoModuli")
def fx126 : FX := fun K => decide (PySem.W.typeIn K (.ref (He.ga K "NoModuli")) = some (.type "type"))
def fx127 : FX := fun K => decide (PySem.W.subIn K (.ref (He.ga K "NoText")) (.ref (He.ga K "NoModuli")) = some false)
def fx128 : FX := fun K => PySem.W.isClsIn K (He.ga K "NoVectors")
def fx129 : FX := fun K => decide (PySem.W.typeIn K (.ref (He.ga K "NoVectors")) = some (.type "type"))
def fx130 : FX := fun K => decide (PySem.W.subIn K (.ref (He.ga K "NoText")) (.ref (He.ga K "NoVectors")) = some false)
def fx131 : FX := fun K => PySem.W.isClsIn K (He.ga K "NoVector")
def fx132 : FX := fun K => decide (PySem.W.typeIn K (.ref (He.ga K "NoVector")) = some (.type "type"))
def fx133 : FX := fun K => decide (PySem.W.subIn K (.ref (He.ga K "NoText")) (.ref (He.ga K "NoVector")) = some false)
def fx134 : FX := fun K => PySem.W.isClsIn K (He.ga K "NoWeights")
def fx135 : FX := fun K => decide (PySem.W.typeIn K (.ref (He.ga K "NoWeights")) = some (.type "type"))
def fx136 : FX := fun K => decide (PySem.W.subIn K (.ref (He.ga K "NoText")) (.ref (He.ga K "NoWeights")) = some false)
def fx137 : FX := fun K => PySem.W.isClsIn K (He.ga K "NoTruth")
def fx138 : FX := fun K => decide (PySem.W.typeIn K (.ref (He.ga K "NoTruth")) = some (.type "type"))
def fx139 : FX := fun K => decide (PySem.W.subIn K (.ref (He.ga K "NoText")) (.ref (He.ga K "NoTruth")) = some false)
def fx140 : FX := fun K => PySem.W.isClsIn K (He.ga K "NoHistories")
def fx141 : FX := fun K => decide (PySem.W.typeIn K (.ref (He.ga K "NoHistories")) = some (.type "type"))
def fx142 : FX := fun K => decide (PySem.W.subIn K (.ref (He.ga K "NoText")) (.ref (He.ga K "NoHistories")) = some false)
def fx143 : FX := fun K => PySem.W.isClsIn K (He.ga K "NoDeed")
def fx144 : FX := fun K => decide (PySem.W.typeIn K (.ref (He.ga K "NoDeed")) = some (.type "type"))
def fx145 : FX := fun K => decide (PySem.W.subIn K (.ref (He.ga K "NoText")) (.ref (He.ga K "NoDeed")) = some false)
def fx146 : FX := fun K => PySem.W.isClsIn K (He.ga K "NoLog")
def fx147 : FX := fun K => decide (PySem.W.typeIn K (.ref (He.ga K "NoLog")) = some (.type "type"))
def fx148 : FX := fun K => decide (PySem.W.subIn K (.ref (He.ga K "NoText")) (.ref (He.ga K "NoLog")) = some false)
def fx149 : FX := fun K => PySem.W.isClsIn K (He.ga K "NoSay")
def fx150 : FX := fun K => decide (PySem.W.typeIn K (.ref (He.ga K "NoSay")) = some (.type "type"))
def fx151 : FX := fun K => decide (PySem.W.subIn K (.ref (He.ga K "NoText")) (.ref (He.ga K "NoSay")) = some false)
def fx152 : FX := fun K => PySem.W.isClsIn K (He.ga K "NoName")
def fx153 : FX := fun K => decide (PySem.W.typeIn K (.ref (He.ga K "NoName")) = some (.type "type"))
def fx154 : FX := fun K => decide (PySem.W.subIn K (.ref (He.ga K "NoText")) (.ref (He.ga K "NoName")) = some false)
def fx155 : FX := fun K => PySem.W.isClsIn K (He.ga K "NoPlace")
def fx156 : FX := fun K => decide (PySem.W.typeIn K (.ref (He.ga K "NoPlace")) = some (.type "type"))
def fx157 : FX := fun K => decide (PySem.W.subIn K (.ref (He.ga K "NoText")) (.ref (He.ga K "NoPlace")) = some false)
def fx158 : FX := fun K => PySem.W.isClsIn K (He.ga K "NoBack")
def fx159 : FX := fun K => decide (PySem.W.typeIn K (.ref (He.ga K "NoBack")) = some (.type "type"))
def fx160 : FX := fun K => decide (PySem.W.subIn K (.ref (He.ga K "NoText")) (.ref (He.ga K "NoBack")) = some false)
def fx161 : FX := fun K => PySem.W.isClsIn K (He.ga K "TooMany")
def fx162 : FX := fun K => decide (PySem.W.typeIn K (.ref (He.ga K "TooMany")) = some (.type "type"))
def fx163 : FX := fun K => decide (PySem.W.subIn K (.ref (He.ga K "NoText")) (.ref (He.ga K "TooMany")) = some false)
def fx164 : FX := fun K => PySem.W.isClsIn K (He.ga K "BellError")
def fx165 : FX := fun K => PySem.W.isClsIn K (He.ga K "LostError")
def fx166 : FX := fun K => PySem.W.isClsIn K (He.ga K "GreatError")
def fx167 : FX := fun K => decide (PySem.W.subIn K (.ref (He.ga K "NoText")) (.type "ValueError") = some true)
def fx168 : FX := fun K => decide (PySem.W.subIn K (.ref (He.ga K "NoText")) (.type "LookupError") = some false)
def fx169 : FX := fun K => decide (PySem.W.subIn K (.ref (He.ga K "NoText")) (.type "ArithmeticError") = some false)
def fx170 : FX := fun K => He.eqO (PySem.W.findIn K (.ref (He.ga K "NoText")) "row") (some none)
def fx171 : FX := fExc (fun K => (He.ga K "NoText")) (fun K => [.ref (He.ga K "BellError"), .type "ValueError", .type "Exception", .type "BaseException", .type "object"]) "ValueError.__new__"
def fx172 : FX := fun K => He.eqO (PySem.W.findIn K (.ref (He.ga K "NoText")) "__setattr__") (some (some (.builtin "object.__setattr__")))
def fx173 : FX := fun K => decide (PySem.W.typeIn K (.ref (He.ga K "NoText")) = some (.type "type"))
def fx174 : FX := fun K => PySem.W.keepIn K (.ref (He.ga K "NoText"))
def fx175 : FX := fun K => He.eqO (PySem.W.specialIn K (.ref (He.ga K "BellError")) "__getattribute__") (some (some (.builtin "type.__getattribute__")))
def fx176 : FX := fun K => PySem.W.readsIn K (He.ga K "BellError") (.type "type")
def fx177 : FX := fCls (fun K => (.ref (He.ga K "BellError"))) (fun K => (.type "type")) "__init__" (.builtin "ValueError.__init__")
def fx178 : FX := fun K => He.eqO (PySem.W.findIn K (.ref (He.ga K "NoText")) "__init__") (some (some (.ref (He.fAd K ("NoText", some "__init__")))))
def fx179 : FX := fun K => decide (PySem.W.typeIn K (.ref (He.fAd K ("NoText", some "__init__"))) = some (.type "function"))
def fx180 : FX := fun K => PySem.W.keepIn K (.ref (He.fAd K ("NoText", some "__init__")))
def fx181 : FX := fun K => He.eqO (PySem.W.nsIn K mainGlobals "is_whole") (some (some (.ref (He.fAd K ("is_whole", none)))))
def fx182 : FX := fun K => PySem.W.keepIn K (.ref (He.fAd K ("is_whole", none)))
def fx183 : FX := fun K => He.eqO (PySem.W.nsIn K mainGlobals "is_within") (some (some (.ref (He.fAd K ("is_within", none)))))
def fx184 : FX := fun K => PySem.W.keepIn K (.ref (He.fAd K ("is_within", none)))
def fx185 : FX := fun K => He.eqO (PySem.W.nsIn K mainGlobals "is_name") (some (some (.ref (He.fAd K ("is_name", none)))))
def fx186 : FX := fun K => PySem.W.keepIn K (.ref (He.fAd K ("is_name", none)))
def fx187 : FX := fun K => He.eqO (PySem.W.nsIn K mainGlobals "is_bell") (some (some (.ref (He.fAd K ("is_bell", none)))))
def fx188 : FX := fun K => PySem.W.keepIn K (.ref (He.fAd K ("is_bell", none)))
def fx189 : FX := fun K => He.eqO (PySem.W.nsIn K mainGlobals "check_bells") (some (some (.ref (He.fAd K ("check_bells", none)))))
def fx190 : FX := fun K => PySem.W.keepIn K (.ref (He.fAd K ("check_bells", none)))
def fx191 : FX := fun K => He.eqO (PySem.W.nsIn K mainGlobals "is_notch") (some (some (.ref (He.fAd K ("is_notch", none)))))
def fx192 : FX := fun K => PySem.W.keepIn K (.ref (He.fAd K ("is_notch", none)))
def fx193 : FX := fun K => He.eqO (PySem.W.nsIn K mainGlobals "check_notches") (some (some (.ref (He.fAd K ("check_notches", none)))))
def fx194 : FX := fun K => PySem.W.keepIn K (.ref (He.fAd K ("check_notches", none)))
def fx195 : FX := fun K => He.eqO (PySem.W.findIn K (.ref (He.ga K "Peal")) "__init__") (some (some (.ref (He.fAd K ("Peal", some "__init__")))))
def fx196 : FX := fun K => PySem.W.isFn K (.ref (He.fAd K ("Peal", some "__init__")))
def fx197 : FX := fun K => PySem.W.keepIn K (.ref (He.fAd K ("Peal", some "__init__")))
def fx198 : FX := fTup0 (He.dflAt ("Peal", some "__init__") 0)
def fx199 : FX := fun K => He.eqO (PySem.W.nsIn K mainGlobals "check_peal") (some (some (.ref (He.fAd K ("check_peal", none)))))
def fx200 : FX := fun K => PySem.W.keepIn K (.ref (He.fAd K ("check_peal", none)))
def fx201 : FX := fun K => He.eqO (PySem.W.nsIn K mainGlobals "parts_in") (some (some (.ref (He.fAd K ("parts_in", none)))))
def fx202 : FX := fun K => PySem.W.keepIn K (.ref (He.fAd K ("parts_in", none)))
def fx203 : FX := fun K => He.eqO (PySem.W.nsIn K mainGlobals "fits_course") (some (some (.ref (He.fAd K ("fits_course", none)))))
def fx204 : FX := fun K => PySem.W.keepIn K (.ref (He.fAd K ("fits_course", none)))
def fx205 : FX := fun K => He.eqO (PySem.W.nsIn K mainGlobals "check_course") (some (some (.ref (He.fAd K ("check_course", none)))))
def fx206 : FX := fun K => PySem.W.keepIn K (.ref (He.fAd K ("check_course", none)))
def fx207 : FX := fun K => He.eqO (PySem.W.nsIn K mainGlobals "part_text") (some (some (.ref (He.fAd K ("part_text", none)))))
def fx208 : FX := fun K => PySem.W.keepIn K (.ref (He.fAd K ("part_text", none)))
def fx209 : FX := fun K => He.eqO (PySem.W.nsIn K mainGlobals "course_text") (some (some (.ref (He.fAd K ("course_text", none)))))
def fx210 : FX := fun K => PySem.W.keepIn K (.ref (He.fAd K ("course_text", none)))
def fx211 : FX := fun K => He.eqO (PySem.W.nsIn K mainGlobals "show_course") (some (some (.ref (He.fAd K ("show_course", none)))))
def fx212 : FX := fun K => PySem.W.keepIn K (.ref (He.fAd K ("show_course", none)))
def fx213 : FX := fun K => He.eqO (PySem.W.nsIn K mainGlobals "end_of") (some (some (.ref (He.fAd K ("end_of", none)))))
def fx214 : FX := fun K => PySem.W.keepIn K (.ref (He.fAd K ("end_of", none)))
def fx215 : FX := fun K => He.eqO (PySem.W.nsIn K mainGlobals "part_read") (some (some (.ref (He.fAd K ("part_read", none)))))
def fx216 : FX := fun K => PySem.W.keepIn K (.ref (He.fAd K ("part_read", none)))
def fx217 : FX := fun K => He.eqO (PySem.W.nsIn K mainGlobals "course_read") (some (some (.ref (He.fAd K ("course_read", none)))))
def fx218 : FX := fun K => PySem.W.keepIn K (.ref (He.fAd K ("course_read", none)))
def fx219 : FX := fun K => He.eqO (PySem.W.nsIn K mainGlobals "read_course") (some (some (.ref (He.fAd K ("read_course", none)))))
def fx220 : FX := fun K => PySem.W.keepIn K (.ref (He.fAd K ("read_course", none)))
def fx221 : FX := fun K => He.eqO (PySem.W.nsIn K mainGlobals "_law_sort") (some (some (.ref (He.fAd K ("_law_sort", none)))))
def fx222 : FX := fun K => PySem.W.keepIn K (.ref (He.fAd K ("_law_sort", none)))
def fx223 : FX := fun K => He.eqO (PySem.W.nsIn K mainGlobals "_law_caught") (some (some (.ref (He.fAd K ("_law_caught", none)))))
def fx224 : FX := fun K => PySem.W.keepIn K (.ref (He.fAd K ("_law_caught", none)))
def fx225 : FX := fun K => He.eqO (PySem.W.nsIn K mainGlobals "_law_opened") (some (some (.ref (He.fAd K ("_law_opened", none)))))
def fx226 : FX := fun K => PySem.W.keepIn K (.ref (He.fAd K ("_law_opened", none)))
def fx227 : FX := fun K => He.eqO (PySem.W.nsIn K mainGlobals "_law_pull") (some (some (.ref (He.fAd K ("_law_pull", none)))))
def fx228 : FX := fun K => PySem.W.keepIn K (.ref (He.fAd K ("_law_pull", none)))
def fx229 : FX := fun K => He.eqO (PySem.W.nsIn K mainGlobals "_law_spelt") (some (some (.ref (He.fAd K ("_law_spelt", none)))))
def fx230 : FX := fun K => PySem.W.keepIn K (.ref (He.fAd K ("_law_spelt", none)))
def fx231 : FX := fun K => He.eqO (PySem.W.nsIn K mainGlobals "_law_calls") (some (some (.ref (He.fAd K ("_law_calls", none)))))
def fx232 : FX := fun K => PySem.W.keepIn K (.ref (He.fAd K ("_law_calls", none)))
def fx233 : FX := fun K => He.eqO (PySem.W.nsIn K mainGlobals "_law_figure") (some (some (.ref (He.fAd K ("_law_figure", none)))))
def fx234 : FX := fun K => PySem.W.keepIn K (.ref (He.fAd K ("_law_figure", none)))
def fx235 : FX := fun K => He.eqO (PySem.W.nsIn K mainGlobals "_law_kit") (some (some (.ref (He.fAd K ("_law_kit", none)))))
def fx236 : FX := fun K => PySem.W.keepIn K (.ref (He.fAd K ("_law_kit", none)))
def fx237 : FX := fun K => He.eqO (PySem.W.nsIn K mainGlobals "_law_tune") (some (some (.ref (He.fAd K ("_law_tune", none)))))
def fx238 : FX := fun K => PySem.W.keepIn K (.ref (He.fAd K ("_law_tune", none)))
def fx239 : FX := fun K => He.eqO (PySem.W.nsIn K mainGlobals "_law_same") (some (some (.ref (He.fAd K ("_law_same", none)))))
def fx240 : FX := fun K => PySem.W.keepIn K (.ref (He.fAd K ("_law_same", none)))
def fx241 : FX := fun K => He.eqO (PySem.W.nsIn K mainGlobals "_law_text_of") (some (some (.ref (He.fAd K ("_law_text_of", none)))))
def fx242 : FX := fun K => PySem.W.keepIn K (.ref (He.fAd K ("_law_text_of", none)))
def fx243 : FX := fun K => He.eqO (PySem.W.nsIn K mainGlobals "_law_one_right") (some (some (.ref (He.fAd K ("_law_one_right", none)))))
def fx244 : FX := fun K => PySem.W.keepIn K (.ref (He.fAd K ("_law_one_right", none)))
def fx245 : FX := fun K => He.eqO (PySem.W.nsIn K mainGlobals "_law_deep") (some (some (.ref (He.fAd K ("_law_deep", none)))))
def fx246 : FX := fun K => PySem.W.keepIn K (.ref (He.fAd K ("_law_deep", none)))
def fx247 : FX := fun K => He.eqO (PySem.W.nsIn K mainGlobals "_law_right") (some (some (.ref (He.fAd K ("_law_right", none)))))
def fx248 : FX := fun K => PySem.W.keepIn K (.ref (He.fAd K ("_law_right", none)))
def fx249 : FX := fun K => He.eqO (PySem.W.nsIn K mainGlobals "law") (some (some (.ref (He.fAd K ("law", none)))))
def fx250 : FX := fun K => PySem.W.keepIn K (.ref (He.fAd K ("law", none)))
def fx251 : FX := fun K => He.eqO (PySem.W.nsIn K mainGlobals "int") (some none)
def fx252 : FX := fun K => He.eqO (PySem.W.nsIn K mainGlobals "isinstance") (some none)
def fx253 : FX := fun K => He.eqO (PySem.W.nsIn K mainGlobals "bool") (some none)
def fx254 : FX := fun K => He.eqO (PySem.W.nsIn K mainGlobals "str") (some none)
def fx255 : FX := fun K => He.eqO (PySem.W.nsIn K mainGlobals "len") (some none)
def fx256 : FX := fun K => He.eqO (PySem.W.nsIn K mainGlobals "all") (some none)
def fx257 : FX := fun K => He.eqO (PySem.W.nsIn K mainGlobals "tuple") (some none)
def fx258 : FX := fun K => He.eqO (PySem.W.nsIn K mainGlobals "enumerate") (some none)
def fx259 : FX := fun K => He.eqO (PySem.W.nsIn K mainGlobals "dict") (some none)
def fx260 : FX := fun K => He.eqO (PySem.W.nsIn K mainGlobals "ValueError") (some none)
def fx261 : FX := fun K => He.eqO (PySem.W.nsIn K mainGlobals "LookupError") (some none)
def fx262 : FX := fun K => He.eqO (PySem.W.nsIn K mainGlobals "ArithmeticError") (some none)
def fx263 : FX := fun K => He.eqO (PySem.W.nsIn K mainGlobals "repr") (some none)
def fx264 : FX := fun K => He.eqO (PySem.W.nsIn K mainGlobals "abs") (some none)
def fx265 : FX := fun K => He.eqO (PySem.W.nsIn K mainGlobals "divmod") (some none)
def fx266 : FX := fun K => He.eqO (PySem.W.nsIn K mainGlobals "range") (some none)
def fx267 : FX := fun K => He.eqO (PySem.W.nsIn K mainGlobals "sorted") (some none)
def fx268 : FX := fun K => He.eqO (PySem.W.nsIn K mainGlobals "min") (some none)
def fx269 : FX := fun K => He.eqO (PySem.W.nsIn K mainGlobals "max") (some none)
def fx270 : FX := fInt "MOST_LETTERS" (6)
def fx271 : FX := fStr "LETTERS" "abcdefghijklmnopqrstuvwxyz"
def fx272 : FX := fInt "LEAST_MARKS" (2)
def fx273 : FX := fInt "MOST_MARKS" (24)
def fx274 : FX := fInt "MOST_BELLS" (8)
def fx275 : FX := fInt "MOST_NUMBER" (99)
def fx276 : FX := fInt "MOST_WITHIN" (5)
def fx277 : FX := fInt "MOST_TIMES" (1000000000000000000000000000000)
def fx278 : FX := fInt "MOST_PARTS" (120)
def fx279 : FX := fStr "NOTHING" "-"
def fx280 : FX := fStr "FIGURES" "0123456789"
def fx281 : FX := fInt "MOST_TIMES_FIGURES" (31)
def hx0 : List FX := [fx0, fx1, fx2, fx3, fx4, fx5, fx6, fx7, fx8, fx9, fx10, fx11, fx12, fx13, fx14, fx15, fx16, fx17, fx18, fx19]
def hx1 : List FX := [fx20, fx21, fx22, fx23, fx24, fx25, fx26, fx27, fx28, fx29, fx30, fx31, fx32, fx33, fx34, fx35, fx36, fx37, fx38, fx39]
def hx2 : List FX := [fx40, fx41, fx42, fx43, fx44, fx45, fx46, fx47, fx48, fx49, fx50, fx51, fx52, fx53, fx54, fx55, fx56, fx57, fx58, fx59]
def hx3 : List FX := [fx60, fx61, fx62, fx63, fx64, fx65, fx66, fx67, fx68, fx69, fx70, fx71, fx72, fx73, fx74, fx75, fx76, fx77, fx78, fx79]
def hx4 : List FX := [fx80, fx81, fx82, fx83, fx84, fx85, fx86, fx87, fx88, fx89, fx90, fx91, fx92, fx93, fx94, fx95, fx96, fx97, fx98, fx99]
def hx5 : List FX := [fx100, fx101, fx102, fx103, fx104, fx105, fx106, fx107, fx108, fx109, fx110, fx111, fx112, fx113, fx114, fx115, fx116, fx117, fx118, fx119]
def hx6 : List FX := [fx120, fx121, fx122, fx123, fx124, fx125, fx126, fx127, fx128, fx129, fx130, fx131, fx132, fx133, fx134, fx135, fx136, fx137, fx138, fx139]
def hx7 : List FX := [fx140, fx141, fx142, fx143, fx144, fx145, fx146, fx147, fx148, fx149, fx150, fx151, fx152, fx153, fx154, fx155, fx156, fx157, fx158, fx159]
def hx8 : List FX := [fx160, fx161, fx162, fx163, fx164, fx165, fx166, fx167, fx168, fx169, fx170, fx171, fx172, fx173, fx174, fx175, fx176, fx177, fx178, fx179]
def hx9 : List FX := [fx180, fx181, fx182, fx183, fx184, fx185, fx186, fx187, fx188, fx189, fx190, fx191, fx192, fx193, fx194, fx195, fx196, fx197, fx198, fx199]
def hx10 : List FX := [fx200, fx201, fx202, fx203, fx204, fx205, fx206, fx207, fx208, fx209, fx210, fx211, fx212, fx213, fx214, fx215, fx216, fx217, fx218, fx219]
def hx11 : List FX := [fx220, fx221, fx222, fx223, fx224, fx225, fx226, fx227, fx228, fx229, fx230, fx231, fx232, fx233, fx234, fx235, fx236, fx237, fx238, fx239]
def hx12 : List FX := [fx240, fx241, fx242, fx243, fx244, fx245, fx246, fx247, fx248, fx249, fx250, fx251, fx252, fx253, fx254, fx255, fx256, fx257, fx258, fx259]
def hx13 : List FX := [fx260, fx261, fx262, fx263, fx264, fx265, fx266, fx267, fx268, fx269, fx270, fx271, fx272, fx273, fx274, fx275, fx276, fx277, fx278, fx279]
def hx14 : List FX := [fx280, fx281]
def hxs : List (List FX) := [hx0, hx1, hx2, hx3, hx4, hx5, hx6, hx7, hx8, hx9, hx10, hx11, hx12, hx13, hx14]
def hd0 : He.DefD := ⟨("NoText", some "__init__"), "__init__", "NoText.__init__", defArgs s_NoText___init__, defBody s_NoText___init__, defScope s_NoText___init__, [], []⟩
def hd1 : He.DefD := ⟨("is_whole", none), "is_whole", "is_whole", defArgs s_is_whole, defBody s_is_whole, defScope s_is_whole, [], []⟩
def hd2 : He.DefD := ⟨("is_within", none), "is_within", "is_within", defArgs s_is_within, defBody s_is_within, defScope s_is_within, [], []⟩
def hd3 : He.DefD := ⟨("is_name", none), "is_name", "is_name", defArgs s_is_name, defBody s_is_name, defScope s_is_name, [], []⟩
def hd4 : He.DefD := ⟨("is_bell", none), "is_bell", "is_bell", defArgs s_is_bell, defBody s_is_bell, defScope s_is_bell, [], []⟩
def hd5 : He.DefD := ⟨("check_bells", none), "check_bells", "check_bells", defArgs s_check_bells, defBody s_check_bells, defScope s_check_bells, [], []⟩
def hd6 : He.DefD := ⟨("is_notch", none), "is_notch", "is_notch", defArgs s_is_notch, defBody s_is_notch, defScope s_is_notch, [], []⟩
def hd7 : He.DefD := ⟨("check_notches", none), "check_notches", "check_notches", defArgs s_check_notches, defBody s_check_notches, defScope s_check_notches, [], []⟩
def hd8 : He.DefD := ⟨("Peal", some "__init__"), "__init__", "Peal.__init__", defArgs s_Peal___init__, defBody s_Peal___init__, defScope s_Peal___init__, [.adr (He.dflAt ("Peal", some "__init__") 0)], []⟩
def hd9 : He.DefD := ⟨("check_peal", none), "check_peal", "check_peal", defArgs s_check_peal, defBody s_check_peal, defScope s_check_peal, [], []⟩
def hd10 : He.DefD := ⟨("parts_in", none), "parts_in", "parts_in", defArgs s_parts_in, defBody s_parts_in, defScope s_parts_in, [], []⟩
def hd11 : He.DefD := ⟨("fits_course", none), "fits_course", "fits_course", defArgs s_fits_course, defBody s_fits_course, defScope s_fits_course, [], []⟩
def hd12 : He.DefD := ⟨("check_course", none), "check_course", "check_course", defArgs s_check_course, defBody s_check_course, defScope s_check_course, [], []⟩
def hd13 : He.DefD := ⟨("part_text", none), "part_text", "part_text", defArgs s_part_text, defBody s_part_text, defScope s_part_text, [], []⟩
def hd14 : He.DefD := ⟨("course_text", none), "course_text", "course_text", defArgs s_course_text, defBody s_course_text, defScope s_course_text, [], []⟩
def hd15 : He.DefD := ⟨("show_course", none), "show_course", "show_course", defArgs s_show_course, defBody s_show_course, defScope s_show_course, [], []⟩
def hd16 : He.DefD := ⟨("end_of", none), "end_of", "end_of", defArgs s_end_of, defBody s_end_of, defScope s_end_of, [], []⟩
def hd17 : He.DefD := ⟨("part_read", none), "part_read", "part_read", defArgs s_part_read, defBody s_part_read, defScope s_part_read, [], []⟩
def hd18 : He.DefD := ⟨("course_read", none), "course_read", "course_read", defArgs s_course_read, defBody s_course_read, defScope s_course_read, [], []⟩
def hd19 : He.DefD := ⟨("read_course", none), "read_course", "read_course", defArgs s_read_course, defBody s_read_course, defScope s_read_course, [], []⟩
def hd20 : He.DefD := ⟨("_law_sort", none), "_law_sort", "_law_sort", defArgs s__law_sort, defBody s__law_sort, defScope s__law_sort, [], []⟩
def hd21 : He.DefD := ⟨("_law_caught", none), "_law_caught", "_law_caught", defArgs s__law_caught, defBody s__law_caught, defScope s__law_caught, [], []⟩
def hd22 : He.DefD := ⟨("_law_opened", none), "_law_opened", "_law_opened", defArgs s__law_opened, defBody s__law_opened, defScope s__law_opened, [], []⟩
def hd23 : He.DefD := ⟨("_law_pull", none), "_law_pull", "_law_pull", defArgs s__law_pull, defBody s__law_pull, defScope s__law_pull, [], []⟩
def hd24 : He.DefD := ⟨("_law_spelt", none), "_law_spelt", "_law_spelt", defArgs s__law_spelt, defBody s__law_spelt, defScope s__law_spelt, [], []⟩
def hd25 : He.DefD := ⟨("_law_calls", none), "_law_calls", "_law_calls", defArgs s__law_calls, defBody s__law_calls, defScope s__law_calls, [], []⟩
def hd26 : He.DefD := ⟨("_law_figure", none), "_law_figure", "_law_figure", defArgs s__law_figure, defBody s__law_figure, defScope s__law_figure, [], []⟩
def hd27 : He.DefD := ⟨("_law_kit", none), "_law_kit", "_law_kit", defArgs s__law_kit, defBody s__law_kit, defScope s__law_kit, [], []⟩
def hd28 : He.DefD := ⟨("_law_tune", none), "_law_tune", "_law_tune", defArgs s__law_tune, defBody s__law_tune, defScope s__law_tune, [], []⟩
def hd29 : He.DefD := ⟨("_law_same", none), "_law_same", "_law_same", defArgs s__law_same, defBody s__law_same, defScope s__law_same, [], []⟩
def hd30 : He.DefD := ⟨("_law_text_of", none), "_law_text_of", "_law_text_of", defArgs s__law_text_of, defBody s__law_text_of, defScope s__law_text_of, [], []⟩
def hd31 : He.DefD := ⟨("_law_one_right", none), "_law_one_right", "_law_one_right", defArgs s__law_one_right, defBody s__law_one_right, defScope s__law_one_right, [], []⟩
def hd32 : He.DefD := ⟨("_law_deep", none), "_law_deep", "_law_deep", defArgs s__law_deep, defBody s__law_deep, defScope s__law_deep, [], []⟩
def hd33 : He.DefD := ⟨("_law_right", none), "_law_right", "_law_right", defArgs s__law_right, defBody s__law_right, defScope s__law_right, [], []⟩
def hd34 : He.DefD := ⟨("law", none), "law", "law", defArgs s_law, defBody s_law, defScope s_law, [], []⟩
def hfn0 : List He.DefD := [hd0, hd1, hd2, hd3, hd4, hd5, hd6, hd7, hd8, hd9, hd10, hd11, hd12, hd13, hd14, hd15, hd16, hd17, hd18, hd19]
def hfn1 : List He.DefD := [hd20, hd21, hd22, hd23, hd24, hd25, hd26, hd27, hd28, hd29, hd30, hd31, hd32, hd33, hd34]
abbrev hfn : List He.DefD := hfn0 ++ (hfn1)
abbrev htf : List He.Defn := [("_law_one_right", none)]
end H16
namespace H16
open PySem PySem.W PySem.Calls PyProof.Rows
abbrev hR : OpenRow := OpenLaw.row PySem.Challenge.rw_sincerung_k16_courses_as_texts
abbrev hqv : Program := view hR.prog [80]
def hn0 : List PySem.Str := ["_wall", "MOST_BELLS", "MOST_LETTERS", "LEAST_MARKS", "MOST_MARKS", "MOST_NUMBER", "MOST_TIMES", "MOST_WITHIN", "MOST_PARTS", "LETTERS", "FIGURES", "BellError", "LostError", "GreatError", "NoPeal", "NoBells", "NoNotches", "NoText", "NoStanding", "NoRow"]
def hn1 : List PySem.Str := ["NoDials", "NoRings", "NoCourse", "NoNumber", "NoModuli", "NoVectors", "NoVector", "NoWeights", "NoTruth", "NoHistories", "NoDeed", "NoLog", "NoSay", "NoName", "NoPlace", "NoBack", "TooMany", "is_whole", "is_within", "is_name"]
def hn2 : List PySem.Str := ["is_bell", "check_bells", "is_notch", "check_notches", "Peal", "check_peal", "check_name", "check_two", "parts_in", "fits_course", "check_course", "NOTHING", "MOST_TIMES_FIGURES", "part_text", "course_text", "show_course", "end_of", "part_read", "course_read", "read_course"]
def hn3 : List PySem.Str := ["_law_sort", "_law_caught", "_law_opened", "_law_pull", "_law_spelt", "_law_calls", "_law_figure", "_law_kit", "_law_tune", "_law_same", "_law_text_of", "_law_one_right", "_law_deep", "_law_right"]
abbrev hnames : List PySem.Str := hn0 ++ hn1 ++ hn2 ++ hn3
abbrev hhk : Hook := Kx.hookY 5 hfn htf (Kx.fxOk hxs)
def hob (s : SharedT) : He.AlX := Kx.obsY 5 hfn htf (Kx.fxOk hxs) (HandSHeadRun.getT s)
theorem hob_eq (s : SharedT) : hob s = hhk.obs s.abs := Kx.obsY_eq (HandSHeadRun.getT_eq s)
set_option maxHeartbeats 0 in
theorem hrunA (w : World) : Kx.runA hR hqv hfn hob 30000 hnames w := by
  intro os
  kernel_rfl
set_option maxHeartbeats 0 in
theorem hrunB (w : World) : Kx.runB hR hfn hob 30000 w := by
  intro os
  kernel_rfl
theorem hrun (w : World) : HandSHeadRun.RunEq hR hqv hhk hob 30000 hnames w := Kx.runAB (hrunA w) (hrunB w)
end H16
end
section
set_option maxHeartbeats 2000000
namespace Kx
open PySem L2 PySem.Spec PyProof.Rows
/-! ### tuples whose object is known to have no dict of its own: the making rules once more -/
section
variable {X : Cx} {K : PySem.W.Frag}
theorem frz_ok {P : Program} {w : World} {H : Hp} {h : Heap} {xs : List V} {its : List Value} (hz : xs.length ≤ sizeLine) (r : Vals xs its) :
    ObjOk P w H (h.push { cls := .type "tuple", data := .seq its.toArray }) h.objs.size (.frz { cls := .type "tuple", data := .seq its.toArray } (.tup xs)) :=
  ⟨Heap.get?_push_size _ rfl, hz, its, r, ⟨_, Heap.get?_push_size _ rfl, rfl, _, rfl⟩⟩
def tTupF (t : TA) : TE := fun σ H Q => t σ H fun xs H1 => xs.length ≤ sizeLine ∧ ∀ p o, H1 p = none → o.dict = none → Q (.ref p) (upd H1 p (.frz o (.tup xs)))
theorem pe_tupF {es : List Expr} {t : TA} {pos : Pos} {x1} (h : PA X es t) : PE X (.Tuple es x1 pos) (tTupF t) := by
  refine ⟨fun pins s σ H Q I hq => ?_⟩
  refine wpAny_Tuple_spliced (thn (h.run pos pins s σ H _ I hq) fun us s1 ⟨xs, H1, I1, r, z, q⟩ => ⟨by rw [← r.length]; exact z, ?_⟩)
  exact ⟨.ref s1.heap.objs.size, _, I1.laid (t' := s1.toks) (fun b u e => Heap.get?_push_of_some _ e) (Nat.le_refl _) (frz_ok z r), rfl, q _ _ (I1.hok.fresh (Nat.le_refl _)) rfl⟩
def rTupOf (K : PySem.W.Frag) : List V → Hp → VK → Prop := fun xs H Q => ∃ p ys, xs = [.ref p] ∧ ((SqL K H p ys ∧ ∀ l o, H l = none → o.dict = none → Q (.ref l) (upd H l (.frz o (.tup ys)))) ∨ (SqT K H p ys ∧ Q (.ref p) H))
theorem cl_tupleF : CallR X (.type "tuple") (rTupOf X.K) := by
  intro pins s σ H xs us Q I r h
  obtain ⟨p, ys, rfl, h⟩ := h
  obtain ⟨u, rfl, rx⟩ := vals1 r
  cases rx
  rcases h with ⟨hq, q⟩ | ⟨hq, q⟩
  · obtain ⟨its, r1, pl, hz⟩ := I.list hq
    have hl := r1.length
    refine call_tuple_list pl.isList (fun h1 kp => ?_) (by simp only [List.size_toArray] <;> omega)
    have I1 : Inv X pins σ H { s with heap := h1 } := I.kept (t' := s.toks) kp
    exact ⟨.ref h1.objs.size, _, I1.laid (t' := s.toks) (fun b o e => Heap.get?_push_of_some _ e) (Nat.le_refl _) (frz_ok hz r1), rfl, q _ _ (I1.hok.fresh (Nat.le_refl _)) rfl⟩
  · obtain ⟨its, r1, pl, _⟩ := I.tuple hq
    exact call_tuple_same pl ⟨.ref p, H, I, rfl, q⟩
def rCatF (K : PySem.W.Frag) : R2 := fun x y H Q => ∃ a b xs ys, x = .ref a ∧ y = .ref b ∧ SqT K H a xs ∧ SqT K H b ys ∧ xs.length + ys.length ≤ sizeLine ∧
  (xs = [] → Q (.ref b) H) ∧ (xs ≠ [] → ys = [] → Q (.ref a) H) ∧ (xs ≠ [] → ys ≠ [] → ∀ p o, H p = none → o.dict = none → Q (.ref p) (upd H p (.frz o (.tup (xs ++ ys)))))
theorem op_catF : OpR X (binaryOp .Add) (rCatF X.K) := by
  intro pins s σ H x y v u Q I rx ry h
  obtain ⟨a, b, xs, ys, rfl, rfl, ha, hb, hz, q0, q1, q2⟩ := h
  by_cases hx : xs = []
  · exact op_catA pins s σ H _ _ v u Q I rx ry ⟨a, b, xs, ys, rfl, rfl, ha, hb, hz, q0, fun n => absurd hx n, fun n => absurd hx n⟩
  · cases rx
    cases ry
    obtain ⟨its, r1, p1, _⟩ := I.tuple ha
    obtain ⟨its2, r2, p2, _⟩ := I.tuple hb
    refine HT.cat_tup p1 p2 (fun z => hx (r1.nil_iff.mp z)) (fun z => ⟨.ref a, H, I, rfl, q1 hx (r2.nil_iff.mp z)⟩) (fun z => ?_) (by rw [← r1.length, ← r2.length]; exact hz)
    exact ⟨.ref s.heap.objs.size, _, I.laid (t' := s.toks) (fun b ob q => Heap.get?_push_of_some _ q) (Nat.le_refl _) (frz_ok (by rw [List.length_append]; exact hz) (r1.append r2)), rfl, q2 hx (fun w => z (r2.nil_iff.mpr w)) _ _ (I.hok.fresh (Nat.le_refl _)) rfl⟩
def rSlF (K : PySem.W.Frag) : V → Option Int → Option Int → Hp → VK → Prop := fun x lo hi H Q => ∃ a xs, x = .ref a ∧ SqT K H a xs ∧
  (HT.sIx xs.length 0 lo = 0 ∧ HT.sIx xs.length xs.length hi = xs.length → Q (.ref a) H) ∧ (¬ (HT.sIx xs.length 0 lo = 0 ∧ HT.sIx xs.length xs.length hi = xs.length) → ∀ p o, H p = none → o.dict = none → Q (.ref p) (upd H p (.frz o (.tup (cutV xs lo hi)))))
theorem sl_tupF : SlR X (rSlF X.K) := by
  intro pins s σ H x v vl vu lo hi sl Q I rx hs pl pu h
  obtain ⟨a, xs, rfl, hx, q1, q2⟩ := h
  by_cases hw : HT.sIx xs.length 0 lo = 0 ∧ HT.sIx xs.length xs.length hi = xs.length
  · exact sl_tupA pins s σ H _ v vl vu lo hi sl Q I rx hs pl pu ⟨a, xs, rfl, hx, q1, fun n => absurd hw n⟩
  · cases rx
    obtain ⟨its, r, ht, hz⟩ := I.tuple hx
    have hl : its.toArray.size = xs.length := by rw [List.size_toArray]; exact r.length.symm
    refine ⟨"tuple", _, PyProof.Rows.slot_tuple_getitem.lookup, ht.typeIs, ?_⟩
    refine HT.getItem_tuple_cut ht hs pl pu (by rw [hl]; exact hw) ?_ (by rw [hl]; exact hz)
    rw [hl]
    exact ⟨.ref s.heap.objs.size, _, I.laid (t' := s.toks) (fun b ob q => Heap.get?_push_of_some _ q) (Nat.le_refl _) (frz_ok (Nat.le_trans (cutV_length xs lo hi) hz) ((r.drop (HT.sIx xs.length 0 lo)).take (HT.sIx xs.length xs.length hi - HT.sIx xs.length 0 lo))), rfl, q2 hw _ _ (I.hok.fresh (Nat.le_refl _)) rfl⟩
/-- a tuple that is known to have no dict of its own -/
def TupG (K : PySem.W.Frag) (G : Hp) (a : Addr) (xs : List V) : Prop :=
  (∃ o, G a = some (.frz o (.tup xs)) ∧ o.dict = none) ∨ ∃ (o : Obj) (its : Array Value) (n : Nat), K.lookup a = some o ∧ o.cls = .type "tuple" ∧ o.dict = none ∧ o.data = .seq its n ∧ its.size ≤ sizeLine ∧ Vals xs its.toList
theorem TupG.sq {G : Hp} {a : Addr} {xs : List V} (h : TupG K G a xs) : SqT K G a xs := by
  rcases h with ⟨o, h, _⟩ | ⟨o, its, n, h1, h2, _, h4, h5, h6⟩
  · exact .inl (.inr ⟨o, h⟩)
  · exact .inr ⟨o, its, n, h1, h2, h4, h5, h6⟩
theorem TupG.up {G H : Hp} {a : Addr} {xs : List V} (s : Same G H) (h : TupG K G a xs) : TupG K H a xs := by
  rcases h with ⟨o, h, hd⟩ | h
  · exact .inl ⟨o, s _ _ h, hd⟩
  · exact .inr h
/-! the call of a method of such a tuple -/
end
end Kx
end
section
set_option maxHeartbeats 2000000
namespace Kx
open PySem L2
/-! ### what is known: G stands still, M may be changed, both are tracked in H -/
/-- the tables of code objects that are looked after: each with the name that its code objects bear -/
class Tb where
  t : List (Addr × Str)
/-- no table, nothing of the model's own words -/
def Nt : HO → Prop
  | .tbl _ => False
  | .ext _ => False
  | _ => True
/-- what may be changed -/
def Mt : Option HO → Prop
  | some (.lst _) => True
  | some (.dK _) => True
  | some (.dT _) => True
  | some (.ins _ _ _) => True
  | _ => False
theorem Mt.nt {o : HO} (h : Mt (some o)) : Nt o := by cases o <;> first | exact trivial | exact h.elim
/-- no table -/
def NoTbl : HO → Prop
  | .tbl _ => False
  | _ => True
theorem Nt.noTbl {o : HO} (h : Nt o) : NoTbl o := by cases o <;> first | exact trivial | exact h.elim
/-- the tables stand in H; none stands in G -/
structure TbG [T : Tb] (G H : Hp) : Prop where
  t : LamX.Tabs T.t H
  n : ∀ a o, G a = some o → NoTbl o
section
variable [Tb] {G H : Hp} {p : Addr} {o u : HO}
theorem tabs_at (h : TbG G H) (hp : ∀ u, H p = some u → Nt u) : LamX.Tabs Tb.t (upd H p o) := fun q hq => by
  obtain ⟨ps, h1, h2, h3⟩ := h.t q hq
  have ne : ∀ {a : Addr} {u : HO}, H a = some u → ¬ Nt u → a ≠ p := fun {a u} e n z => by
    subst z
    exact n (hp u e)
  refine ⟨ps, by rw [upd_ne (ne h1 id)]; exact h1, h2, fun pos cv hc => ?_⟩
  obtain ⟨c, e1, e2⟩ := h3 pos cv hc
  exact ⟨c, e1, by rw [upd_ne (ne e2 id)]; exact e2⟩
theorem no_upd (h : ∀ a o, G a = some o → NoTbl o) (ho : NoTbl o) : ∀ a u, (upd G p o) a = some u → NoTbl u := fun a u e => by
  by_cases ha : a = p
  · subst ha; rw [upd_same] at e; cases e; exact ho
  · rw [upd_ne ha] at e; exact h a u e
theorem tb_new (h : TbG G H) (hp : H p = none) : TbG G (upd H p o) := ⟨tabs_at h fun u e => (by rw [hp] at e; cases e), h.n⟩
theorem tb_newG (h : TbG G H) (hp : H p = none) (ho : NoTbl o) : TbG (upd G p o) (upd H p o) := ⟨tabs_at h fun u e => (by rw [hp] at e; cases e), no_upd h.n ho⟩
theorem tb_of (h : TbG G H) (hp : H p = some u) (n : Nt u) : TbG G (upd H p o) := ⟨tabs_at h fun v e => (by rw [hp] at e; cases e; exact n), h.n⟩
theorem tb_G (h : TbG G H) (ho : NoTbl o) : TbG (upd G p o) H := ⟨h.t, no_upd h.n ho⟩
end
structure Ok [Tb] (G M H : Hp) : Prop where
  g : Same G H
  m : Same M H
  d : ∀ a o, M a = some o → G a = none
  mu : ∀ a o, M a = some o → Mt (some o)
  tb : TbG G H
theorem Same.new {H : Hp} {p : Addr} {o : HO} (h : H p = none) : Same H (upd H p o) := fun a u e => by
  rw [upd_ne (ne_of_none e h)]
  exact e
theorem Same.none {G H : Hp} (s : Same G H) {p : Addr} (h : H p = none) : G p = none := s.free h
/-- a new object that stands still -/
theorem Ok.newG [Tb] {G M H : Hp} {p : Addr} (o : HO) (k : Ok G M H) (h : H p = none) (hn : NoTbl o := by exact trivial) : Ok (upd G p o) M (upd H p o) := by
  refine ⟨fun a u e => ?_, fun a u e => ?_, fun a u e => ?_, k.mu, tb_newG k.tb h hn⟩
  · by_cases ha : a = p
    · subst ha; rw [upd_same] at e ⊢; exact e
    · rw [upd_ne ha] at e ⊢; exact k.g a u e
  · rw [upd_ne (ne_of_none (k.m a u e) h)]; exact k.m a u e
  · rw [upd_ne (ne_of_none (k.m a u e) h)]; exact k.d a u e
theorem mu_upd {M : Hp} {p : Addr} {o : HO} (k : ∀ a o, M a = some o → Mt (some o)) (hm : Mt (some o)) : ∀ a u, (upd M p o) a = some u → Mt (some u) := fun a u e => by
  by_cases ha : a = p
  · subst ha; rw [upd_same] at e; cases e; exact hm
  · rw [upd_ne ha] at e; exact k a u e
/-- a new object that may be changed -/
theorem Ok.newM [Tb] {G M H : Hp} {p : Addr} (o : HO) (k : Ok G M H) (h : H p = none) (hm : Mt (some o) := by exact trivial) : Ok G (upd M p o) (upd H p o) := by
  refine ⟨fun a u e => ?_, fun a u e => ?_, fun a u e => ?_, mu_upd k.mu hm, tb_new k.tb h⟩
  · rw [upd_ne (ne_of_none (k.g a u e) h)]; exact k.g a u e
  · by_cases ha : a = p
    · subst ha; rw [upd_same] at e ⊢; exact e
    · rw [upd_ne ha] at e ⊢; exact k.m a u e
  · by_cases ha : a = p
    · subst ha; exact Same.none k.g h
    · rw [upd_ne ha] at e; exact k.d a u e
/-- a changed object -/
theorem Ok.chg [Tb] {G M H : Hp} {p : Addr} {u : HO} (o : HO) (k : Ok G M H) (h : M p = some u) (hm : Mt (some o) := by exact trivial) : Ok G (upd M p o) (upd H p o) := by
  have gp : G p = none := k.d p u h
  refine ⟨fun a u e => ?_, fun a u e => ?_, fun a u e => ?_, mu_upd k.mu hm, tb_of k.tb (k.m p u h) (k.mu p u h).nt⟩
  · rw [upd_ne (ne_of_none e gp)]; exact k.g a u e
  · by_cases ha : a = p
    · subst ha; rw [upd_same] at e ⊢; exact e
    · rw [upd_ne ha] at e ⊢; exact k.m a u e
  · by_cases ha : a = p
    · subst ha; exact gp
    · rw [upd_ne ha] at e; exact k.d a u e
/-- what may be changed is let go: it stands still from here on -/
theorem Ok.frz [Tb] {G M H : Hp} {p : Addr} {o : HO} (k : Ok G (upd M p o) H) (h : M p = none) : Ok (upd G p o) M H := by
  refine ⟨fun a u e => ?_, fun a u e => ?_, fun a u e => ?_, fun a u e => k.mu a u (by rw [upd_ne (ne_of_none e h)]; exact e), tb_G k.tb (k.mu p o upd_same).nt.noTbl⟩
  · by_cases ha : a = p
    · subst ha; rw [upd_same] at e; exact k.m a u (by rw [upd_same]; exact e)
    · rw [upd_ne ha] at e; exact k.g a u e
  · exact k.m a u (by rw [upd_ne (ne_of_none e h)]; exact e)
  · have ha := ne_of_none e h
    rw [upd_ne ha]
    exact k.d a u (by rw [upd_ne ha]; exact e)
theorem Ok.less [Tb] {G M M' H : Hp} (k : Ok G M' H) (s : Same M M') : Ok G M H := ⟨k.g, fun a o e => k.m a o (s a o e), fun a o e => k.d a o (s a o e), fun a o e => k.mu a o (s a o e), k.tb⟩
theorem Ok.gp [Tb] {G M H : Hp} {p : Addr} {o : HO} (k : Ok G (upd M p o) H) : G p = none := k.d p o upd_same
theorem upd_back {M : Hp} {p : Addr} {o : HO} (h : M p = some o) : upd M p o = M := by
  funext a
  unfold upd
  split
  · next e => rw [e, h]
  · rfl
theorem upd_comm {M : Hp} {p q : Addr} {o u : HO} (h : p ≠ q) : upd (upd M p o) q u = upd (upd M q u) p o := by
  funext a
  unfold upd
  by_cases h1 : a = q <;> by_cases h2 : a = p
  · subst h1; exact absurd h2.symm h
  · rw [if_pos h1, if_neg h2, if_pos h1]
  · rw [if_neg h1, if_pos h2, if_pos h2]
  · rw [if_neg h1, if_neg h2, if_neg h2, if_neg h1]
theorem rd_up {G H : Hp} {a : Addr} {u : HO} (e : Same G H) (h : Rd G a u) : Rd H a u := by
  rcases h with h | ⟨o, h⟩
  · exact Or.inl (e a _ h)
  · exact Or.inr ⟨o, e a _ h⟩
/-- the class that the top has given this name -/
def clsAt (K : PySem.W.Frag) (n : Str) : Addr := match PySem.W.nsIn K mainGlobals n with
  | some (some (.ref C)) => C
  | _ => 0
theorem clsAt_of {K : PySem.W.Frag} {n : Str} {C : Addr} (h : PySem.W.nsIn K mainGlobals n = some (some (.ref C))) : clsAt K n = C := by
  unfold clsAt
  rw [h]
/-! ### data in the heap: lists are plain tracked ones; texts have code points; dicts and instances stand still -/
inductive Dat where
  | none
  | bool (b : Bool)
  | int (i : Int)
  | str (s : Str)
  | list (xs : List Dat)
  | tuple (xs : List Dat)
  /-- a tuple of which no more is known -/
  | rtup (xs : List Dat)
  /-- a dict by ints and texts: its keys, its values -/
  | dK (ks : List Key) (xs : List Dat)
  /-- a dict by tuples of these -/
  | dT (ks : List (List Key)) (xs : List Dat)
  /-- an instance of the class of this name: its fields, their values -/
  | ins (C : Str) (ns : List Str) (xs : List Dat)
abbrev sok (x : Str) : Bool := PyData.strOk x
def keyOk : Key → Bool
  | .inl _ => true
  | .inr x => sok x
mutual
inductive Dq (K : PySem.W.Frag) (G : Hp) : V → Dat → Prop
  | non : Dq K G .non .none
  | bl (b : Bool) : Dq K G (.bl b) (.bool b)
  | int (i : Int) : Dq K G (.int i) (.int i)
  | str {x : Str} (h : sok x = true) : Dq K G (.str x) (.str x)
  | lst {a : Addr} {xs : List V} {ds : List Dat} : G a = some (.lst xs) → DqAll K G xs ds → Dq K G (.ref a) (.list ds)
  | tup {a : Addr} {xs : List V} {ds : List Dat} : TupG K G a xs → DqAll K G xs ds → Dq K G (.ref a) (.tuple ds)
  | rtup {a : Addr} {xs : List V} {ds : List Dat} : G a = some (.tup xs) → DqAll K G xs ds → Dq K G (.ref a) (.rtup ds)
  | dK {a : Addr} {kvs : List (Key × V)} {ks : List Key} {ds : List Dat} : Rd G a (.dK kvs) → kvs.map (·.1) = ks → ks.all keyOk = true → DqAll K G (kvs.map (·.2)) ds → Dq K G (.ref a) (.dK ks ds)
  | dT {a : Addr} {kvs : List (List Key × V)} {ks : List (List Key)} {ds : List Dat} : Rd G a (.dT kvs) → kvs.map (·.1) = ks → (ks.all fun k => k.all keyOk) = true → DqAll K G (kvs.map (·.2)) ds → Dq K G (.ref a) (.dT ks ds)
  | ins {a dx : Addr} {C : Str} {fs : List (Str × V)} {ns : List Str} {ds : List Dat} : G a = some (.ins (clsAt K C) dx fs) → fs.map (·.1) = ns → DqAll K G (fs.map (·.2)) ds → Dq K G (.ref a) (.ins C ns ds)
inductive DqAll (K : PySem.W.Frag) (G : Hp) : List V → List Dat → Prop
  | nil : DqAll K G [] []
  | cons {v : V} {d : Dat} {vs : List V} {ds : List Dat} : Dq K G v d → DqAll K G vs ds → DqAll K G (v :: vs) (d :: ds)
end
/-! plain data, as the library has them -/
mutual
def toPy : Dat → PyData
  | .none => .none
  | .bool b => .bool b
  | .int i => .int i
  | .str x => .str x
  | .list xs => .list (toPys xs)
  | .tuple xs => .tuple (toPys xs)
  | .rtup xs => .tuple (toPys xs)
  | .dK _ _ => .none
  | .dT _ _ => .none
  | .ins _ _ _ => .none
def toPys : List Dat → List PyData
  | [] => []
  | x :: xs => toPy x :: toPys xs
def pur : Dat → Bool
  | .none => true
  | .bool _ => true
  | .int _ => true
  | .str _ => true
  | .list xs => purs xs
  | .tuple xs => purs xs
  | .rtup xs => purs xs
  | .dK _ _ => false
  | .dT _ _ => false
  | .ins _ _ _ => false
def purs : List Dat → Bool
  | [] => true
  | x :: xs => pur x && purs xs
end
section
variable {K : PySem.W.Frag}
theorem sqT_up {G H : Hp} {a : Addr} {xs : List V} (e : Same G H) (h : SqT K G a xs) : SqT K H a xs := by
  rcases h with h | h
  · exact Or.inl (rd_up e h)
  · exact Or.inr h
mutual
theorem dp_up {G H : Hp} (e : Same G H) : ∀ (d : Dat) {v : V}, Dq K G v d → Dq K H v d
  | .none, _, h => by cases h; exact .non
  | .bool b, _, h => by cases h; exact .bl b
  | .int i, _, h => by cases h; exact .int i
  | .str x, _, h => by
    cases h with
    | str h => exact .str h
  | .list ds, _, h => by
    cases h with
    | lst a b => exact .lst (e _ _ a) (dpAll_up e ds b)
  | .tuple ds, _, h => by
    cases h with
    | tup a b => exact .tup (a.up e) (dpAll_up e ds b)
  | .rtup ds, _, h => by
    cases h with
    | rtup a b => exact .rtup (e _ _ a) (dpAll_up e ds b)
  | .dK ks ds, _, h => by
    cases h with
    | dK a b c d => exact .dK (rd_up e a) b c (dpAll_up e ds d)
  | .dT ks ds, _, h => by
    cases h with
    | dT a b c d => exact .dT (rd_up e a) b c (dpAll_up e ds d)
  | .ins C ns ds, _, h => by
    cases h with
    | ins a b c => exact .ins (e _ _ a) b (dpAll_up e ds c)
theorem dpAll_up {G H : Hp} (e : Same G H) : ∀ (ds : List Dat) {vs : List V}, DqAll K G vs ds → DqAll K H vs ds
  | [], _, h => by cases h; exact .nil
  | d :: ds, _, h => by
    cases h with
    | cons a b => exact .cons (dp_up e d a) (dpAll_up e ds b)
end
mutual
theorem dq_dp {G : Hp} : ∀ (d : Dat) {v : V}, pur d = true → Dq K G v d → Dp K G v (toPy d)
  | .none, _, _, h => by cases h; unfold toPy; exact .non
  | .bool b, _, _, h => by cases h; unfold toPy; exact .bl b
  | .int i, _, _, h => by cases h; unfold toPy; exact .int i
  | .str x, _, _, h => by cases h; unfold toPy; exact .str x
  | .list ds, _, p, h => by
    cases h with
    | lst a b => unfold toPy; exact .lst (.inl (.inl a)) (dqAll_dp ds (by unfold pur at p; exact p) b)
  | .tuple ds, _, p, h => by
    cases h with
    | tup a b => unfold toPy; exact .tup a.sq (dqAll_dp ds (by unfold pur at p; exact p) b)
  | .rtup ds, _, p, h => by
    cases h with
    | rtup a b => unfold toPy; exact .tup (.inl (.inl a)) (dqAll_dp ds (by unfold pur at p; exact p) b)
  | .dK _ _, _, p, h => by unfold pur at p; cases p
  | .dT _ _, _, p, h => by unfold pur at p; cases p
  | .ins _ _ _, _, p, h => by unfold pur at p; cases p
theorem dqAll_dp {G : Hp} : ∀ (ds : List Dat) {vs : List V}, purs ds = true → DqAll K G vs ds → DpAll K G vs (toPys ds)
  | [], _, _, h => by cases h; unfold toPys; exact .nil
  | d :: ds, _, p, h => by
    cases h with
    | cons a b =>
      unfold purs at p
      rw [Bool.and_eq_true] at p
      unfold toPys
      exact .cons (dq_dp d p.1 a) (dqAll_dp ds p.2 b)
end
/-! what stands in the heap can be laid -/
mutual
theorem dq_lay {G : Hp} : ∀ (d : Dat) {v : V}, pur d = true → Dq K G v d → (toPy d).canLay0 = true
  | .none, _, _, h => by unfold toPy PyData.canLay0; rfl
  | .bool b, _, _, h => by unfold toPy PyData.canLay0; rfl
  | .int i, _, _, h => by unfold toPy PyData.canLay0; rfl
  | .str x, _, _, h => by
    cases h with
    | str h => unfold toPy PyData.canLay0; exact h
  | .list ds, _, p, h => by
    cases h with
    | lst a b => unfold toPy PyData.canLay0; exact dqAll_lay ds (by unfold pur at p; exact p) b
  | .tuple ds, _, p, h => by
    cases h with
    | tup a b => unfold toPy PyData.canLay0; exact dqAll_lay ds (by unfold pur at p; exact p) b
  | .rtup ds, _, p, h => by
    cases h with
    | rtup a b => unfold toPy PyData.canLay0; exact dqAll_lay ds (by unfold pur at p; exact p) b
  | .dK _ _, _, p, h => by unfold pur at p; cases p
  | .dT _ _, _, p, h => by unfold pur at p; cases p
  | .ins _ _ _, _, p, h => by unfold pur at p; cases p
theorem dqAll_lay {G : Hp} : ∀ (ds : List Dat) {vs : List V}, purs ds = true → DqAll K G vs ds → PyData.canLayAll0 (toPys ds) = true
  | [], _, _, h => by unfold toPys PyData.canLayAll0; rfl
  | d :: ds, _, p, h => by
    cases h with
    | cons a b =>
      unfold purs at p
      rw [Bool.and_eq_true] at p
      unfold toPys PyData.canLayAll0
      rw [dq_lay d p.1 a, dqAll_lay ds p.2 b]
      rfl
end
theorem dpAll_len {G : Hp} : ∀ {ds : List Dat} {vs : List V}, DqAll K G vs ds → vs.length = ds.length
  | _, _, .nil => rfl
  | _, _, .cons _ b => congrArg (· + 1) (dpAll_len b)
theorem dpAll_get {G : Hp} : ∀ {ds : List Dat} {vs : List V} {i : Nat} {d : Dat}, DqAll K G vs ds → ds[i]? = some d → ∃ v, vs[i]? = some v ∧ Dq K G v d
  | _, _, _, _, .nil, h => by simp at h
  | _, _, 0, _, .cons a _, h => by simp at h; subst h; exact ⟨_, rfl, a⟩
  | _, _, i + 1, d, .cons _ b, h => by
    obtain ⟨v, h1, h2⟩ := dpAll_get (i := i) (d := d) b (by simpa using h)
    exact ⟨v, by simpa using h1, h2⟩
theorem dpAll_app {G : Hp} : ∀ {ds es : List Dat} {vs ws : List V}, DqAll K G vs ds → DqAll K G ws es → DqAll K G (vs ++ ws) (ds ++ es)
  | _, _, _, _, .nil, h => h
  | _, _, _, _, .cons a b, h => .cons a (dpAll_app b h)
theorem dpAll_drop {G : Hp} : ∀ {ds : List Dat} {vs : List V} (n : Nat), DqAll K G vs ds → DqAll K G (vs.drop n) (ds.drop n)
  | _, _, 0, h => h
  | _, _, _ + 1, .nil => .nil
  | _, _, n + 1, .cons _ b => dpAll_drop n b
theorem dpAll_take {G : Hp} : ∀ {ds : List Dat} {vs : List V} (n : Nat), DqAll K G vs ds → DqAll K G (vs.take n) (ds.take n)
  | _, _, 0, _ => .nil
  | _, _, _ + 1, .nil => .nil
  | _, _, n + 1, .cons a b => .cons a (dpAll_take n b)
theorem dpAll_bls {G : Hp} : ∀ {ns : List Bool} {vs : List V}, DqAll K G vs (ns.map Dat.bool) → vs = ns.map V.bl
  | [], _, h => by cases h; rfl
  | n :: ns, _, h => by
    cases h with
    | cons a b => cases a; exact congrArg (V.bl n :: ·) (dpAll_bls b)
theorem dpAll_strs {G : Hp} : ∀ {ns : List Str} {vs : List V}, DqAll K G vs (ns.map Dat.str) → vs = ns.map V.str
  | [], _, h => by cases h; rfl
  | n :: ns, _, h => by
    cases h with
    | cons a b => cases a; exact congrArg (V.str n :: ·) (dpAll_strs b)
end
/-! ### what evaluates to what -/
abbrev VP := V → Hp → Prop
def Mo (P : VP) : Prop := ∀ v G G', Same G G' → P v G → P v G'
abbrev DD (K : PySem.W.Frag) (d : Dat) : VP := fun v G => Dq K G v d
abbrev OW (p : Addr) : VP := fun v _ => v = .ref p
theorem mo_dd {K : PySem.W.Frag} {d : Dat} : Mo (DD K d) := fun _ _ _ s h => dp_up s d h
theorem mo_ow {p : Addr} : Mo (OW p) := fun _ _ _ _ h => h
def Ev [Tb] (te : TE) (σ : St) (G M M' : Hp) (P : VP) : Prop :=
  ∀ G0 H, Same G G0 → Ok G0 M H → ∀ Q : VK, (∀ v G' H', Same G0 G' → Ok G' M' H' → P v G' → Q v H') → te σ H Q
def EvA [Tb] (ta : TA) (σ : St) (G M M' : Hp) (P : List V → Hp → Prop) : Prop :=
  ∀ G0 H, Same G G0 → Ok G0 M H → ∀ Q : List V → Hp → Prop, (∀ vs G' H', Same G0 G' → Ok G' M' H' → P vs G' → Q vs H') → ta σ H Q
def EvT [Tb] (tt : TT) (σ : St) (G M M' : Hp) (b : Bool) : Prop :=
  ∀ G0 H, Same G G0 → Ok G0 M H → ∀ Q : Bool → Hp → Prop, (∀ G' H', Same G0 G' → Ok G' M' H' → Q b H') → tt σ H Q
/-- a new list of one's own -/
def EvL [Tb] (K : PySem.W.Frag) (te : TE) (σ : St) (G M M' : Hp) (ds : List Dat) : Prop :=
  ∀ G0 H, Same G G0 → Ok G0 M H → ∀ Q : VK, (∀ p vs G' H', Same G0 G' → Ok G' (upd M' p (.lst vs)) H' → M' p = none → DqAll K G' vs ds → Q (.ref p) H') → te σ H Q
def EvO [Tb] (to : TO) (σ : St) (G M M' : Hp) (o : Option Int) : Prop :=
  ∀ G0 H, Same G G0 → Ok G0 M H → ∀ Q : Option Int → Hp → Prop, (∀ G' H', Same G0 G' → Ok G' M' H' → Q o H') → to σ H Q
/-- a rule on values -/
def RV2 [Tb] (r : R2) (G M M' : Hp) (P1 P2 P : VP) : Prop :=
  ∀ x y G0 H, Same G G0 → Ok G0 M H → P1 x G0 → P2 y G0 → ∀ Q : VK, (∀ v G' H', Same G0 G' → Ok G' M' H' → P v G' → Q v H') → r x y H Q
def RVn [Tb] (r : List V → Hp → VK → Prop) (G M M' : Hp) (Ps : List V → Hp → Prop) (P : VP) : Prop :=
  ∀ xs G0 H, Same G G0 → Ok G0 M H → Ps xs G0 → ∀ Q : VK, (∀ v G' H', Same G0 G' → Ok G' M' H' → P v G' → Q v H') → r xs H Q
def RVnL [Tb] (K : PySem.W.Frag) (r : List V → Hp → VK → Prop) (G M M' : Hp) (Ps : List V → Hp → Prop) (ds : List Dat) : Prop :=
  ∀ xs G0 H, Same G G0 → Ok G0 M H → Ps xs G0 → ∀ Q : VK, (∀ p vs G' H', Same G0 G' → Ok G' (upd M' p (.lst vs)) H' → M' p = none → DqAll K G' vs ds → Q (.ref p) H') → r xs H Q
def RV2L [Tb] (K : PySem.W.Frag) (r : R2) (G M M' : Hp) (P1 P2 : VP) (ds : List Dat) : Prop :=
  ∀ x y G0 H, Same G G0 → Ok G0 M H → P1 x G0 → P2 y G0 → ∀ Q : VK, (∀ p vs G' H', Same G0 G' → Ok G' (upd M' p (.lst vs)) H' → M' p = none → DqAll K G' vs ds → Q (.ref p) H') → r x y H Q
def nilP : List V → Hp → Prop := fun vs _ => vs = []
def conP (P : VP) (R : List V → Hp → Prop) : List V → Hp → Prop := fun vs G => ∃ v r, vs = v :: r ∧ P v G ∧ R r G
section
variable {K : PySem.W.Frag} {σ : St} {G G' M M1 M2 M3 : Hp} {ta tb te tc : TE} {P P1 P2 : VP} {d e : Dat} {ds es : List Dat}
theorem Ev.up [Tb] (s : Same G G') (h : Ev te σ G M M1 P) : Ev te σ G' M M1 P := fun G0 H a => h G0 H (s.trans a)
theorem EvT.up [Tb] {tt : TT} {b : Bool} (s : Same G G') (h : EvT tt σ G M M1 b) : EvT tt σ G' M M1 b := fun G0 H a => h G0 H (s.trans a)
theorem EvL.up [Tb] (s : Same G G') (h : EvL K te σ G M M1 ds) : EvL K te σ G' M M1 ds := fun G0 H a => h G0 H (s.trans a)
theorem EvL.ev [Tb] (h : EvL K te σ G M M1 ds) : Ev te σ G M M1 (DD K (.list ds)) := fun G0 H s k Q q =>
  h G0 H s k Q fun p vs G' H' s' k' hp hd => q _ (upd G' p (.lst vs)) H' (s'.trans (Same.new k'.gp)) (k'.frz hp) (.lst upd_same (dpAll_up (Same.new k'.gp) ds hd))
theorem ev_var [Tb] {i : Nat} {v : V} (h : σ[i]? = some (some v)) (m : Mo P) (hp : P v G) : Ev (tVar i) σ G M M P := fun G0 H s k Q q =>
  ⟨v, h, q v G0 H (Same.refl G0) k (m v G G0 s hp)⟩
theorem ev_d [Tb] {i : Nat} {v : V} (h : σ[i]? = some (some v)) (hp : Dq K G v d) : Ev (tVar i) σ G M M (DD K d) := ev_var h mo_dd hp
theorem ev_own [Tb] {i : Nat} {p : Addr} (h : σ[i]? = some (some (.ref p))) : Ev (tVar i) σ G M M (OW p) := ev_var h mo_ow rfl
theorem ev_c [Tb] {v : V} (hp : ∀ G, Dq K G v d) : Ev (tC v) σ G M M (DD K d) := fun G0 H s k Q q => q v G0 H (Same.refl G0) k (hp G0)
theorem ev_int [Tb] {i : Int} : Ev (tC (.int i)) σ G M M (DD K (.int i)) := ev_c fun _ => .int i
theorem ev_str [Tb] {x : Str} (h : sok x = true) : Ev (tC (.str x)) σ G M M (DD K (.str x)) := ev_c fun _ => .str h
theorem ev_bl [Tb] {b : Bool} : Ev (tC (.bl b)) σ G M M (DD K (.bool b)) := ev_c fun _ => .bl b
theorem ev_non [Tb] : Ev (tC .non) σ G M M (DD K .none) := ev_c fun _ => .non
theorem ev_op [Tb] {r : R2} (m : Mo P1) (ha : Ev ta σ G M M1 P1) (hb : Ev tb σ G M1 M2 P2) (hr : RV2 r G M2 M3 P1 P2 P) : Ev (tOp r ta tb) σ G M M3 P := fun G0 H s k Q q =>
  ha G0 H s k _ fun x G1 H1 s1 k1 hx => hb G1 H1 (s.trans s1) k1 _ fun y G2 H2 s2 k2 hy => hr x y G2 H2 ((s.trans s1).trans s2) k2 (m x G1 G2 s2 hx) hy Q fun v G3 H3 s3 k3 hv => q v G3 H3 ((s1.trans s2).trans s3) k3 hv
theorem el_op [Tb] {r : R2} (m : Mo P1) (ha : Ev ta σ G M M1 P1) (hb : Ev tb σ G M1 M2 P2) (hr : RV2L K r G M2 M3 P1 P2 ds) : EvL K (tOp r ta tb) σ G M M3 ds := fun G0 H s k Q q =>
  ha G0 H s k _ fun x G1 H1 s1 k1 hx => hb G1 H1 (s.trans s1) k1 _ fun y G2 H2 s2 k2 hy => hr x y G2 H2 ((s.trans s1).trans s2) k2 (m x G1 G2 s2 hx) hy Q fun p vs G3 H3 s3 k3 hv => q p vs G3 H3 ((s1.trans s2).trans s3) k3 hv
theorem ea_nil [Tb] : EvA tNil σ G M M nilP := fun G0 H s k Q q => q [] G0 H (Same.refl _) k rfl
theorem ea_cons [Tb] {tr : TA} {R : List V → Hp → Prop} (m : Mo P) (ha : Ev ta σ G M M1 P) (hr : EvA tr σ G M1 M2 R) : EvA (tCons ta tr) σ G M M2 (conP P R) := fun G0 H s k Q q =>
  ha G0 H s k _ fun x G1 H1 s1 k1 hx => hr G1 H1 (s.trans s1) k1 _ fun xs G2 H2 s2 k2 hy => q (x :: xs) G2 H2 (s1.trans s2) k2 ⟨x, xs, rfl, m x G1 G2 s2 hx, hy⟩
theorem ea_d [Tb] {tr : TA} {R : List V → Hp → Prop} (ha : Ev ta σ G M M1 (DD K d)) (hr : EvA tr σ G M1 M2 R) : EvA (tCons ta tr) σ G M M2 (conP (DD K d) R) := ea_cons mo_dd ha hr
theorem ev_cb [Tb] {r : List V → Hp → VK → Prop} {t : TA} {R : List V → Hp → Prop} (ha : EvA t σ G M M1 R) (hr : RVn r G M1 M2 R P) : Ev (tCB r t) σ G M M2 P := fun G0 H s k Q q =>
  ha G0 H s k _ fun xs G1 H1 s1 k1 hx => hr xs G1 H1 (s.trans s1) k1 hx Q fun v G2 H2 s2 k2 hv => q v G2 H2 (s1.trans s2) k2 hv
theorem el_cb [Tb] {r : List V → Hp → VK → Prop} {t : TA} {R : List V → Hp → Prop} (ha : EvA t σ G M M1 R) (hr : RVnL K r G M1 M2 R ds) : EvL K (tCB r t) σ G M M2 ds := fun G0 H s k Q q =>
  ha G0 H s k _ fun xs G1 H1 s1 k1 hx => hr xs G1 H1 (s.trans s1) k1 hx Q fun p vs G2 H2 s2 k2 hv => q p vs G2 H2 (s1.trans s2) k2 hv
/-- values of a list of data -/
def allP (K : PySem.W.Frag) (ds : List Dat) : List V → Hp → Prop := fun vs G => DqAll K G vs ds
theorem ea_nilD [Tb] : EvA tNil σ G M M (allP K []) := fun G0 H s k Q q => q [] G0 H (Same.refl _) k .nil
theorem ea_consD [Tb] {tr : TA} (ha : Ev ta σ G M M1 (DD K d)) (hr : EvA tr σ G M1 M2 (allP K ds)) : EvA (tCons ta tr) σ G M M2 (allP K (d :: ds)) := fun G0 H s k Q q =>
  ha G0 H s k _ fun x G1 H1 s1 k1 hx => hr G1 H1 (s.trans s1) k1 _ fun xs G2 H2 s2 k2 hy => q (x :: xs) G2 H2 (s1.trans s2) k2 (.cons (dp_up s2 d hx) hy)
theorem ev_tup [Tb] {t : TA} (ha : EvA t σ G M M1 (allP K ds)) (hl : ds.length ≤ sizeLine := by simp [sizeLine_eq]) : Ev (tTupF t) σ G M M1 (DD K (.tuple ds)) := fun G0 H s k Q q =>
  ha G0 H s k _ fun xs G1 H1 s1 k1 hx => ⟨by rw [dpAll_len hx]; exact hl, fun p o hp hd => q _ (upd G1 p (.frz o (.tup xs))) _ (s1.trans (Same.new (Same.none k1.g hp))) (k1.newG _ hp) (.tup (.inl ⟨o, upd_same, hd⟩) (dpAll_up (Same.new (Same.none k1.g hp)) ds hx))⟩
theorem newL [Tb] {Q : VK} {G0 G1 H1 M1 : Hp} {xs : List V} (s1 : Same G0 G1) (k1 : Ok G1 M1 H1) (hx : DqAll K G1 xs ds) (q : ∀ p vs G' H', Same G0 G' → Ok G' (upd M1 p (.lst vs)) H' → M1 p = none → DqAll K G' vs ds → Q (.ref p) H') : ∀ p, H1 p = none → Q (.ref p) (upd H1 p (.lst xs)) :=
  fun p hp => q p xs G1 _ s1 (k1.newM _ hp) (Same.none k1.m hp) hx
theorem newT [Tb] {Q : VK} {G0 G1 H1 M1 : Hp} {xs : List V} (s1 : Same G0 G1) (k1 : Ok G1 M1 H1) (hx : DqAll K G1 xs ds) (q : ∀ v G' H', Same G0 G' → Ok G' M1 H' → Dq K G' v (.tuple ds) → Q v H') : ∀ p o, H1 p = none → o.dict = none → Q (.ref p) (upd H1 p (.frz o (.tup xs))) :=
  fun p o hp hd => q _ (upd G1 p (.frz o (.tup xs))) _ (s1.trans (Same.new (Same.none k1.g hp))) (k1.newG _ hp) (.tup (.inl ⟨o, upd_same, hd⟩) (dpAll_up (Same.new (Same.none k1.g hp)) ds hx))
theorem newR [Tb] {Q : VK} {G0 G1 H1 M1 : Hp} {xs : List V} (s1 : Same G0 G1) (k1 : Ok G1 M1 H1) (hx : DqAll K G1 xs ds) (q : ∀ v G' H', Same G0 G' → Ok G' M1 H' → Dq K G' v (.rtup ds) → Q v H') : ∀ p, H1 p = none → Q (.ref p) (upd H1 p (.tup xs)) :=
  fun p hp => q _ (upd G1 p (.tup xs)) _ (s1.trans (Same.new (Same.none k1.g hp))) (k1.newG _ hp) (.rtup upd_same (dpAll_up (Same.new (Same.none k1.g hp)) ds hx))
theorem el_lst [Tb] {t : TA} (ha : EvA t σ G M M1 (allP K ds)) (hl : ds.length ≤ sizeLine := by simp [sizeLine_eq]) : EvL K (tLst t) σ G M M1 ds := fun G0 H s k Q q =>
  ha G0 H s k _ fun xs G1 H1 s1 k1 hx => ⟨by rw [dpAll_len hx]; exact hl, newL s1 k1 hx q⟩
theorem ev_is [Tb] {d' : Dat} (h : Ev te σ G M M1 (DD K d)) (e : d = d') : Ev te σ G M M1 (DD K d') := e ▸ h
/-! ### operators -/
theorem rv_I0 [Tb] {g : Int → Int → V} {f : Int → Int → Dat} {i j : Int} (hg : ∀ i j G, Dq K G (g i j) (f i j)) : RV2 (rI0 g) G M M (DD K (.int i)) (DD K (.int j)) (DD K (f i j)) := fun x y G0 H s k hx hy Q q => by
  cases hx; cases hy
  exact ⟨i, j, rfl, rfl, q _ G0 H (Same.refl _) k (hg i j G0)⟩
theorem rv_I [Tb] {C : Int → Int → Prop} {g : Int → Int → V} {f : Int → Int → Dat} {i j : Int} (hg : ∀ i j G, Dq K G (g i j) (f i j)) (hc : C i j) : RV2 (rI C g) G M M (DD K (.int i)) (DD K (.int j)) (DD K (f i j)) := fun x y G0 H s k hx hy Q q => by
  cases hx; cases hy
  exact ⟨i, j, rfl, rfl, hc, q _ G0 H (Same.refl _) k (hg i j G0)⟩
theorem ev_add [Tb] {i j : Int} (ha : Ev ta σ G M M1 (DD K (.int i))) (hb : Ev tb σ G M1 M2 (DD K (.int j))) : Ev (tOp (rI0 fun i j => .int (i + j)) ta tb) σ G M M2 (DD K (.int (i + j))) := ev_op mo_dd ha hb (rv_I0 (f := fun i j => .int (i + j)) fun i j _ => .int _)
theorem ev_sub [Tb] {i j : Int} (ha : Ev ta σ G M M1 (DD K (.int i))) (hb : Ev tb σ G M1 M2 (DD K (.int j))) : Ev (tOp (rI0 fun i j => .int (i - j)) ta tb) σ G M M2 (DD K (.int (i - j))) := ev_op mo_dd ha hb (rv_I0 (f := fun i j => .int (i - j)) fun i j _ => .int _)
theorem ev_mod [Tb] {i j : Int} (hc : j ≠ 0) (ha : Ev ta σ G M M1 (DD K (.int i))) (hb : Ev tb σ G M1 M2 (DD K (.int j))) : Ev (tOp (rI (fun _ j => j ≠ 0) fun i j => .int (i.fmod j)) ta tb) σ G M M2 (DD K (.int (i.fmod j))) := ev_op mo_dd ha hb (rv_I (f := fun i j => .int (i.fmod j)) (fun i j _ => .int _) hc)
theorem ev_pow [Tb] {i j : Int} (hc : CPow i j) (ha : Ev ta σ G M M1 (DD K (.int i))) (hb : Ev tb σ G M1 M2 (DD K (.int j))) : Ev (tOp (rI CPow fun i j => .int (i ^ j.toNat)) ta tb) σ G M M2 (DD K (.int (i ^ j.toNat))) := ev_op mo_dd ha hb (rv_I (f := fun i j => .int (i ^ j.toNat)) (fun i j _ => .int _) hc)
theorem ev_lt [Tb] {i j : Int} (ha : Ev ta σ G M M1 (DD K (.int i))) (hb : Ev tb σ G M1 M2 (DD K (.int j))) : Ev (tOp (rI0 fun i j => .bl (decide (i < j))) ta tb) σ G M M2 (DD K (.bool (decide (i < j)))) := ev_op mo_dd ha hb (rv_I0 (f := fun i j => .bool (decide (i < j))) fun i j _ => .bl _)
theorem ev_le [Tb] {i j : Int} (ha : Ev ta σ G M M1 (DD K (.int i))) (hb : Ev tb σ G M1 M2 (DD K (.int j))) : Ev (tOp (rI0 fun i j => .bl (decide (i ≤ j))) ta tb) σ G M M2 (DD K (.bool (decide (i ≤ j)))) := ev_op mo_dd ha hb (rv_I0 (f := fun i j => .bool (decide (i ≤ j))) fun i j _ => .bl _)
theorem ev_gt [Tb] {i j : Int} (ha : Ev ta σ G M M1 (DD K (.int i))) (hb : Ev tb σ G M1 M2 (DD K (.int j))) : Ev (tOp (rI0 fun i j => .bl (decide (j < i))) ta tb) σ G M M2 (DD K (.bool (decide (j < i)))) := ev_op mo_dd ha hb (rv_I0 (f := fun i j => .bool (decide (j < i))) fun i j _ => .bl _)
theorem ev_eqI [Tb] {i j : Int} (ha : Ev ta σ G M M1 (DD K (.int i))) (hb : Ev tb σ G M1 M2 (DD K (.int j))) : Ev (tOp rEq ta tb) σ G M M2 (DD K (.bool (decide (i = j)))) := ev_op mo_dd ha hb fun x y G0 H s k hx hy Q q => by
  cases hx; cases hy
  refine ⟨rfl, q _ G0 H (Same.refl _) k ?_⟩
  rw [show decide (V.int i = V.int j) = decide (i = j) by simp]
  exact .bl _
theorem ev_neI [Tb] {i j : Int} (ha : Ev ta σ G M M1 (DD K (.int i))) (hb : Ev tb σ G M1 M2 (DD K (.int j))) : Ev (tOp rNe ta tb) σ G M M2 (DD K (.bool (!decide (i = j)))) := ev_op mo_dd ha hb fun x y G0 H s k hx hy Q q => by
  cases hx; cases hy
  refine ⟨rfl, q _ G0 H (Same.refl _) k ?_⟩
  rw [show decide (V.int i = V.int j) = decide (i = j) by simp]
  exact .bl _
theorem ev_eqS [Tb] {i j : Str} (ha : Ev ta σ G M M1 (DD K (.str i))) (hb : Ev tb σ G M1 M2 (DD K (.str j))) : Ev (tOp rEq ta tb) σ G M M2 (DD K (.bool (decide (i = j)))) := ev_op mo_dd ha hb fun x y G0 H s k hx hy Q q => by
  cases hx; cases hy
  refine ⟨rfl, q _ G0 H (Same.refl _) k ?_⟩
  rw [show decide (V.str i = V.str j) = decide (i = j) by simp]
  exact .bl _
theorem ev_neS [Tb] {i j : Str} (ha : Ev ta σ G M M1 (DD K (.str i))) (hb : Ev tb σ G M1 M2 (DD K (.str j))) : Ev (tOp rNe ta tb) σ G M M2 (DD K (.bool (!decide (i = j)))) := ev_op mo_dd ha hb fun x y G0 H s k hx hy Q q => by
  cases hx; cases hy
  refine ⟨rfl, q _ G0 H (Same.refl _) k ?_⟩
  rw [show decide (V.str i = V.str j) = decide (i = j) by simp]
  exact .bl _
theorem shp_of {v : V} {n : Nat} (p : pur d = true) (hn : (toPy d).depth ≤ 64) (h : Dq K G v d) : SeqAt.shaped (toPy d) = true := by
  unfold SeqAt.shaped
  rw [dq_lay d p h]
  simpa using hn
theorem ev_eqD [Tb] (p1 : pur d = true) (p2 : pur e = true) (h1 : (toPy d).depth ≤ 64) (h2 : (toPy e).depth ≤ 64) (ha : Ev ta σ G M M1 (DD K d)) (hb : Ev tb σ G M1 M2 (DD K e)) : Ev (tOp (rEqD K) ta tb) σ G M M2 (DD K (.bool (PyData.eqv (toPy d) (toPy e)))) := ev_op mo_dd ha hb fun x y G0 H s k hx hy Q q =>
  ⟨toPy d, toPy e, dq_dp d p1 (dp_up k.g d hx), dq_dp e p2 (dp_up k.g e hy), shp_of (n := 0) p1 h1 hx, shp_of (n := 0) p2 h2 hy, q _ G0 H (Same.refl _) k (.bl _)⟩
theorem ev_neD [Tb] (p1 : pur d = true) (p2 : pur e = true) (h1 : (toPy d).depth ≤ 64) (h2 : (toPy e).depth ≤ 64) (ha : Ev ta σ G M M1 (DD K d)) (hb : Ev tb σ G M1 M2 (DD K e)) : Ev (tOp (rNeD K) ta tb) σ G M M2 (DD K (.bool (!PyData.eqv (toPy d) (toPy e)))) := ev_op mo_dd ha hb fun x y G0 H s k hx hy Q q =>
  ⟨toPy d, toPy e, dq_dp d p1 (dp_up k.g d hx), dq_dp e p2 (dp_up k.g e hy), shp_of (n := 0) p1 h1 hx, shp_of (n := 0) p2 h2 hy, q _ G0 H (Same.refl _) k (.bl _)⟩
theorem ev_inD [Tb] (p1 : pur d = true) (p2 : pur (.list ds) = true) (h1 : (toPy d).depth ≤ 64) (h2 : (toPy (.list ds)).depth ≤ 64) (ha : Ev ta σ G M M1 (DD K d)) (hb : Ev tb σ G M1 M2 (DD K (.list ds))) : Ev (tOp (rInD K) ta tb) σ G M M2 (DD K (.bool ((toPys ds).any fun z => PyData.eqv z (toPy d)))) := ev_op mo_dd ha hb fun x y G0 H s k hx hy Q q => by
  have e : toPy (.list ds) = .list (toPys ds) := by unfold toPy; rfl
  have h3 := dq_dp _ p2 (dp_up k.g _ hy)
  have h4 := shp_of (n := 0) p2 h2 hy
  rw [e] at h3 h4
  exact ⟨toPy d, toPys ds, dq_dp d p1 (dp_up k.g d hx), h3, shp_of (n := 0) p1 h1 hx, h4, q _ G0 H (Same.refl _) k (.bl _)⟩
theorem ev_neg [Tb] {i : Int} (ha : Ev ta σ G M M1 (DD K (.int i))) : Ev (tUn (rU fun i => .int (-i)) ta) σ G M M1 (DD K (.int (-i))) := fun G0 H s k Q q =>
  ha G0 H s k _ fun x G1 H1 s1 k1 hx => by
    cases hx
    exact ⟨i, rfl, q _ G1 H1 s1 k1 (.int _)⟩
def isND : Dat → Bool
  | .none => true
  | _ => false
theorem ev_isN [Tb] (ha : Ev ta σ G M M1 (DD K d)) (hb : Ev tb σ G M1 M2 (DD K .none)) : Ev (tOp (fun x y H Q => y = .non ∧ Q (.bl (decide (x = .non))) H) ta tb) σ G M M2 (DD K (.bool (isND d))) := ev_op mo_dd ha hb fun x y G0 H s k hx hy Q q => by
  cases hy
  refine ⟨rfl, q _ G0 H (Same.refl _) k ?_⟩
  cases hx <;> exact .bl _
theorem ev_notN [Tb] (ha : Ev ta σ G M M1 (DD K d)) (hb : Ev tb σ G M1 M2 (DD K .none)) : Ev (tOp (fun x y H Q => y = .non ∧ Q (.bl (!decide (x = .non))) H) ta tb) σ G M M2 (DD K (.bool (!isND d))) := ev_op mo_dd ha hb fun x y G0 H s k hx hy Q q => by
  cases hy
  refine ⟨rfl, q _ G0 H (Same.refl _) k ?_⟩
  cases hx <;> exact .bl _
/-! ### items and slices -/
theorem dp_list {G : Hp} {v : V} (h : Dq K G v (.list ds)) : ∃ a vs, v = .ref a ∧ G a = some (.lst vs) ∧ DqAll K G vs ds := by
  cases h with | lst a b => exact ⟨_, _, rfl, a, b⟩
theorem dp_tuple {G : Hp} {v : V} (h : Dq K G v (.tuple ds)) : ∃ a vs, v = .ref a ∧ SqT K G a vs ∧ DqAll K G vs ds := by
  cases h with | tup a b => exact ⟨_, _, rfl, a.sq, b⟩
theorem dp_rtup {G : Hp} {v : V} (h : Dq K G v (.rtup ds)) : ∃ a vs, v = .ref a ∧ G a = some (.tup vs) ∧ DqAll K G vs ds := by
  cases h with | rtup a b => exact ⟨_, _, rfl, a, b⟩
theorem atI_of {G : Hp} {vs : List V} {i : Int} (h : DqAll K G vs ds) (ha : atI ds i = some d) : ∃ v, atI vs i = some v ∧ Dq K G v d := by
  unfold atI at ha ⊢
  rw [dpAll_len h]
  cases e : ixN ds.length i with
  | none => rw [e] at ha; cases ha
  | some j =>
    rw [e] at ha
    obtain ⟨v, h1, h2⟩ := dpAll_get h ha
    exact ⟨v, h1, h2⟩
theorem ev_ixL [Tb] {i : Int} (hi : atI ds i = some d) (ha : Ev ta σ G M M1 (DD K (.list ds))) (hb : Ev tb σ G M1 M2 (DD K (.int i))) : Ev (tOp (rIxL K) ta tb) σ G M M2 (DD K d) := ev_op mo_dd ha hb fun x y G0 H s k hx hy Q q => by
  obtain ⟨a, vs, rfl, h1, h2⟩ := dp_list hx
  cases hy
  obtain ⟨v, h3, h4⟩ := atI_of h2 hi
  exact ⟨a, vs, i, v, rfl, rfl, .inl (.inl (k.g _ _ h1)), h3, q v G0 H (Same.refl _) k h4⟩
theorem ev_ixT [Tb] {i : Int} (hi : atI ds i = some d) (ha : Ev ta σ G M M1 (DD K (.tuple ds))) (hb : Ev tb σ G M1 M2 (DD K (.int i))) : Ev (tOp (rIxT K) ta tb) σ G M M2 (DD K d) := ev_op mo_dd ha hb fun x y G0 H s k hx hy Q q => by
  obtain ⟨a, vs, rfl, h1, h2⟩ := dp_tuple hx
  cases hy
  obtain ⟨v, h3, h4⟩ := atI_of h2 hi
  exact ⟨a, vs, i, v, rfl, rfl, sqT_up k.g h1, h3, q v G0 H (Same.refl _) k h4⟩
/-- an item of a list of one's own (its values told) -/
theorem ev_ixO [Tb] {i : Int} {p : Addr} {vs : List V} (ha : Ev ta σ G M M1 (OW p)) (hb : Ev tb σ G M1 M2 (DD K (.int i))) (hp : M2 p = some (.lst vs)) (hv : DqAll K G vs ds) (hi : atI ds i = some d) : Ev (tOp (rIxL K) ta tb) σ G M M2 (DD K d) := ev_op mo_ow ha hb fun x y G0 H s k hx hy Q q => by
  cases hx
  cases hy
  obtain ⟨v, h3, h4⟩ := atI_of hv hi
  exact ⟨p, vs, i, v, rfl, rfl, .inl (.inl (k.m _ _ hp)), h3, q v G0 H (Same.refl _) k (dp_up s d h4)⟩
def cut {α : Type} (xs : List α) (lo hi : Option Int) : List α := (xs.drop (HT.sIx xs.length 0 lo)).take (HT.sIx xs.length xs.length hi - HT.sIx xs.length 0 lo)
theorem cut_of {G : Hp} {vs : List V} {lo hi : Option Int} (h : DqAll K G vs ds) : DqAll K G (cutV vs lo hi) (cut ds lo hi) := by
  unfold cutV cut
  rw [dpAll_len h]
  exact dpAll_take _ (dpAll_drop _ h)
theorem eo_none [Tb] : EvO tNoPart σ G M M none := fun G0 H _ k Q q => q G0 H (Same.refl _) k
theorem eo_some [Tb] {i : Int} (h : Ev te σ G M M1 (DD K (.int i))) : EvO (tPart te) σ G M M1 (some i) := fun G0 H s k Q q => h G0 H s k _ fun v G1 H1 s1 k1 hv => by
  cases hv
  exact ⟨i, rfl, q G1 H1 s1 k1⟩
end
end Kx
end
section
set_option maxHeartbeats 2000000
namespace Kx
open PySem L2
section
variable {K : PySem.W.Frag} {σ : St} {G G' M M1 M2 M3 : Hp} {ta tb te tc : TE} {P P1 P2 : VP} {d e : Dat} {ds es : List Dat}
theorem ev_slT [Tb] {tl th : TO} {lo hi : Option Int} (h : Ev te σ G M M (DD K (.tuple ds))) (h1 : EvO tl σ G M M lo) (h2 : EvO th σ G M M hi) : Ev (tSl (rSlF K) te tl th) σ G M M (DD K (.tuple (cut ds lo hi))) := fun G0 H s k Q q =>
  h G0 H s k _ fun x G1 H1 s1 k1 hx => h1 G1 H1 (s.trans s1) k1 _ fun G2 H2 s2 k2 => h2 G2 H2 ((s.trans s1).trans s2) k2 _ fun G3 H3 s3 k3 => by
    have s13 := s2.trans s3
    have hx3 := dp_up s13 _ hx
    obtain ⟨a, vs, rfl, ha, hb⟩ := dp_tuple hx3
    refine ⟨a, vs, rfl, sqT_up k3.g ha, fun hw => ?_, fun _ => newT (s1.trans s13) k3 (cut_of hb) q⟩
    have e1 : cut ds lo hi = ds := by
      unfold cut
      rw [← dpAll_len hb, hw.1, hw.2, List.drop_zero, Nat.sub_zero, dpAll_len hb, List.take_length]
    rw [e1] at q
    exact q _ G3 H3 (s1.trans s13) k3 hx3
theorem ev_catT [Tb] (hl : ds.length + es.length ≤ sizeLine) (ha : Ev ta σ G M M1 (DD K (.tuple ds))) (hb : Ev tb σ G M1 M2 (DD K (.tuple es))) : Ev (tOp (rCatF K) ta tb) σ G M M2 (DD K (.tuple (ds ++ es))) := ev_op mo_dd ha hb fun x y G0 H s k hx hy Q q => by
  obtain ⟨a, vs, rfl, ha, hb⟩ := dp_tuple hx
  obtain ⟨b, ws, rfl, hc, hd⟩ := dp_tuple hy
  have l1 := dpAll_len hb
  have l2 := dpAll_len hd
  refine ⟨a, b, vs, ws, rfl, rfl, sqT_up k.g ha, sqT_up k.g hc, by rw [l1, l2]; exact hl, fun z => ?_, fun _ z => ?_, fun _ _ => newT (Same.refl _) k (dpAll_app hb hd) q⟩
  · subst z
    cases hb
    exact q _ G0 H (Same.refl _) k hy
  · subst z
    cases hd
    rw [List.append_nil] at q
    exact q _ G0 H (Same.refl _) k hx
theorem el_cat [Tb] (hl : ds.length + es.length ≤ sizeLine) (ha : Ev ta σ G M M1 (DD K (.list ds))) (hb : Ev tb σ G M1 M2 (DD K (.list es))) : EvL K (tOp rCat ta tb) σ G M M2 (ds ++ es) := el_op mo_dd ha hb fun x y G0 H s k hx hy Q q => by
  obtain ⟨a, vs, rfl, ha, hb⟩ := dp_list hx
  obtain ⟨b, ws, rfl, hc, hd⟩ := dp_list hy
  exact ⟨a, b, vs, ws, rfl, rfl, k.g _ _ ha, k.g _ _ hc, by rw [dpAll_len hb, dpAll_len hd]; exact hl, newL (Same.refl _) k (dpAll_app hb hd) q⟩
def rLen (K : PySem.W.Frag) : List V → Hp → VK → Prop := fun xs H Q => ∃ p ys, xs = [.ref p] ∧ (SqL K H p ys ∨ SqT K H p ys) ∧ Q (.int ys.length) H
theorem one_of {R : List V → Hp → Prop} {xs : List V} {G : Hp} (h : conP P nilP xs G) : ∃ v, xs = [v] ∧ P v G := by
  obtain ⟨v, r, rfl, hp, hr⟩ := h
  cases hr
  exact ⟨v, rfl, hp⟩
theorem ev_tupL [Tb] (ha : EvA (tCons ta tNil) σ G M M1 (conP (DD K (.list ds)) nilP)) : Ev (tCB (rTupOf K) (tCons ta tNil)) σ G M M1 (DD K (.tuple ds)) := ev_cb ha fun xs G0 H s k hx Q q => by
  obtain ⟨v, rfl, hv⟩ := one_of (R := nilP) hx
  obtain ⟨a, vs, rfl, ha, hb⟩ := dp_list hv
  exact ⟨a, vs, rfl, .inl ⟨.inl (.inl (k.g _ _ ha)), newT (Same.refl _) k hb q⟩⟩
theorem ev_tupO [Tb] {p : Addr} {vs : List V} (hp : M1 p = some (.lst vs)) (hd : DqAll K G vs ds) (ha : EvA (tCons ta tNil) σ G M M1 (conP (OW p) nilP)) : Ev (tCB (rTupOf K) (tCons ta tNil)) σ G M M1 (DD K (.tuple ds)) := ev_cb ha fun xs G0 H s k hx Q q => by
  obtain ⟨v, rfl, hv⟩ := one_of (R := nilP) hx
  cases hv
  exact ⟨p, vs, rfl, .inl ⟨.inl (.inl (k.m _ _ hp)), newT (Same.refl _) k (dpAll_up s _ hd) q⟩⟩
theorem ev_lenL [Tb] (ha : EvA (tCons ta tNil) σ G M M1 (conP (DD K (.list ds)) nilP)) : Ev (tCB (rLen K) (tCons ta tNil)) σ G M M1 (DD K (.int (ds.length : Int))) := ev_cb ha fun xs G0 H s k hx Q q => by
  obtain ⟨v, rfl, hv⟩ := one_of (R := nilP) hx
  obtain ⟨a, vs, rfl, ha, hb⟩ := dp_list hv
  refine ⟨a, vs, rfl, .inl (.inl (.inl (k.g _ _ ha))), q _ G0 H (Same.refl _) k ?_⟩
  rw [dpAll_len hb]
  exact .int _
theorem ev_lenT [Tb] (ha : EvA (tCons ta tNil) σ G M M1 (conP (DD K (.tuple ds)) nilP)) : Ev (tCB (rLen K) (tCons ta tNil)) σ G M M1 (DD K (.int (ds.length : Int))) := ev_cb ha fun xs G0 H s k hx Q q => by
  obtain ⟨v, rfl, hv⟩ := one_of (R := nilP) hx
  obtain ⟨a, vs, rfl, ha, hb⟩ := dp_tuple hv
  refine ⟨a, vs, rfl, .inr (sqT_up k.g ha), q _ G0 H (Same.refl _) k ?_⟩
  rw [dpAll_len hb]
  exact .int _
theorem ev_allL [Tb] {bs : List Bool} (ha : EvA (tCons ta tNil) σ G M M1 (conP (DD K (.list (bs.map Dat.bool))) nilP)) : Ev (tCB (rAll K) (tCons ta tNil)) σ G M M1 (DD K (.bool (bs.all id))) := ev_cb ha fun xs G0 H s k hx Q q => by
  obtain ⟨v, rfl, hv⟩ := one_of (R := nilP) hx
  obtain ⟨a, vs, rfl, ha, hb⟩ := dp_list hv
  rw [dpAll_bls hb] at ha
  exact ⟨a, bs, rfl, .inl (.inl (k.g _ _ ha)), q _ G0 H (Same.refl _) k (.bl _)⟩
def rInt1 : List V → Hp → VK → Prop := fun xs H Q => (∃ i, xs = [.int i] ∧ Q (.int i) H) ∨ ∃ k, xs = [.bl k] ∧ Q (.int (if k then 1 else 0)) H
theorem ev_intB [Tb] {b : Bool} (ha : EvA (tCons ta tNil) σ G M M1 (conP (DD K (.bool b)) nilP)) : Ev (tCB rInt1 (tCons ta tNil)) σ G M M1 (DD K (.int (if b then 1 else 0))) := ev_cb ha fun xs G0 H s k hx Q q => by
  obtain ⟨v, rfl, hv⟩ := one_of (R := nilP) hx
  cases hv
  exact .inr ⟨b, rfl, q _ G0 H (Same.refl _) k (.int _)⟩
def rAbs : List V → Hp → VK → Prop := fun xs H Q => ∃ i, xs = [.int i] ∧ Q (.int (if i < 0 then -i else i)) H
theorem ev_abs [Tb] {i : Int} (ha : EvA (tCons ta tNil) σ G M M1 (conP (DD K (.int i)) nilP)) : Ev (tCB rAbs (tCons ta tNil)) σ G M M1 (DD K (.int (if i < 0 then -i else i))) := ev_cb ha fun xs G0 H s k hx Q q => by
  obtain ⟨v, rfl, hv⟩ := one_of (R := nilP) hx
  cases hv
  exact ⟨i, rfl, q _ G0 H (Same.refl _) k (.int _)⟩
def rMaxI : List V → Hp → VK → Prop := fun xs H Q => ∃ i j, xs = [.int i, .int j] ∧ Q (.int (if j > i then j else i)) H
def rMinI : List V → Hp → VK → Prop := fun xs H Q => ∃ i j, xs = [.int i, .int j] ∧ Q (.int (if j < i then j else i)) H
theorem two_of {xs : List V} {G : Hp} (h : conP P (conP P1 nilP) xs G) : ∃ v w, xs = [v, w] ∧ P v G ∧ P1 w G := by
  obtain ⟨v, r, rfl, hp, hr⟩ := h
  obtain ⟨w, r, rfl, hq, hr⟩ := hr
  cases hr
  exact ⟨v, w, rfl, hp, hq⟩
theorem ev_max2 [Tb] {i j : Int} (ha : EvA (tCons ta (tCons tb tNil)) σ G M M1 (conP (DD K (.int i)) (conP (DD K (.int j)) nilP))) : Ev (tCB rMaxI (tCons ta (tCons tb tNil))) σ G M M1 (DD K (.int (if j > i then j else i))) := ev_cb ha fun xs G0 H s k hx Q q => by
  obtain ⟨v, w, rfl, hv, hw⟩ := two_of hx
  cases hv; cases hw
  exact ⟨i, j, rfl, q _ G0 H (Same.refl _) k (.int _)⟩
theorem ev_min2 [Tb] {i j : Int} (ha : EvA (tCons ta (tCons tb tNil)) σ G M M1 (conP (DD K (.int i)) (conP (DD K (.int j)) nilP))) : Ev (tCB rMinI (tCons ta (tCons tb tNil))) σ G M M1 (DD K (.int (if j < i then j else i))) := ev_cb ha fun xs G0 H s k hx Q q => by
  obtain ⟨v, w, rfl, hv, hw⟩ := two_of hx
  cases hv; cases hw
  exact ⟨i, j, rfl, q _ G0 H (Same.refl _) k (.int _)⟩
def rDivmod : List V → Hp → VK → Prop := fun xs H Q => ∃ i j, xs = [.int i, .int j] ∧ CDivW i j ∧ ∀ p, H p = none → Q (.ref p) (upd H p (.tup [.int (i / j), .int (i % j)]))
theorem ev_divmod [Tb] {i j : Int} (hc : CDivW i j) (ha : EvA (tCons ta (tCons tb tNil)) σ G M M1 (conP (DD K (.int i)) (conP (DD K (.int j)) nilP))) : Ev (tCB rDivmod (tCons ta (tCons tb tNil))) σ G M M1 (DD K (.rtup [.int (i / j), .int (i % j)])) := ev_cb ha fun xs G0 H s k hx Q q => by
  obtain ⟨v, w, rfl, hv, hw⟩ := two_of hx
  cases hv; cases hw
  exact ⟨i, j, rfl, hc, newR (Same.refl _) k (.cons (.int _) (.cons (.int _) .nil)) q⟩
/-! ### isinstance -/
def tyD : Dat → String
  | .none => "NoneType"
  | .bool _ => "bool"
  | .int _ => "int"
  | .str _ => "str"
  | .list _ => "list"
  | .tuple _ => "tuple"
  | .rtup _ => "tuple"
  | .dK _ _ => "dict"
  | .dT _ _ => "dict"
  | .ins _ _ _ => "object"
def isIns : Dat → Bool
  | .ins _ _ _ => true
  | .dT _ _ => true
  | _ => false
/-- what the library asks of an own class -/
structure ClsOk (K : PySem.W.Frag) (C : Addr) : Prop where
  cl : Cls K C
  ha : PySem.W.findIn K (.ref C) "__class__" = some (some (.builtin "object.__class__"))
  hn : PySem.W.specialIn K (.builtin "object.__class__") "__get__" = some (some (.builtin "getset_descriptor.__get__"))
  htk : PySem.W.takesIn K (.builtin "object.__class__") = some true
  hm : PySem.W.mroIn K C (.type "object") = some true
/-- the classes of the instances in d are known -/
def tyV (K : PySem.W.Frag) : Dat → Value
  | .ins C _ _ => .ref (clsAt K C)
  | d => .type (tyD d)
theorem tyx_of {H : Hp} {v : V} (s : Same G H) (hc : ∀ C ns xs, d = .ins C ns xs → ClsOk K (clsAt K C)) (hT : ∀ ks xs, d ≠ .dT ks xs) (h : Dq K G v d) : TyX K H v (tyV K d) := by
  cases h with
  | non => exact .base .non
  | bl b => exact .base (.bl b)
  | int i => exact .base (.int i)
  | str x => exact .base (.str _)
  | lst a b => exact .base (.lst (s _ _ a))
  | tup a b =>
    rcases a with ⟨o, a, _⟩ | ⟨o, its, n, h1, h2, _⟩
    · exact .fTuple (s _ _ a)
    · exact .kTuple h1 h2
  | rtup a b => exact .base (.tup (s _ _ a))
  | dK a _ _ _ =>
    rcases a with a | ⟨o, a⟩
    · exact .base (.dK (s _ _ a))
    · exact .fDict (s _ _ a)
  | dT a _ _ _ => exact absurd rfl (hT _ _)
  | ins a b c =>
    have q := hc _ _ _ rfl
    exact .base (.ins (s _ _ a) q.cl q.ha q.hn q.htk q.hm)
theorem tyV_of (h : isIns d = false) : tyV K d = .type (tyD d) := by
  cases d <;> first | rfl | cases h
theorem noDT (h : isIns d = false) : ∀ ks xs, d ≠ .dT ks xs := fun ks xs e => by subst e; cases h
theorem noIns (h : isIns d = false) : ∀ C ns xs, d = .ins C ns xs → ClsOk K (clsAt K C) := fun C ns xs e => by subst e; cases h
/-- a class's name among the arguments -/
abbrev CLS (n : String) : VP := fun v _ => v = .ty n
theorem mo_cls {n : String} : Mo (CLS n) := fun _ _ _ _ h => h
theorem ev_cls [Tb] {n : String} : Ev (tC (.ty n)) σ G M M (CLS n) := fun G0 H _ k Q q => q _ G0 H (Same.refl _) k rfl
theorem ev_isi [Tb] {n : String} {b : Bool} (hi : isIns d = false) (hb : kitB (tyD d) n = some b) (ha : EvA (tCons ta (tCons tb tNil)) σ G M M1 (conP (DD K d) (conP (CLS n) nilP))) : Ev (tCB (rIsi K) (tCons ta (tCons tb tNil))) σ G M M1 (DD K (.bool b)) := ev_cb ha fun xs G0 H s k hx Q q => by
  obtain ⟨v, w, rfl, hv, hw⟩ := two_of hx
  cases hw
  exact ⟨v, _, _, _, b, rfl, .ty n, tyV_of hi ▸ tyx_of k.g (noIns hi) (noDT hi) hv, kit_ty hb, q _ G0 H (Same.refl _) k (.bl _)⟩
/-! ### truth -/
theorem et_B [Tb] {b : Bool} (h : Ev te σ G M M1 (DD K (.bool b))) : EvT (tB te) σ G M M1 b := fun G0 H s k Q q => h G0 H s k _ fun v G1 H1 s1 k1 hv => by
  cases hv
  exact ⟨b, rfl, q G1 H1 s1 k1⟩
theorem et_test [Tb] {b : Bool} (h : Ev te σ G M M1 (DD K (.bool b))) : EvT (tTest te) σ G M M1 b := fun G0 H s k Q q => h G0 H s k _ fun v G1 H1 s1 k1 hv => by
  cases hv
  exact ⟨b, rfl, q G1 H1 s1 k1⟩
theorem et_not [Tb] {t : TT} {b : Bool} (h : EvT t σ G M M1 b) : EvT (tNot t) σ G M M1 (!b) := fun G0 H s k Q q => h G0 H s k _ fun G1 H1 s1 k1 => q G1 H1 s1 k1
theorem et_andG [Tb] {t u : TT} {a c : Bool} (h : EvT t σ G M M1 a) (h1 : a = true → EvT u σ G M1 M2 c) (h2 : a = false → c = false ∧ M2 = M1) : EvT (tAnd t u) σ G M M2 c := fun G0 H s k Q q => h G0 H s k _ fun G1 H1 s1 k1 => by
  cases a with
  | true => exact iteT (h1 rfl G1 H1 (s.trans s1) k1 Q fun G2 H2 s2 k2 => q G2 H2 (s1.trans s2) k2)
  | false =>
    obtain ⟨rfl, rfl⟩ := h2 rfl
    exact iteF (q G1 H1 s1 k1)
theorem et_orG [Tb] {t u : TT} {a c : Bool} (h : EvT t σ G M M1 a) (h1 : a = false → EvT u σ G M1 M2 c) (h2 : a = true → c = true ∧ M2 = M1) : EvT (tOr t u) σ G M M2 c := fun G0 H s k Q q => h G0 H s k _ fun G1 H1 s1 k1 => by
  cases a with
  | false => exact iteF (h1 rfl G1 H1 (s.trans s1) k1 Q fun G2 H2 s2 k2 => q G2 H2 (s1.trans s2) k2)
  | true =>
    obtain ⟨rfl, rfl⟩ := h2 rfl
    exact iteT (q G1 H1 s1 k1)
theorem et_and [Tb] {t u : TT} {a b : Bool} (h : EvT t σ G M M1 a) (h1 : a = true → EvT u σ G M1 M1 b) : EvT (tAnd t u) σ G M M1 (a && b) := et_andG h (fun e => by rw [e]; exact h1 e) fun e => by rw [e]; exact ⟨rfl, rfl⟩
theorem et_or [Tb] {t u : TT} {a b : Bool} (h : EvT t σ G M M1 a) (h1 : a = false → EvT u σ G M1 M1 b) : EvT (tOr t u) σ G M M1 (a || b) := et_orG h (fun e => by rw [e]; exact h1 e) fun e => by rw [e]; exact ⟨rfl, rfl⟩
theorem ev_andG [Tb] {a c : Bool} (h : Ev ta σ G M M1 (DD K (.bool a))) (h1 : a = true → Ev tb σ G M1 M2 (DD K (.bool c))) (h2 : a = false → c = false ∧ M2 = M1) : Ev (tAndV ta tb) σ G M M2 (DD K (.bool c)) := fun G0 H s k Q q => h G0 H s k _ fun v G1 H1 s1 k1 hv => by
  cases hv
  refine ⟨a, rfl, ?_⟩
  cases a with
  | true => exact iteT (h1 rfl G1 H1 (s.trans s1) k1 Q fun v G2 H2 s2 k2 => q v G2 H2 (s1.trans s2) k2)
  | false =>
    obtain ⟨rfl, rfl⟩ := h2 rfl
    exact iteF (q _ G1 H1 s1 k1 (.bl _))
theorem ev_orG [Tb] {a c : Bool} (h : Ev ta σ G M M1 (DD K (.bool a))) (h1 : a = false → Ev tb σ G M1 M2 (DD K (.bool c))) (h2 : a = true → c = true ∧ M2 = M1) : Ev (tOrV ta tb) σ G M M2 (DD K (.bool c)) := fun G0 H s k Q q => h G0 H s k _ fun v G1 H1 s1 k1 hv => by
  cases hv
  refine ⟨a, rfl, ?_⟩
  cases a with
  | false => exact iteF (h1 rfl G1 H1 (s.trans s1) k1 Q fun v G2 H2 s2 k2 => q v G2 H2 (s1.trans s2) k2)
  | true =>
    obtain ⟨rfl, rfl⟩ := h2 rfl
    exact iteT (q _ G1 H1 s1 k1 (.bl _))
theorem ev_and [Tb] {a b : Bool} (h : Ev ta σ G M M1 (DD K (.bool a))) (h1 : a = true → Ev tb σ G M1 M1 (DD K (.bool b))) : Ev (tAndV ta tb) σ G M M1 (DD K (.bool (a && b))) := ev_andG h (fun e => by rw [e]; exact h1 e) fun e => by rw [e]; exact ⟨rfl, rfl⟩
theorem ev_not [Tb] {a : Bool} (h : Ev ta σ G M M1 (DD K (.bool a))) : Ev (tNotV ta) σ G M M1 (DD K (.bool (!a))) := fun G0 H s k Q q => h G0 H s k _ fun v G1 H1 s1 k1 hv => by
  cases hv
  exact ⟨a, rfl, q _ G1 H1 s1 k1 (.bl _)⟩
theorem ev_if [Tb] {t : TT} {b : Bool} (h : EvT t σ G M M1 b) (h1 : b = true → Ev ta σ G M1 M2 P) (h2 : b = false → Ev tb σ G M1 M2 P) : Ev (tIf t ta tb) σ G M M2 P := fun G0 H s k Q q => h G0 H s k _ fun G1 H1 s1 k1 => by
  cases b with
  | true => exact iteT (h1 rfl G1 H1 (s.trans s1) k1 Q fun v G2 H2 s2 k2 => q v G2 H2 (s1.trans s2) k2)
  | false => exact iteF (h2 rfl G1 H1 (s.trans s1) k1 Q fun v G2 H2 s2 k2 => q v G2 H2 (s1.trans s2) k2)
/-- a <= b <= c of whole numbers, and its kin -/
theorem ev_chainI [Tb] {g g' : Int → Int → Bool} {i j l : Int} (ha : Ev ta σ G M M1 (DD K (.int i))) (hb : Ev tb σ G M1 M2 (DD K (.int j))) (hc : Ev tc σ G M2 M2 (DD K (.int l))) :
    Ev (tChain (rI0 fun i j => .bl (g i j)) (rI0 fun i j => .bl (g' i j)) ta tb tc) σ G M M2 (DD K (.bool (g i j && g' j l))) := fun G0 H s k Q q =>
  ha G0 H s k _ fun x G1 H1 s1 k1 hx => hb G1 H1 (s.trans s1) k1 _ fun y G2 H2 s2 k2 hy => by
    cases hx; cases hy
    refine ⟨i, j, rfl, rfl, g i j, rfl, ?_⟩
    cases e : g i j with
    | true =>
      refine iteT (hc G2 H2 ((s.trans s1).trans s2) k2 _ fun z G3 H3 s3 k3 hz => ?_)
      cases hz
      refine ⟨j, l, rfl, rfl, ?_⟩
      rw [e] at q
      exact q _ G3 H3 ((s1.trans s2).trans s3) k3 (.bl _)
    | false =>
      rw [e] at q
      exact iteF (q _ G2 H2 (s1.trans s2) k2 (.bl _))
/-! ### calls -/
/-- the promise of a def that leaves all as it is: m tells its value -/
def spP [Tb] {α ρ : Type} (args : α → List V → Hp → Prop) (m : α → Option ρ) (res : ρ → VP) : Sp := fun vs H Q _ =>
  ∃ (G M : Hp) (a : α) (r : ρ), Ok G M H ∧ args a vs G ∧ m a = some r ∧ ∀ v G' H', Same G G' → Ok G' M H' → res r v G' → Q v H'
/-- the store of the draws -/
abbrev Sto := Int × Int × Int
def sto (z : Sto) : HO := .lst [.int z.1, .int z.2.1, .int z.2.2]
/-- the promise of a def that draws from the store -/
def spD [Tb] {α ρ : Type} (args : α → List V → Hp → Prop) (m : α → Sto → Option (ρ × Sto)) (res : ρ → VP) : Sp := fun vs H Q _ =>
  ∃ (G M : Hp) (s : Addr) (z z' : Sto) (a : α) (r : ρ) (ws : List V), vs = .ref s :: ws ∧ Ok G M H ∧ M s = some (sto z) ∧ args a ws G ∧ m a z = some (r, z') ∧ ∀ v G' H', Same G G' → Ok G' (upd M s (sto z')) H' → res r v G' → Q v H'
theorem ev_callP [Tb] {α ρ : Type} {args : α → List V → Hp → Prop} {m : α → Option ρ} {res : ρ → VP} {E : XK} {t : TA} {a : α} {r : ρ} (hm : m a = some r) (ha : EvA t σ G M M1 (args a)) : Ev (tCall (spP args m res) [] E t) σ G M M1 (res r) := fun G0 H s k Q q =>
  ha G0 H s k _ fun vs G1 H1 s1 k1 hv => by
    rw [List.append_nil]
    exact ⟨G1, M1, a, r, k1, hv, hm, fun v G2 H2 s2 k2 hr => q v G2 H2 (s1.trans s2) k2 hr⟩
theorem ev_callD [Tb] {α ρ : Type} {args : α → List V → Hp → Prop} {m : α → Sto → Option (ρ × Sto)} {res : ρ → VP} {E : XK} {t : TA} {a : α} {r : ρ} {s : Addr} {z z' : Sto} (hs : M1 s = some (sto z)) (hm : m a z = some (r, z')) (ha : EvA t σ G M M1 (conP (OW s) (args a))) : Ev (tCall (spD args m res) [] E t) σ G M (upd M1 s (sto z')) (res r) := fun G0 H s k Q q =>
  ha G0 H s k _ fun vs G1 H1 s1 k1 hv => by
    obtain ⟨v, ws, rfl, rfl, hw⟩ := hv
    rw [List.append_nil]
    exact ⟨G1, M1, _, z, z', a, r, ws, rfl, k1, hs, hw, hm, fun v G2 H2 s2 k2 hr => q v G2 H2 (s1.trans s2) k2 hr⟩
end
end Kx
end
section
set_option maxHeartbeats 2000000
namespace Kx
open PySem L2
/-! ### the rules under these names -/
section
variable {X : Cx}
theorem cl_len : CallR X (.builtin "len") (rLen X.K) := call_len_seq
theorem cl_tuple : CallR X (.type "tuple") (rTupOf X.K) := cl_tupleF
theorem cl_int : CallR X (.type "int") rInt1 := call_int1
theorem cl_abs : CallR X (.builtin "abs") rAbs := call_abs
theorem cl_max2 (h : X.calm = true) : CallR X (.builtin "max") rMaxI := call_max2 h
theorem cl_min2 (h : X.calm = true) : CallR X (.builtin "min") rMinI := call_min2 h
theorem cl_divmod : CallR X (.builtin "divmod") rDivmod := fun pins s σ H xs us Q I r h => by
  obtain ⟨i, j, rfl, hc, q⟩ := h
  exact call_divmodW pins s σ H _ us Q I r ⟨i, j, rfl, ⟨hc.1, PyProof.noPylong_of_log2 hc.2⟩, q⟩
end
section
variable {K : PySem.W.Frag} {σ : St} {G G' M M1 M2 M3 : Hp} {ta tb te tc : TE} {P P1 P2 : VP} {d e : Dat} {ds es : List Dat}
/-! ### what is walked -/
def Walks [Tb] (K : PySem.W.Frag) (J : It) (G : Hp) (ds : List Dat) : Prop :=
  ∃ (Y : Nat → Hp → V → Hp → Prop) (Gd : Hp → Prop), Walk J ds.length Gd Y ∧ (∀ H, Same G H → Gd H) ∧
    ∀ i d H x H' G2 M2, ds[i]? = some d → Same G G2 → Ok G2 M2 H → Y i H x H' → ∃ G3, Same G2 G3 ∧ Ok G3 M2 H' ∧ Dq K G3 x d
def Src [Tb] (K : PySem.W.Frag) (wi : TI) (σ : St) (G M M' : Hp) (ds : List Dat) : Prop :=
  ∀ G0 H, Same G G0 → Ok G0 M H → ∀ R : It → Hp → Prop, (∀ J G' H', Same G0 G' → Ok G' M' H' → Walks K J G' ds → R J H') → wi σ H R
theorem dqAll_at {vs : List V} {i : Nat} {x : V} (h : DqAll K G vs ds) (hx : vs[i]? = some x) (hd : ds[i]? = some d) : Dq K G x d := by
  obtain ⟨v, h1, h2⟩ := dpAll_get h hd
  rw [hx] at h1
  cases h1
  exact h2
theorem src_list [Tb] (h : Ev ta σ G M M1 (DD K (.list ds))) : Src K (iList K ta) σ G M M1 ds := fun G0 H s k R q =>
  h G0 H s k _ fun v G1 H1 s1 k1 hv => by
    obtain ⟨a, vs, rfl, h1, h2⟩ := dp_list hv
    refine ⟨a, rfl, ⟨vs, .inl (.inl (k1.g _ _ h1))⟩, q _ G1 H1 s1 k1 ?_⟩
    refine ⟨_, _, (dpAll_len h2) ▸ (walk_list (K := K) (a := a) (xs := vs)), fun H s => .inl (.inl (s _ _ h1)), fun i d H x H' G2 M2 hd s2 k2 y => ?_⟩
    obtain ⟨rfl, hx⟩ := y
    exact ⟨G2, Same.refl _, k2, dp_up s2 _ (dqAll_at h2 hx hd)⟩
theorem src_tup [Tb] (h : Ev ta σ G M M1 (DD K (.tuple ds))) : Src K (iTup K ta) σ G M M1 ds := fun G0 H s k R q =>
  h G0 H s k _ fun v G1 H1 s1 k1 hv => by
    obtain ⟨a, vs, rfl, h1, h2⟩ := dp_tuple hv
    refine ⟨a, rfl, ⟨vs, sqT_up k1.g h1⟩, q _ G1 H1 s1 k1 ?_⟩
    refine ⟨_, _, (dpAll_len h2) ▸ (walk_tup (K := K) (a := a) (xs := vs)), fun H s => sqT_up s h1, fun i d H x H' G2 M2 hd s2 k2 y => ?_⟩
    obtain ⟨rfl, hx⟩ := y
    exact ⟨G2, Same.refl _, k2, dp_up s2 _ (dqAll_at h2 hx hd)⟩
/-- lo, lo + 1, .. below hi -/
def irange (lo hi : Int) : List Int := (List.range (hi - lo).toNat).map fun k : Nat => lo + (k : Int)
theorem irange_len (lo hi : Int) : (irange lo hi).length = (hi - lo).toNat := by
  unfold irange
  rw [List.length_map, List.length_range]
theorem irange_get {lo hi : Int} {i : Nat} (h : i < (hi - lo).toNat) : (irange lo hi)[i]? = some (lo + (i : Int)) := by
  unfold irange
  rw [List.getElem?_map, List.getElem?_range h]
  rfl
theorem walks_range [Tb] {lo hi : Int} {n : Nat} (e : n = (hi - lo).toNat) : Walks K (Itr lo n) G ((irange lo hi).map Dat.int) := by
  have el : ((irange lo hi).map Dat.int).length = n := by rw [List.length_map, irange_len, e]
  refine ⟨YFn fun i => .int (lo + i), fun _ => True, (by rw [el]; exact walk_range), fun H _ => True.intro, fun i d H x H' G2 M2 hd s2 k2 y => ?_⟩
  obtain ⟨rfl, rfl⟩ := y
  have hi : i < (hi - lo).toNat := by
    rw [← e, ← el]
    exact (List.getElem?_eq_some_iff.mp hd).1
  rw [List.getElem?_map, irange_get hi] at hd
  cases hd
  exact ⟨G2, Same.refl _, k2, .int _⟩
theorem src_range1 [Tb] {ta : TA} {n : Int} (h1 : -(2 ^ 62) ≤ n) (h2 : n < 2 ^ 62) (h : EvA ta σ G M M1 (conP (DD K (.int n)) nilP)) : Src K (iRng1 ta) σ G M M1 ((irange 0 n).map Dat.int) := fun G0 H s k R q =>
  h G0 H s k _ fun vs G1 H1 s1 k1 hv => by
    obtain ⟨v, rfl, hw⟩ := one_of (R := nilP) hv
    cases hw
    exact ⟨n, rfl, h1, h2, q _ G1 H1 s1 k1 (walks_range (by rw [Int.sub_zero]))⟩
theorem sok_sign {z : Str} {c : Nat} (h : sok z = true) (hc : c ∈ z.cps.toList) : sok ⟨#[c]⟩ = true := by
  unfold sok PyData.strOk at h ⊢
  rw [Array.all_eq_true'] at h
  simp only [List.all_toArray, List.all_cons, List.all_nil, Bool.and_true, decide_eq_true_eq]
  have := h c (by simpa using hc)
  simpa using this
theorem src_str [Tb] {z : Str} (h : Ev ta σ G M M1 (DD K (.str z))) : Src K (iStr ta) σ G M M1 (z.cps.toList.map fun c => Dat.str ⟨#[c]⟩) := fun G0 H s k R q =>
  h G0 H s k _ fun v G1 H1 s1 k1 hv => by
    have hs : sok z = true := by
      cases hv with
      | str h => exact h
    cases hv
    refine ⟨z, rfl, q _ G1 H1 s1 k1 ?_⟩
    have el : (z.cps.toList.map fun c => Dat.str ⟨#[c]⟩).length = z.cps.size := by simp
    refine ⟨_, _, el ▸ walk_str, fun H _ => True.intro, fun i d H x H' G2 M2 hd s2 k2 y => ?_⟩
    obtain ⟨rfl, c, hc, rfl⟩ := y
    have e1 : (z.cps.toList)[i]? = some c := by simpa using hc
    rw [List.getElem?_map, e1] at hd
    cases hd
    exact ⟨G2, Same.refl _, k2, .str (sok_sign hs (List.mem_of_getElem? e1))⟩
theorem walks_pair [Tb] {J : It} {n : Nat} {xs ys : Nat → Option V} {Gd : Hp → Prop} (w : Walk J n Gd (YPair xs ys)) (hn : ds.length = n) (hG : ∀ H, Same G H → Gd H)
    (hd : ∀ (i : Nat) (d : Dat) (x y : V), ds[i]? = some d → xs i = some x → ys i = some y → ∃ d1 d2, d = .rtup [d1, d2] ∧ Dq K G x d1 ∧ Dq K G y d2) : Walks K J G ds := by
  refine ⟨_, _, hn ▸ w, hG, fun i d H x H' G2 M2 hi s2 k2 y => ?_⟩
  obtain ⟨T, x, y, rfl, hT, rfl, hx, hy⟩ := y
  obtain ⟨d1, d2, rfl, h1, h2⟩ := hd i d x y hi hx hy
  have gT := Same.none k2.g hT
  have s3 : Same G2 (upd G2 T (.tup [x, y])) := Same.new gT
  exact ⟨upd G2 T (.tup [x, y]), s3, k2.newG _ hT, .rtup upd_same (.cons (dp_up (s2.trans s3) _ h1) (.cons (dp_up (s2.trans s3) _ h2) .nil))⟩
def enumD (ds : List Dat) : List Dat := ds.mapIdx fun i d => .rtup [.int (i : Int), d]
/-! ### targets -/
def Tg (g : TG) (v : V) (σ : St) (G : Hp) (F : St → Prop) : Prop := ∀ H Q, Same G H → (∀ σ2, F σ2 → Q σ2 H) → g v σ H Q
def Tgs (g : TGs) (vs : List V) (σ : St) (G : Hp) (F : St → Prop) : Prop := ∀ H Q, Same G H → (∀ σ2, F σ2 → Q σ2 H) → g vs σ H Q
theorem tg_name {i : Nat} {v : V} {F : St → Prop} (h : F (σ.set i (some v))) : Tg (gName i) v σ G F := fun _ _ _ q => q _ h
theorem tgs_nil {F : St → Prop} (h : F σ) : Tgs gNil [] σ G F := fun _ _ _ q => ⟨rfl, q _ h⟩
theorem tgs_cons {g : TG} {gs : TGs} {v : V} {vs : List V} {F : St → Prop} (h : Tg g v σ G fun σ2 => Tgs gs vs σ2 G F) : Tgs (gCons g gs) (v :: vs) σ G F := fun H Q s q =>
  ⟨v, vs, rfl, h H _ s fun σ2 h2 => h2 H _ s q⟩
theorem tg_tup {n : Nat} {gs : TGs} {v : V} {F : St → Prop} (hv : Dq K G v (.tuple ds)) (hn : ds.length = n) (h : ∀ vs, DqAll K G vs ds → Tgs gs vs σ G F) : Tg (gTup K n gs) v σ G F := fun H Q s q => by
  obtain ⟨a, vs, rfl, h1, h2⟩ := dp_tuple hv
  exact ⟨a, vs, rfl, sqT_up s h1, by rw [dpAll_len h2]; exact hn, h vs h2 H Q s q⟩
theorem tg_t3 {g1 g2 g3 : TG} {v : V} {F : St → Prop} {d1 d2 d3 : Dat} (hv : Dq K G v (.tuple [d1, d2, d3])) (h : ∀ v1 v2 v3, Dq K G v1 d1 → Dq K G v2 d2 → Dq K G v3 d3 → Tg g1 v1 σ G fun σ1 => Tg g2 v2 σ1 G fun σ2 => Tg g3 v3 σ2 G F) : Tg (gTup K 3 (gCons g1 (gCons g2 (gCons g3 gNil)))) v σ G F :=
  tg_tup hv rfl fun vs hs => by
    cases hs with
    | cons a b =>
      cases b with
      | cons b c =>
        cases c with
        | cons c d =>
          cases d
          exact tgs_cons fun H Q s q => h _ _ _ a b c H Q s fun σ1 h1 => q σ1 (tgs_cons fun H' Q' s' q' => h1 H' Q' s' fun σ2 h2 => q' σ2 (tgs_cons fun H'' Q'' s'' q'' => h2 H'' Q'' s'' fun σ3 h3 => q'' σ3 (tgs_nil h3)))
/-! ### comprehensions -/
/-- one turn's test and element: b the test's answer, o what is put behind (none: nothing) -/
def LcB [Tb] (K : PySem.W.Frag) (tt : TT) (te : TE) (σ : St) (G M M' : Hp) (o : Option Dat) : Prop :=
  ∃ (M1 : Hp) (b : Bool), EvT tt σ G M M1 b ∧ (b = true → ∃ e, o = some e ∧ Ev te σ G M1 M' (DD K e)) ∧ (b = false → o = none ∧ M' = M1)
theorem lcb_yes [Tb] (h : Ev te σ G M M1 (DD K e)) : LcB K tYes te σ G M M1 (some e) := ⟨M, true, fun G0 H _ k Q q => q G0 H (Same.refl _) k, fun _ => ⟨e, rfl, h⟩, fun z => Bool.noConfusion z⟩
/-- the general form: mm tells what may be changed, by the turn -/
theorem el_lcG [Tb] {wi : TI} {g : TG} {tt : TT} {vs : List Nat} (src : Src K wi σ G M M1 ds) (os : List (Option Dat)) (mm : Nat → Hp) (hm0 : mm 0 = M1) (hmn : mm ds.length = M2) (hdom : ∀ i a, (mm i a).isSome = (M1 a).isSome) (hl : os.length = ds.length) (hz : ds.length ≤ sizeLine)
    (hs : ∀ (i : Nat) (d : Dat) (o : Option Dat) (D : Addr) (acc : List V) (G1 : Hp) (v : V), ds[i]? = some d → os[i]? = some o → M1 D = none → Same G G1 → Dq K G1 v d →
      Tg g v (wipe σ vs) G1 fun σ2 => wipe σ2 vs = wipe σ vs ∧ LcB K tt te σ2 G1 (upd (mm i) D (.lst acc)) (upd (mm (i + 1)) D (.lst acc)) o) :
    EvL K (tLc wi g tt te vs) σ G M M2 (os.filterMap id) := by
  intro G0 H s k Q q
  refine src G0 H s k _ fun J G1 H1 s1 k1 w => ?_
  obtain ⟨Y, Gd, w, hGd, hY⟩ := w
  intro D hD
  have mD : M1 D = none := Same.none k1.m hD
  have none_at : ∀ i, mm i D = none := fun i => by
    have := hdom i D
    rw [mD] at this
    cases e : mm i D with
    | none => rfl
    | some _ => rw [e] at this; cases this
  refine lc_it w (fun i H => ∃ G2 acc, Same G1 G2 ∧ Ok G2 (upd (mm i) D (.lst acc)) H ∧ DqAll K G2 acc ((os.take i).filterMap id)) ?_ ?_ ?_ ?_
  · refine ⟨G1, [], Same.refl _, ?_, .nil⟩
    rw [hm0]
    exact k1.newM _ hD
  · rintro i H2 _ ⟨G2, acc, s2, k2, _⟩
    exact hGd H2 (s2.trans k2.g)
  · rintro i x H2 H3 hi ⟨G2, acc, s2, k2, hacc⟩ y
    obtain ⟨d, hd⟩ : ∃ d, ds[i]? = some d := ⟨ds[i], List.getElem?_eq_getElem hi⟩
    obtain ⟨o, ho⟩ : ∃ o, os[i]? = some o := ⟨os[i]'(by omega), List.getElem?_eq_getElem (by omega)⟩
    obtain ⟨G3, s3, k3, hx⟩ := hY i d H2 x H3 G2 _ hd s2 k2 y
    refine hs i d o D acc G3 x hd ho mD (((s.trans s1).trans s2).trans s3) hx H3 _ k3.g ?_
    rintro σ2 ⟨hw, Mx, b, h1, h2, h3⟩
    refine ⟨hw, h1 G3 H3 (Same.refl _) k3 _ fun G4 H4 s4 k4 => ?_⟩
    have et : (os.take (i + 1)).filterMap id = (os.take i).filterMap id ++ o.toList := by
      rw [List.take_add_one, ho, List.filterMap_append]
      cases o <;> rfl
    cases b with
    | true =>
      obtain ⟨e, rfl, he⟩ := h2 rfl
      refine iteT (he G4 H4 s4 k4 _ fun z G5 H5 s5 k5 hz5 => ?_)
      refine ⟨acc, k5.m _ _ upd_same, ?_, ?_⟩
      · rw [dpAll_len hacc]
        refine Nat.lt_of_le_of_lt (List.length_filterMap_le _ _) ?_
        rw [List.length_take]
        omega
      · refine ⟨G5, acc ++ [z], ((s2.trans s3).trans s4).trans s5, ?_, ?_⟩
        · have := k5.chg (p := D) (u := .lst acc) (.lst (acc ++ [z])) upd_same
          rw [upd_upd] at this
          exact this
        · rw [et]
          exact dpAll_app (dpAll_up ((s3.trans s4).trans s5) _ hacc) (.cons hz5 .nil)
    | false =>
      obtain ⟨rfl, e2⟩ := h3 rfl
      subst e2
      refine iteF ⟨G4, acc, (s2.trans s3).trans s4, k4, ?_⟩
      rw [et, show (none : Option Dat).toList = [] from rfl, List.append_nil]
      exact dpAll_up (s3.trans s4) _ hacc
  · rintro H2 ⟨G2, acc, s2, k2, hacc⟩
    have e1 : os.take ds.length = os := by rw [← hl, List.take_length]
    rw [e1] at hacc
    have := none_at ds.length
    rw [hmn] at k2 this
    exact q D acc G2 H2 (s1.trans s2) k2 this hacc
/-- nothing is changed by the turns, no test -/
theorem el_lc [Tb] {wi : TI} {g : TG} {vs : List Nat} (src : Src K wi σ G M M1 ds) (es : List Dat) (hl : es.length = ds.length) (hz : ds.length ≤ sizeLine)
    (hs : ∀ (i : Nat) (d e : Dat) (Mx G1 : Hp) (v : V), ds[i]? = some d → es[i]? = some e → Same M1 Mx → Same G G1 → Dq K G1 v d → Tg g v (wipe σ vs) G1 fun σ2 => wipe σ2 vs = wipe σ vs ∧ Ev te σ2 G1 Mx Mx (DD K e)) :
    EvL K (tLc wi g tYes te vs) σ G M M1 es := by
  have := el_lcG (tt := tYes) (te := te) (g := g) (vs := vs) (M2 := M1) src (es.map some) (fun _ => M1) rfl rfl (fun _ _ => rfl) (by rw [List.length_map]; exact hl) hz fun i d o D acc G1 v hd ho hD s hv => by
    rw [List.getElem?_map] at ho
    cases e : es[i]? with
    | none => rw [e] at ho; cases ho
    | some e' =>
      rw [e] at ho
      cases ho
      exact fun H Q sg q => hs i d e' (upd M1 D (.lst acc)) G1 v hd e (Same.new hD) s hv H Q sg fun σ2 h2 => q σ2 ⟨h2.1, lcb_yes h2.2⟩
  rw [List.filterMap_map, show (id ∘ some : Dat → Option Dat) = some from rfl, List.filterMap_some] at this
  exact this
/-- the turns draw: zs tells the store ahead of each -/
theorem el_lcD [Tb] {wi : TI} {g : TG} {vs : List Nat} {s : Addr} {zs : Nat → Sto} (src : Src K wi σ G M M1 ds) (es : List Dat) (h0 : M1 s = some (sto (zs 0))) (hl : es.length = ds.length) (hz : ds.length ≤ sizeLine)
    (hs : ∀ (i : Nat) (d e : Dat) (Mx G1 : Hp) (v : V), ds[i]? = some d → es[i]? = some e → (∀ a o, a ≠ s → M1 a = some o → Mx a = some o) → Mx s = some (sto (zs i)) → Same G G1 → Dq K G1 v d → Tg g v (wipe σ vs) G1 fun σ2 => wipe σ2 vs = wipe σ vs ∧ Ev te σ2 G1 Mx (upd Mx s (sto (zs (i + 1)))) (DD K e)) :
    EvL K (tLc wi g tYes te vs) σ G M (upd M1 s (sto (zs ds.length))) es := by
  have := el_lcG (tt := tYes) (te := te) (g := g) (vs := vs) (M2 := upd M1 s (sto (zs ds.length))) src (es.map some) (fun i => upd M1 s (sto (zs i))) (upd_back h0) rfl (fun i a => by
    by_cases ha : a = s
    · subst ha; rw [upd_same, h0]; rfl
    · rw [upd_ne ha]) (by rw [List.length_map]; exact hl) hz fun i d o D acc G1 v hd ho hD sg hv => by
    rw [List.getElem?_map] at ho
    cases e : es[i]? with
    | none => rw [e] at ho; cases ho
    | some e' =>
      rw [e] at ho
      cases ho
      have nD : s ≠ D := ne_of_none h0 hD
      refine fun H Q sgh q => hs i d e' (upd (upd M1 s (sto (zs i))) D (.lst acc)) G1 v hd e (fun a o ha hm => ?_) ?_ sg hv H Q sgh fun σ2 h2 => q σ2 ⟨h2.1, lcb_yes ?_⟩
      · rw [upd_ne (ne_of_none hm hD), upd_ne ha]
        exact hm
      · rw [upd_ne nD, upd_same]
      · have h3 := h2.2
        rw [upd_comm (p := D) nD.symm, upd_upd] at h3
        exact h3
  rw [List.filterMap_map, show (id ∘ some : Dat → Option Dat) = some from rfl, List.filterMap_some] at this
  exact this
/-! ### statements -/
variable {D : Ends} {H : Hp} {u : TS}
theorem q_set [Tb] {i : Nat} {σ' : V → St} (he : Ev te σ G M M1 P) (ok : Ok G M H) (hσ : ∀ v, σ.set i (some v) = σ' v) (k : ∀ v G' H', Same G G' → Ok G' M1 H' → P v G' → u D (σ' v) H') : tSeq (tAsg te (gName i)) u D σ H :=
  he G H (Same.refl _) ok _ fun v G1 H1 s1 k1 hv => by
    show u D (σ.set i (some v)) H1
    rw [hσ v]
    exact k v G1 H1 s1 k1 hv
theorem q_setL [Tb] {i : Nat} {σ' : V → St} (he : EvL K te σ G M M1 ds) (ok : Ok G M H) (hσ : ∀ v, σ.set i (some v) = σ' v) (k : ∀ p vs G' H', Same G G' → Ok G' (upd M1 p (.lst vs)) H' → M1 p = none → DqAll K G' vs ds → u D (σ' (.ref p)) H') : tSeq (tAsg te (gName i)) u D σ H :=
  he G H (Same.refl _) ok _ fun p vs G1 H1 s1 k1 hp hv => by
    show u D (σ.set i (some (.ref p))) H1
    rw [hσ]
    exact k p vs G1 H1 s1 k1 hp hv
theorem q_ret [Tb] (he : Ev te σ G M M1 P) (ok : Ok G M H) (k : ∀ v G' H', Same G G' → Ok G' M1 H' → P v G' → D.rt v H') : tSeq (tRet te) u D σ H :=
  he G H (Same.refl _) ok _ k
theorem q_expr [Tb] (he : Ev te σ G M M1 P) (ok : Ok G M H) (k : ∀ G' H', Same G G' → Ok G' M1 H' → u D σ H') : tSeq (tDrop te) u D σ H :=
  he G H (Same.refl _) ok _ fun v G1 H1 s1 k1 _ => k G1 H1 s1 k1
theorem q_if [Tb] {c : TT} {t t' : TS} {b : Bool} (hc : EvT c σ G M M1 b) (ok : Ok G M H) (h1 : b = true → ∀ G' H', Same G G' → Ok G' M1 H' → t { D with nx := u D } σ H') (h2 : b = false → ∀ G' H', Same G G' → Ok G' M1 H' → t' { D with nx := u D } σ H') : tSeq (tIfS c t t') u D σ H :=
  hc G H (Same.refl _) ok _ fun G1 H1 s1 k1 => by
    cases b with
    | true => exact iteT (h1 rfl G1 H1 s1 k1)
    | false => exact iteF (h2 rfl G1 H1 s1 k1)
/-- behind an if whose ways meet: J tells where -/
theorem q_ifJ [Tb] {c : TT} {t t' : TS} {b : Bool} (J : St → Hp → Hp → Prop) (hc : EvT c σ G M M1 b) (ok : Ok G M H)
    (h1 : b = true → ∀ G' H' D', Same G G' → Ok G' M1 H' → D'.rt = D.rt → D'.bk = D.bk → D'.ct = D.ct → (∀ σ2 G2 M2 H2, Same G' G2 → Ok G2 M2 H2 → J σ2 G2 M2 → D'.nx σ2 H2) → t D' σ H')
    (h2 : b = false → ∀ G' H' D', Same G G' → Ok G' M1 H' → D'.rt = D.rt → D'.bk = D.bk → D'.ct = D.ct → (∀ σ2 G2 M2 H2, Same G' G2 → Ok G2 M2 H2 → J σ2 G2 M2 → D'.nx σ2 H2) → t' D' σ H')
    (k : ∀ σ2 G2 M2 H2, Same G G2 → Ok G2 M2 H2 → J σ2 G2 M2 → u D σ2 H2) : tSeq (tIfS c t t') u D σ H :=
  q_if hc ok (fun e G' H' s' k' => h1 e G' H' { D with nx := u D } s' k' rfl rfl rfl fun σ2 G2 M2 H2 s2 k2 j => k σ2 G2 M2 H2 (s'.trans s2) k2 j)
    (fun e G' H' s' k' => h2 e G' H' { D with nx := u D } s' k' rfl rfl rfl fun σ2 G2 M2 H2 s2 k2 j => k σ2 G2 M2 H2 (s'.trans s2) k2 j)
theorem q_nil (h : D.nx σ H) : tNext D σ H := h
theorem q_append [Tb] {p : Addr} {vs : List V} (ho : Ev ta σ G M M (OW p)) (ha : EvA (tCons te tNil) σ G M M1 (conP (DD K d) nilP)) (hp0 : M p = some (.lst vs)) (hp : M1 p = some (.lst vs)) (hl : vs.length < sizeLine) (ok : Ok G M H)
    (k : ∀ v G' H', Same G G' → Ok G' (upd M1 p (.lst (vs ++ [v]))) H' → Dq K G' v d → u D σ H') : tSeq (tDrop (tBM K "list" rAppend ta (tCons te tNil))) u D σ H :=
  ho G H (Same.refl _) ok _ fun x G1 H1 s1 k1 hx => by
    cases hx
    refine ⟨.inl ⟨rfl, _, .inl (.inl (k1.m _ _ hp0))⟩, ha G1 H1 s1 k1 _ fun xs G2 H2 s2 k2 hv => ?_⟩
    obtain ⟨v, rfl, hw⟩ := one_of (R := nilP) hv
    exact ⟨p, vs, v, rfl, rfl, k2.m _ _ hp, hl, k v G2 _ (s1.trans s2) (k2.chg _ hp) hw⟩
/-- xs[i] = e, xs a list of one's own -/
theorem q_setItem [Tb] {p : Addr} {vs : List V} {i : Int} {j : Nat} (he : Ev te σ G M M1 (DD K d)) (ho : Ev ta σ G M1 M1 (OW p)) (hi : Ev tb σ G M1 M2 (DD K (.int i))) (hp : M2 p = some (.lst vs)) (hj : ixN vs.length i = some j) (ok : Ok G M H)
    (k : ∀ v G' H', Same G G' → Ok G' (upd M2 p (.lst (vs.set j v))) H' → Dq K G' v d → u D σ H') : tSeq (tAsg te (gSub ta tb rSetL)) u D σ H :=
  he G H (Same.refl _) ok _ fun v G1 H1 s1 k1 hv => ho G1 H1 s1 k1 _ fun x G2 H2 s2 k2 hx => hi G2 H2 (s1.trans s2) k2 _ fun y G3 H3 s3 k3 hy => by
    cases hx; cases hy
    exact ⟨p, vs, i, j, rfl, rfl, k3.m _ _ hp, hj, k v G3 _ ((s1.trans s2).trans s3) (k3.chg _ hp) (dp_up (s2.trans s3) _ hv)⟩
/-! ### loops -/
theorem q_for [Tb] {wi : TI} {g : TG} {tb : TS} (src : Src K wi σ G M M1 ds) (ok : Ok G M H) (J : Nat → St → Hp → Hp → Prop) (h0 : ∀ G', Same G G' → J 0 σ G' M1)
    (hs : ∀ i d v σ1 G1 M2 H1 (N : St → Hp → Prop), ds[i]? = some d → J i σ1 G1 M2 → Same G G1 → Ok G1 M2 H1 → Dq K G1 v d → (∀ σ2 G2 M3 H2, Same G1 G2 → Ok G2 M3 H2 → J (i + 1) σ2 G2 M3 → N σ2 H2) → g v σ1 H1 fun σ2 H2 => tb { D with nx := N, ct := N, bk := u D } σ2 H2)
    (hJ : ∀ i σ1 G1 G2 M2, J i σ1 G1 M2 → Same G1 G2 → J i σ1 G2 M2)
    (hd : ∀ σ1 G1 M2 H1, Same G G1 → Ok G1 M2 H1 → J ds.length σ1 G1 M2 → u D σ1 H1) : tSeq (tFor wi g tb) u D σ H := by
  refine src G H (Same.refl _) ok _ fun J' G1 H1 s1 k1 w => ?_
  obtain ⟨Y, Gd, w, hGd, hY⟩ := w
  refine for_it w (D := { D with nx := u D }) (fun i σ1 H2 => ∃ G2 M2, Same G1 G2 ∧ Ok G2 M2 H2 ∧ J i σ1 G2 M2) ⟨G1, M1, Same.refl _, k1, h0 G1 s1⟩ ?_ ?_ ?_
  · rintro i σ1 H2 _ ⟨G2, M2, s2, k2, _⟩
    exact hGd H2 (s2.trans k2.g)
  · rintro i x σ1 H2 H3 hi ⟨G2, M2, s2, k2, j⟩ y
    obtain ⟨d, hd'⟩ : ∃ d, ds[i]? = some d := ⟨ds[i], List.getElem?_eq_getElem hi⟩
    obtain ⟨G3, s3, k3, hx⟩ := hY i d H2 x H3 G2 M2 hd' s2 k2 y
    exact hs i d x σ1 G3 M2 H3 _ hd' (hJ i σ1 G2 G3 M2 j s3) ((s1.trans s2).trans s3) k3 hx fun σ2 G4 M4 H4 s4 k4 j4 => ⟨G4, M4, (s2.trans s3).trans s4, k4, j4⟩
  · rintro σ1 H2 ⟨G2, M2, s2, k2, j⟩
    exact hd σ1 G2 M2 H2 (s1.trans s2) k2 j
theorem q_while [Tb] {c : TT} {tb : TS} (ok : Ok G M H) (J : Nat → St → Hp → Hp → Prop) (n : Nat) (h0 : J n σ G M)
    (hs : ∀ m σ1 G1 M2 H1, J m σ1 G1 M2 → Same G G1 → Ok G1 M2 H1 → ∃ (M3 : Hp) (b : Bool), EvT c σ1 G1 M2 M3 b ∧
      (b = true → ∀ G2 H2 (N : St → Hp → Prop), Same G1 G2 → Ok G2 M3 H2 → (∀ m' σ2 G3 M4 H3, m' < m → Same G2 G3 → Ok G3 M4 H3 → J m' σ2 G3 M4 → N σ2 H3) → tb { D with nx := N, ct := N, bk := u D } σ1 H2) ∧
      (b = false → ∀ G2 H2, Same G1 G2 → Ok G2 M3 H2 → u D σ1 H2)) : tSeq (tWhile c tb) u D σ H := by
  refine ⟨fun m σ1 H1 => ∃ G1 M1, Same G G1 ∧ Ok G1 M1 H1 ∧ J m σ1 G1 M1, ⟨n, G, M, Same.refl _, ok, h0⟩, ?_⟩
  rintro m σ1 H1 ⟨G1, M2, s1, k1, j⟩
  obtain ⟨M3, b, hc, ht, hf⟩ := hs m σ1 G1 M2 H1 j s1 k1
  refine hc G1 H1 (Same.refl _) k1 _ fun G2 H2 s2 k2 => ?_
  cases b with
  | true =>
    refine iteT ⟨fun σ' H' => ∃ m', m' < m ∧ ∃ G3 M4, Same G2 G3 ∧ Ok G3 M4 H' ∧ J m' σ' G3 M4, ?_, ?_⟩
    · rintro σ' H' ⟨m', hm', G3, M4, s3, k3, j3⟩
      exact ⟨m', hm', G3, M4, (s1.trans s2).trans s3, k3, j3⟩
    · exact ht rfl G2 H2 _ s2 k2 fun m' σ2 G3 M4 H3 hm' s3 k3 j3 => ⟨m', hm', G3, M4, s3, k3, j3⟩
  | false => exact iteF (hf rfl G2 H2 s2 k2)
end
end Kx
end
section
set_option maxHeartbeats 2000000
namespace Kx
open PySem L2
/-! ### the mirror's own words -/
theorem bs {α β : Type} {x : Option α} {f : α → Option β} {r : β} (h : x.bind f = some r) : ∃ a, x = some a ∧ f a = some r := by
  cases x with
  | none => cases h
  | some a => exact ⟨a, rfl, h⟩
theorem cond_t {α : Type} {b : Bool} {x y : α} {r : α} (e : b = true) (h : cond b x y = r) : x = r := by subst e; exact h
theorem cond_f {α : Type} {b : Bool} {x y : α} {r : α} (e : b = false) (h : cond b x y = r) : y = r := by subst e; exact h
instance (i j : Int) : Decidable (CMul i j) := by unfold CMul; exact inferInstance
instance (i j : Int) : Decidable (CDivN i j) := by unfold CDivN; exact inferInstance
instance (i j : Int) : Decidable (CDiv i j) := by unfold CDiv; exact inferInstance
instance (i j : Int) : Decidable (CPow i j) := by unfold CPow; exact inferInstance
def grd (p : Prop) [Decidable p] : Option Unit := if p then some () else none
theorem grd_of {p : Prop} [Decidable p] {u : Unit} (h : grd p = some u) : p := by
  unfold grd at h
  split at h
  · assumption
  · cases h
theorem grd_yes {p : Prop} [Decidable p] (h : p) : grd p = some () := by
  unfold grd
  rw [if_pos h]
def CMulO (i j : Int) : Prop := CMul i j ∨ CMulX i j
instance (i j : Int) : Decidable (CMulX i j) := by unfold CMulX; exact inferInstance
instance (i j : Int) : Decidable (CMulO i j) := by unfold CMulO; exact inferInstance
theorem op_mulO {X : Cx} : OpR X (binaryOp .Mult) (rI CMulO fun i j => .int (i * j)) := opI fun _ _ _ _ _ _ _ hc q => PyProof.Rows.mul_int q (hc.elim (fun h => h.ok) (fun h => h.ok))
def CDivO (i j : Int) : Prop := CDivN i j ∨ CDivW i j
instance (i j : Int) : Decidable (CDivW i j) := by unfold CDivW; exact inferInstance
instance (i j : Int) : Decidable (CDivO i j) := by unfold CDivO; exact inferInstance
theorem op_fdivO {X : Cx} : OpR X (binaryOp .FloorDiv) (rI CDivO fun i j => .int (i.fdiv j)) := by
  intro pins s σ H x y v u Q I rx ry h
  obtain ⟨i, j, rfl, rfl, hc, q⟩ := h
  rcases hc with hc | hc
  · exact op_fdivN pins s σ H _ _ v u Q I rx ry ⟨i, j, rfl, rfl, hc, q⟩
  · refine op_fdivW pins s σ H _ _ v u Q I rx ry ⟨i, j, rfl, rfl, hc, ?_⟩
    have e : i / j = i.fdiv j := (Int.fdiv_eq_ediv_of_nonneg i (by have := hc.1; omega)).symm
    show Q (.int (i / j)) H
    rw [e]
    exact q
def mulO (i j : Int) : Option Int := (grd (CMulO i j)).bind fun _ => some (i * j)
def fdivO (i j : Int) : Option Int := (grd (CDivO i j)).bind fun _ => some (i.fdiv j)
def modO (i j : Int) : Option Int := (grd (j ≠ 0)).bind fun _ => some (i.fmod j)
def powO (i j : Int) : Option Int := (grd (CPow i j)).bind fun _ => some (i ^ j.toNat)
theorem mulO_of {i j r : Int} (h : mulO i j = some r) : CMulO i j ∧ r = i * j := by
  obtain ⟨_, h1, h2⟩ := bs h
  exact ⟨grd_of h1, (Option.some.inj h2).symm⟩
theorem fdivO_of {i j r : Int} (h : fdivO i j = some r) : CDivO i j ∧ r = i.fdiv j := by
  obtain ⟨_, h1, h2⟩ := bs h
  exact ⟨grd_of h1, (Option.some.inj h2).symm⟩
theorem modO_of {i j r : Int} (h : modO i j = some r) : j ≠ 0 ∧ r = i.fmod j := by
  obtain ⟨_, h1, h2⟩ := bs h
  exact ⟨grd_of h1, (Option.some.inj h2).symm⟩
theorem powO_of {i j r : Int} (h : powO i j = some r) : CPow i j ∧ r = i ^ j.toNat := by
  obtain ⟨_, h1, h2⟩ := bs h
  exact ⟨grd_of h1, (Option.some.inj h2).symm⟩
theorem atI_map {α β : Type} {f : α → β} {xs : List α} {i : Int} {x : α} (h : atI xs i = some x) : atI (xs.map f) i = some (f x) := by
  unfold atI at h ⊢
  rw [List.length_map]
  cases e : ixN xs.length i with
  | none => rw [e] at h; cases h
  | some j =>
    rw [e] at h
    show (xs.map f)[j]? = _
    rw [List.getElem?_map, show xs[j]? = some x from h]
    rfl
/-- the longest that is made in one go -/
def mapO {α β : Type} (f : α → Option β) : List α → Option (List β)
  | [] => some []
  | x :: xs => (f x).bind fun y => (mapO f xs).bind fun ys => some (y :: ys)
theorem mapO_len {α β : Type} {f : α → Option β} : ∀ {xs : List α} {ys : List β}, mapO f xs = some ys → ys.length = xs.length
  | [], ys, h => by cases h; rfl
  | x :: xs, ys, h => by
    obtain ⟨y, _, h⟩ := bs h
    obtain ⟨zs, h2, h⟩ := bs h
    cases h
    exact congrArg (· + 1) (mapO_len h2)
theorem mapO_get {α β : Type} {f : α → Option β} : ∀ {xs : List α} {ys : List β} {i : Nat} {x : α} {y : β}, mapO f xs = some ys → xs[i]? = some x → ys[i]? = some y → f x = some y
  | [], ys, _, _, _, h, h1, _ => by simp at h1
  | a :: xs, ys, i, x, y, h, h1, h2 => by
    obtain ⟨b, hb, h⟩ := bs h
    obtain ⟨zs, hz, h⟩ := bs h
    cases h
    cases i with
    | zero => simp at h1 h2; subst h1; subst h2; exact hb
    | succ i => exact mapO_get hz (by simpa using h1) (by simpa using h2)
def lcO {α β : Type} (f : α → Option β) (xs : List α) : Option (List β) := (grd (xs.length ≤ 16777216)).bind fun _ => mapO f xs
def mapS {α β : Type} (f : α → Sto → Option (β × Sto)) : List α → Sto → Option (List β × Sto)
  | [], z => some ([], z)
  | x :: xs, z => (f x z).bind fun y => (mapS f xs y.2).bind fun ys => some (y.1 :: ys.1, ys.2)
def lcS {α β : Type} (f : α → Sto → Option (β × Sto)) (xs : List α) (z : Sto) : Option (List β × Sto) := (grd (xs.length ≤ 16777216)).bind fun _ => mapS f xs z
theorem mapS_get {α β : Type} {f : α → Sto → Option (β × Sto)} : ∀ {xs : List α} {z : Sto} {r : List β × Sto}, mapS f xs z = some r → r.1.length = xs.length ∧ ∃ zs : Nat → Sto, zs 0 = z ∧ zs xs.length = r.2 ∧
      ∀ (i : Nat) (x : α) (y : β), xs[i]? = some x → r.1[i]? = some y → f x (zs i) = some (y, zs (i + 1))
  | [], z, r, h => by cases h; exact ⟨rfl, fun _ => z, rfl, rfl, fun i x y h => by simp at h⟩
  | a :: xs, z, r, h => by
    obtain ⟨b, hb, h⟩ := bs h
    obtain ⟨r', hz, h⟩ := bs h
    cases h
    obtain ⟨hl, zs, h0, hn, hi⟩ := mapS_get hz
    refine ⟨congrArg (· + 1) hl, fun i => match i with | 0 => z | i + 1 => zs i, rfl, hn, fun i x y h1 h2 => ?_⟩
    cases i with
    | zero =>
      simp at h1 h2
      subst h1; subst h2
      show f a z = some (b.1, zs 0)
      rw [h0]
      exact hb
    | succ i => exact hi i x y (by simpa using h1) (by simpa using h2)
/-- a for over xs; a turn hands on the state (.inl) or returns (.inr) -/
def forO {S α : Type} (f : S → α → Option S) : List α → S → Option S
  | [], s => some s
  | x :: xs, s => (f s x).bind fun s' => forO f xs s'
def forR {S R α : Type} (f : S → α → Option (S ⊕ R)) : List α → S → Option (S ⊕ R)
  | [], s => some (.inl s)
  | x :: xs, s => (f s x).bind fun s' => match s' with
    | .inl s' => forR f xs s'
    | .inr r => some (.inr r)
def whileO {S : Type} (c : S → Option Bool) (f : S → Option S) : Nat → S → Option S
  | 0, _ => none
  | n + 1, s => (c s).bind fun b => cond b ((f s).bind fun s' => whileO c f n s') (some s)
abbrev eL {α : Type} (e : α → Dat) (xs : List α) : Dat := .list (xs.map e)
abbrev eT {α : Type} (e : α → Dat) (xs : List α) : Dat := .tuple (xs.map e)
abbrev eN (_ : Unit) : Dat := .none
abbrev eP2 {α β : Type} (e1 : α → Dat) (e2 : β → Dat) (p : α × β) : Dat := .tuple [e1 p.1, e2 p.2]
abbrev eR2 {α β : Type} (e1 : α → Dat) (e2 : β → Dat) (p : α × β) : Dat := .rtup [e1 p.1, e2 p.2]
abbrev eP3 {α β γ : Type} (e1 : α → Dat) (e2 : β → Dat) (e3 : γ → Dat) (p : α × β × γ) : Dat := .tuple [e1 p.1, e2 p.2.1, e3 p.2.2]
def eO {α : Type} (e : α → Dat) : Option α → Dat
  | none => .none
  | some x => e x
section
variable {K : PySem.W.Frag} {σ : St} {G G' M M1 M2 M3 : Hp} {ta tb te tc : TE} {P P1 P2 : VP} {d e : Dat} {ds es : List Dat}
theorem szl {n : Nat} (h : n ≤ 16777216) : n ≤ sizeLine := by rw [sizeLine_eq]; exact h
theorem szlt {n : Nat} (h : n < 16777216) : n < sizeLine := by rw [sizeLine_eq]; exact h
def enum {α : Type} (xs : List α) : List (Int × α) := xs.mapIdx fun i x => ((i : Int), x)
theorem enumD_map {α : Type} {ea : α → Dat} {xs : List α} : enumD (xs.map ea) = (enum xs).map (eR2 Dat.int ea) := by
  unfold enumD enum
  apply List.ext_getElem?
  intro i
  simp only [List.getElem?_mapIdx, List.getElem?_map, Option.map_map]
  cases xs[i]? <;> rfl
theorem Src.is [Tb] {wi : TI} {ds' : List Dat} (h : Src K wi σ G M M1 ds) (e : ds = ds') : Src K wi σ G M M1 ds' := e ▸ h
/-- a comprehension of data -/
theorem el_lcM [Tb] {α β : Type} {ea : α → Dat} {eb : β → Dat} {f : α → Option β} {xs : List α} {ys : List β} {wi : TI} {g : TG} {vs : List Nat} (src : Src K wi σ G M M1 (xs.map ea)) (hf : lcO f xs = some ys)
    (hs : ∀ (x : α) (y : β) (Mx G1 : Hp) (v : V), f x = some y → Same M1 Mx → Same G G1 → Dq K G1 v (ea x) → Tg g v (wipe σ vs) G1 fun σ2 => wipe σ2 vs = wipe σ vs ∧ Ev te σ2 G1 Mx Mx (DD K (eb y))) :
    EvL K (tLc wi g tYes te vs) σ G M M1 (ys.map eb) := by
  obtain ⟨_, h1, h2⟩ := bs hf
  have hl := mapO_len h2
  refine el_lc src (ys.map eb) (by rw [List.length_map, List.length_map, hl]) (by rw [List.length_map]; exact szl (grd_of h1)) fun i d e Mx G1 v hd he sM sG hv => ?_
  rw [List.getElem?_map] at hd he
  cases e1 : xs[i]? with
  | none => rw [e1] at hd; cases hd
  | some x =>
    cases e2 : ys[i]? with
    | none => rw [e2] at he; cases he
    | some y =>
      rw [e1] at hd; rw [e2] at he
      cases hd; cases he
      exact hs x y Mx G1 v (mapO_get h2 e1 e2) sM sG hv
theorem el_lcMD [Tb] {α β : Type} {ea : α → Dat} {eb : β → Dat} {f : α → Sto → Option (β × Sto)} {xs : List α} {r : List β × Sto} {z : Sto} {s : Addr} {wi : TI} {g : TG} {vs : List Nat} (src : Src K wi σ G M M1 (xs.map ea)) (h0 : M1 s = some (sto z)) (hf : lcS f xs z = some r)
    (hs : ∀ (x : α) (y : β) (z z' : Sto) (Mx G1 : Hp) (v : V), f x z = some (y, z') → (∀ a o, a ≠ s → M1 a = some o → Mx a = some o) → Mx s = some (sto z) → Same G G1 → Dq K G1 v (ea x) → Tg g v (wipe σ vs) G1 fun σ2 => wipe σ2 vs = wipe σ vs ∧ Ev te σ2 G1 Mx (upd Mx s (sto z')) (DD K (eb y))) :
    EvL K (tLc wi g tYes te vs) σ G M (upd M1 s (sto r.2)) (r.1.map eb) := by
  obtain ⟨_, h1, h2⟩ := bs hf
  obtain ⟨hl, zs, e0, en, hi⟩ := mapS_get h2
  subst e0
  rw [← en, ← List.length_map (as := xs) (f := ea)]
  refine el_lcD src (r.1.map eb) h0 (by rw [List.length_map, List.length_map, hl]) (by rw [List.length_map]; exact szl (grd_of h1)) fun i d e Mx G1 v hd he sM hMs sG hv => ?_
  rw [List.getElem?_map] at hd he
  cases e1 : xs[i]? with
  | none => rw [e1] at hd; cases hd
  | some x =>
    cases e2 : r.1[i]? with
    | none => rw [e2] at he; cases he
    | some y =>
      rw [e1] at hd; rw [e2] at he
      cases hd; cases he
      exact hs x y _ _ Mx G1 v (hi i x y e1 e2) sM hMs sG hv
/-! ### a for by its mirror -/
variable {D : Ends} {H : Hp} {u : TS}
theorem drop_cons {α : Type} {xs : List α} {i : Nat} {x : α} (h : xs[i]? = some x) : xs.drop i = x :: xs.drop (i + 1) := by
  obtain ⟨h1, h2⟩ := List.getElem?_eq_some_iff.mp h
  rw [List.drop_eq_getElem_cons h1, h2]
theorem q_forO [Tb] {S α : Type} {ea : α → Dat} {f : S → α → Option S} {xs : List α} {st fin : S} {wi : TI} {g : TG} {tb : TS} (src : Src K wi σ G M M1 (xs.map ea)) (ok : Ok G M H) (J : S → St → Hp → Hp → Prop) (hf : forO f xs st = some fin)
    (h0 : ∀ G', Same G G' → J st σ G' M1) (hJ : ∀ s σ1 G1 G2 M2, J s σ1 G1 M2 → Same G1 G2 → J s σ1 G2 M2)
    (hs : ∀ x v s s' σ1 G1 M2 H1 (N : St → Hp → Prop), f s x = some s' → J s σ1 G1 M2 → Same G G1 → Ok G1 M2 H1 → Dq K G1 v (ea x) → (∀ σ2 G2 M3 H2, Same G1 G2 → Ok G2 M3 H2 → J s' σ2 G2 M3 → N σ2 H2) → g v σ1 H1 fun σ2 H2 => tb { D with nx := N, ct := N, bk := u D } σ2 H2)
    (hd : ∀ σ1 G1 M2 H1, Same G G1 → Ok G1 M2 H1 → J fin σ1 G1 M2 → u D σ1 H1) : tSeq (tFor wi g tb) u D σ H := by
  refine q_for src ok (fun i σ1 G1 M2 => ∃ s, J s σ1 G1 M2 ∧ forO f (xs.drop i) s = some fin) (fun G' s' => ⟨st, h0 G' s', hf⟩) ?_ (fun i σ1 G1 G2 M2 ⟨s, j, e⟩ s2 => ⟨s, hJ s σ1 G1 G2 M2 j s2, e⟩) ?_
  · rintro i d v σ1 G1 M2 H1 N hd ⟨s, j, e⟩ s1 k1 hv hN
    rw [List.getElem?_map] at hd
    cases ex : xs[i]? with
    | none => rw [ex] at hd; cases hd
    | some x =>
      rw [ex] at hd
      cases hd
      rw [drop_cons ex] at e
      obtain ⟨s', e1, e2⟩ := bs e
      exact hs x v s s' σ1 G1 M2 H1 N e1 j s1 k1 hv fun σ2 G2 M3 H2 s2 k2 j2 => hN σ2 G2 M3 H2 s2 k2 ⟨s', j2, e2⟩
  · rintro σ1 G1 M2 H1 s1 k1 ⟨s, j, e⟩
    rw [List.length_map, List.drop_length] at e
    cases e
    exact hd σ1 G1 M2 H1 s1 k1 j
theorem q_forR [Tb] {S R α : Type} {ea : α → Dat} {f : S → α → Option (S ⊕ R)} {xs : List α} {st : S} {fin : S ⊕ R} {wi : TI} {g : TG} {tb : TS} (src : Src K wi σ G M M1 (xs.map ea)) (ok : Ok G M H) (J : S → St → Hp → Hp → Prop) (hf : forR f xs st = some fin)
    (h0 : ∀ G', Same G G' → J st σ G' M1) (hJ : ∀ s σ1 G1 G2 M2, J s σ1 G1 M2 → Same G1 G2 → J s σ1 G2 M2)
    (hs : ∀ x v s s' σ1 G1 M2 H1 (N : St → Hp → Prop), f s x = some s' → (∀ r, s' = .inr r → fin = .inr r) → J s σ1 G1 M2 → Same G G1 → Ok G1 M2 H1 → Dq K G1 v (ea x) → (∀ s2 σ2 G2 M3 H2, s' = .inl s2 → Same G1 G2 → Ok G2 M3 H2 → J s2 σ2 G2 M3 → N σ2 H2) → g v σ1 H1 fun σ2 H2 => tb { D with nx := N, ct := N, bk := u D } σ2 H2)
    (hd : ∀ s σ1 G1 M2 H1, fin = .inl s → Same G G1 → Ok G1 M2 H1 → J s σ1 G1 M2 → u D σ1 H1) : tSeq (tFor wi g tb) u D σ H := by
  refine q_for src ok (fun i σ1 G1 M2 => ∃ s, J s σ1 G1 M2 ∧ forR f (xs.drop i) s = some fin) (fun G' s' => ⟨st, h0 G' s', hf⟩) ?_ (fun i σ1 G1 G2 M2 ⟨s, j, e⟩ s2 => ⟨s, hJ s σ1 G1 G2 M2 j s2, e⟩) ?_
  · rintro i d v σ1 G1 M2 H1 N hd ⟨s, j, e⟩ s1 k1 hv hN
    rw [List.getElem?_map] at hd
    cases ex : xs[i]? with
    | none => rw [ex] at hd; cases hd
    | some x =>
      rw [ex] at hd
      cases hd
      rw [drop_cons ex] at e
      obtain ⟨s', e1, e2⟩ := bs e
      refine hs x v s s' σ1 G1 M2 H1 N e1 (fun r er => ?_) j s1 k1 hv fun s2 σ2 G2 M3 H2 es s2' k2 j2 => ?_
      · subst er
        exact (Option.some.inj e2).symm
      · subst es
        exact hN σ2 G2 M3 H2 s2' k2 ⟨s2, j2, e2⟩
  · rintro σ1 G1 M2 H1 s1 k1 ⟨s, j, e⟩
    rw [List.length_map, List.drop_length] at e
    exact hd s σ1 G1 M2 H1 (Option.some.inj e).symm s1 k1 j
theorem q_whileO [Tb] {S : Type} {c : S → Option Bool} {f : S → Option S} {st fin : S} {n : Nat} {tc : TT} {tb : TS} (ok : Ok G M H) (J : S → St → Hp → Hp → Prop) (hf : whileO c f n st = some fin) (h0 : J st σ G M)
    (hc : ∀ s b σ1 G1 M2 H1, c s = some b → J s σ1 G1 M2 → Same G G1 → Ok G1 M2 H1 → EvT tc σ1 G1 M2 M2 b)
    (hJ : ∀ s σ1 G1 G2 M2, J s σ1 G1 M2 → Same G1 G2 → J s σ1 G2 M2)
    (hs : ∀ s s' σ1 G1 M2 H1 (N : St → Hp → Prop), c s = some true → f s = some s' → J s σ1 G1 M2 → Same G G1 → Ok G1 M2 H1 → (∀ σ2 G2 M3 H2, Same G1 G2 → Ok G2 M3 H2 → J s' σ2 G2 M3 → N σ2 H2) → tb { D with nx := N, ct := N, bk := u D } σ1 H1)
    (hd : ∀ σ1 G1 M2 H1, c fin = some false → Same G G1 → Ok G1 M2 H1 → J fin σ1 G1 M2 → u D σ1 H1) : tSeq (tWhile tc tb) u D σ H := by
  refine q_while ok (fun m σ1 G1 M2 => ∃ s, J s σ1 G1 M2 ∧ whileO c f m s = some fin) n ⟨st, h0, hf⟩ ?_
  rintro m σ1 G1 M2 H1 ⟨s, j, e⟩ s1 k1
  cases m with
  | zero => cases e
  | succ m =>
    obtain ⟨b, e1, e2⟩ := bs e
    refine ⟨M2, b, hc s b σ1 G1 M2 H1 e1 j s1 k1, fun eb G2 H2 N s2 k2 hN => ?_, fun eb G2 H2 s2 k2 => ?_⟩
    · subst eb
      obtain ⟨s', e3, e4⟩ := bs e2
      exact hs s s' σ1 G2 M2 H2 N e1 e3 (hJ s σ1 G1 G2 M2 j s2) (s1.trans s2) k2 fun σ2 G3 M3 H3 s3 k3 j3 => hN m σ2 G3 M3 H3 (Nat.lt_succ_self m) s3 k3 ⟨s', j3, e4⟩
    · subst eb
      cases e2
      exact hd σ1 G2 M2 H2 e1 (s1.trans s2) k2 (hJ _ σ1 G1 G2 M2 j s2)
/-! ### a def's end -/
theorem same_fin {M0 M : Hp} {s : Addr} {o : HO} (hB : ∀ a u, a ≠ s → M0 a = some u → M a = some u) (hs : M s = some o) : Same (upd M0 s o) M := fun a u e => by
  by_cases ha : a = s
  · subst ha; rw [upd_same] at e; rw [hs]; exact e
  · rw [upd_ne ha] at e; exact hB a u ha e
end
end Kx
end
section
set_option maxHeartbeats 2000000
namespace Kx
open PySem L2
section
variable {K : PySem.W.Frag} {σ σ' : St} {G G' M M1 M2 M3 : Hp} {ta tb te tc : TE} {P P1 P2 : VP} {d e : Dat} {ds es : List Dat} {D : Ends} {H : Hp} {u : TS}
theorem nrm {F : St → Hp → Prop} (e : σ = σ') (h : F σ' H) : F σ H := e ▸ h
theorem gn {i : Nat} {v : V} {Q : St → Hp → Prop} (h : Q (σ.set i (some v)) H) : gName i v σ H Q := h
theorem gNil_eq {Q : St → Hp → Prop} : (fun σ' H' => gNil [] σ' H' Q) = Q := by
  funext σ' H'
  exact propext ⟨fun h => h.2, fun h => ⟨rfl, h⟩⟩
theorem gOne_eq {g : TG} {v : V} {Q : St → Hp → Prop} : (fun σ' H' => gCons g gNil [v] σ' H' Q) = fun σ' H' => g v σ' H' Q := by
  funext σ' H'
  refine propext ⟨fun ⟨w, r, e, z⟩ => ?_, fun z => ⟨v, [], rfl, ?_⟩⟩
  · cases e
    rw [gNil_eq] at z
    exact z
  · rw [gNil_eq]
    exact z
theorem gr2 {g1 g2 : TG} {v : V} {Q : St → Hp → Prop} {d1 d2 : Dat} (hv : Dq K G v (.rtup [d1, d2])) (s : Same G H) (h : ∀ v1 v2, Dq K G v1 d1 → Dq K G v2 d2 → g1 v1 σ H fun σ1 H1 => g2 v2 σ1 H1 Q) : gTup K 2 (gCons g1 (gCons g2 gNil)) v σ H Q := by
  obtain ⟨a, vs, rfl, h1, h2⟩ := dp_rtup hv
  cases h2 with
  | cons a1 b1 =>
    cases b1 with
    | cons a2 b2 =>
      cases b2
      refine ⟨a, _, rfl, (.inl (.inl (s _ _ h1))), rfl, _, _, rfl, ?_⟩
      rw [gOne_eq]
      exact h _ _ a1 a2
/-- x = e with any target: the target's own reading is left -/
theorem q_asgG [Tb] {g : TG} (he : Ev te σ G M M1 P) (ok : Ok G M H) (k : ∀ v G' H', Same G G' → Ok G' M1 H' → P v G' → g v σ H' (u D)) : tSeq (tAsg te g) u D σ H :=
  he G H (Same.refl _) ok _ k
/-- a store into a list of one's own, as a target -/
theorem gs_list [Tb] {p : Addr} {vs : List V} {i : Int} {j : Nat} {v : V} {Q : St → Hp → Prop} (ho : Ev ta σ G M M (OW p)) (hi : Ev tb σ G M M1 (DD K (.int i))) (hp : M1 p = some (.lst vs)) (hj : ixN vs.length i = some j) (ok : Ok G M H)
    (k : ∀ G' H', Same G G' → Ok G' (upd M1 p (.lst (vs.set j v))) H' → Q σ H') : gSub ta tb rSetL v σ H Q :=
  ho G H (Same.refl _) ok _ fun x G2 H2 s2 k2 hx => hi G2 H2 s2 k2 _ fun y G3 H3 s3 k3 hy => by
    cases hx; cases hy
    exact ⟨p, vs, i, j, rfl, rfl, k3.m _ _ hp, hj, k G3 _ (s2.trans s3) (k3.chg _ hp)⟩
end
end Kx
end
section
set_option maxHeartbeats 2000000
namespace Kx
open PySem L2
def catO {α : Type} (xs ys : List α) : Option (List α) := (grd (xs.length + ys.length ≤ 16777216)).bind fun _ => some (xs ++ ys)
theorem catO_of {α : Type} {xs ys r : List α} (h : catO xs ys = some r) : xs.length + ys.length ≤ 16777216 ∧ r = xs ++ ys := by
  obtain ⟨_, h1, h2⟩ := bs h
  exact ⟨grd_of h1, (Option.some.inj h2).symm⟩
def appO {α : Type} (xs : List α) (x : α) : Option (List α) := (grd (xs.length < 16777216)).bind fun _ => some (xs ++ [x])
theorem appO_of {α : Type} {xs r : List α} {x : α} (h : appO xs x = some r) : xs.length < 16777216 ∧ r = xs ++ [x] := by
  obtain ⟨_, h1, h2⟩ := bs h
  exact ⟨grd_of h1, (Option.some.inj h2).symm⟩
def rngO (n : Int) : Option (List Int) := (grd (-(2 ^ 62) ≤ n ∧ n < 2 ^ 62)).bind fun _ => some (irange 0 n)
def dmO (i j : Int) : Option (Int × Int) := (grd (CDivW i j)).bind fun _ => some (i / j, i % j)
theorem dmO_of {i j : Int} {r : Int × Int} (h : dmO i j = some r) : CDivW i j ∧ r = (i / j, i % j) := by
  obtain ⟨_, h1, h2⟩ := bs h
  exact ⟨grd_of h1, (Option.some.inj h2).symm⟩
def orR {S R T : Type} (x : S ⊕ R) (f : S → Option T) (g : R → Option T) : Option T := match x with
  | .inl s => f s
  | .inr r => g r
/-! ### encodings that == reads -/
structure EqE {α : Type} [DecidableEq α] (e : α → Dat) (n : Nat) : Prop where
  pur : ∀ x, pur (e x) = true
  dep : ∀ x, (toPy (e x)).depth ≤ n
  eqv : ∀ x y, PyData.eqv (toPy (e x)) (toPy (e y)) = decide (x = y)
theorem beq_dec {α : Type} [DecidableEq α] [BEq α] [LawfulBEq α] (x y : α) : (x == y) = decide (x = y) := by
  by_cases h : x = y <;> simp [h]
theorem eqe_int : EqE Dat.int 0 := ⟨fun _ => by unfold Kx.pur; rfl, fun _ => by unfold toPy PyData.depth; exact Nat.le_refl _, fun x y => by unfold toPy PyData.eqv; exact beq_dec x y⟩
theorem eqe_bool : EqE Dat.bool 0 := ⟨fun _ => by unfold Kx.pur; rfl, fun _ => by unfold toPy PyData.depth; exact Nat.le_refl _, fun x y => by unfold toPy PyData.eqv; exact beq_dec x y⟩
theorem eqe_str : EqE Dat.str 0 := ⟨fun _ => by unfold Kx.pur; rfl, fun _ => by unfold toPy PyData.depth; exact Nat.le_refl _, fun x y => by unfold toPy PyData.eqv; exact beq_dec x y⟩
theorem toPys_map : ∀ ds : List Dat, toPys ds = ds.map toPy
  | [] => by unfold toPys; rfl
  | d :: ds => by unfold toPys; rw [toPys_map ds]; rfl
theorem purs_all : ∀ {ds : List Dat}, (∀ d ∈ ds, pur d = true) → purs ds = true
  | [], _ => by unfold purs; rfl
  | d :: ds, h => by
    unfold purs
    rw [h d List.mem_cons_self, purs_all fun x hx => h x (List.mem_cons_of_mem _ hx)]
    rfl
theorem toPy_list {ds : List Dat} : toPy (.list ds) = .list (ds.map toPy) := by unfold toPy; rw [toPys_map]
theorem toPy_tuple {ds : List Dat} : toPy (.tuple ds) = .tuple (ds.map toPy) := by unfold toPy; rw [toPys_map]
theorem pur_list {ds : List Dat} (h : ∀ d ∈ ds, pur d = true) : pur (.list ds) = true := by unfold pur; exact purs_all h
theorem pur_tuple {ds : List Dat} (h : ∀ d ∈ ds, pur d = true) : pur (.tuple ds) = true := by unfold pur; exact purs_all h
section
variable {α β γ : Type} [DecidableEq α] [DecidableEq β] [DecidableEq γ] {e : α → Dat} {e2 : β → Dat} {e3 : γ → Dat} {n n2 n3 : Nat}
theorem depAll (h : ∀ x, (toPy (e x)).depth ≤ n) : ∀ xs : List α, PyData.depthAll ((xs.map e).map toPy) ≤ n
  | [] => Nat.zero_le _
  | x :: xs => by
    have h1 := h x
    have h2 := depAll h xs
    rw [List.map_cons, List.map_cons]
    unfold PyData.depthAll
    omega
theorem eqvAll_map (h : ∀ x y, PyData.eqv (toPy (e x)) (toPy (e y)) = decide (x = y)) : ∀ xs ys : List α, PyData.eqvAll ((xs.map e).map toPy) ((ys.map e).map toPy) = decide (xs = ys)
  | [], [] => by simp [PyData.eqvAll]
  | [], _ :: _ => by simp [PyData.eqvAll]
  | _ :: _, [] => by simp [PyData.eqvAll]
  | x :: xs, y :: ys => by
    rw [List.map_cons, List.map_cons, List.map_cons, List.map_cons]
    unfold PyData.eqvAll
    rw [h x y, eqvAll_map h xs ys]
    by_cases h1 : x = y <;> by_cases h2 : xs = ys <;> simp [h1, h2]
theorem purMap (h : EqE e n) (xs : List α) : ∀ d ∈ xs.map e, pur d = true := fun d hd => by
  obtain ⟨x, _, rfl⟩ := List.mem_map.mp hd
  exact h.pur x
theorem eqe_L (h : EqE e n) : EqE (eL e) (n + 1) := ⟨fun xs => pur_list (purMap h xs), fun xs => by rw [toPy_list]; unfold PyData.depth; exact Nat.succ_le_succ (depAll h.dep xs), fun xs ys => by rw [toPy_list, toPy_list]; unfold PyData.eqv; exact eqvAll_map h.eqv xs ys⟩
theorem eqe_P2 (h : EqE e n) (h2 : EqE e2 n2) : EqE (eP2 e e2) (n + n2 + 1) := by
  refine ⟨fun p => pur_tuple fun d hd => ?_, fun p => ?_, fun p q => ?_⟩
  · rcases List.mem_cons.mp hd with h1 | hd
    · rw [h1]; exact h.pur _
    · have : d = e2 p.2 := by simpa using hd
      rw [this]; exact h2.pur _
  · have a := h.dep p.1
    have b := h2.dep p.2
    rw [toPy_tuple]
    simp only [List.map_cons, List.map_nil, PyData.depth, PyData.depthAll]
    omega
  · obtain ⟨p1, p2⟩ := p
    obtain ⟨q1, q2⟩ := q
    rw [toPy_tuple, toPy_tuple]
    simp only [List.map_cons, List.map_nil, PyData.eqv, PyData.eqvAll, h.eqv, h2.eqv, Bool.and_true]
    by_cases a : p1 = q1 <;> by_cases b : p2 = q2 <;> simp [a, b]
end
section
variable {α β γ : Type} [DecidableEq α] {e : α → Dat} {n : Nat} {K : PySem.W.Frag} {σ : St} {G G' M M1 M2 M3 : Hp} {ta tb te tc : TE} {ds es : List Dat}
theorem ev_neE [Tb] {x y : α} (h : EqE e n) (hn : n ≤ 63) (ha : Ev ta σ G M M1 (DD K (e x))) (hb : Ev tb σ G M1 M2 (DD K (e y))) : Ev (tOp (rNeD K) ta tb) σ G M M2 (DD K (.bool (!decide (x = y)))) := by
  have := ev_neD (h.pur x) (h.pur y) (Nat.le_trans (h.dep x) (by omega)) (Nat.le_trans (h.dep y) (by omega)) ha hb
  rw [h.eqv] at this
  exact this
def memB {α : Type} [DecidableEq α] (x : α) (xs : List α) : Bool := decide (x ∈ xs)
theorem any_eqv (h : EqE e n) (x : α) : ∀ xs : List α, ((toPys (xs.map e)).any fun z => PyData.eqv z (toPy (e x))) = decide (x ∈ xs)
  | [] => by rw [toPys_map]; simp
  | y :: ys => by
    have ih := any_eqv h x ys
    rw [toPys_map] at ih ⊢
    rw [List.map_cons, List.map_cons, List.any_cons, ih, h.eqv]
    by_cases a : x = y
    · simp [a]
    · simp [a, Ne.symm a]
theorem ev_inE [Tb] {x : α} {xs : List α} (h : EqE e n) (hn : n ≤ 63) (ha : Ev ta σ G M M1 (DD K (e x))) (hb : Ev tb σ G M1 M2 (DD K (.list (xs.map e)))) : Ev (tOp (rInD K) ta tb) σ G M M2 (DD K (.bool (memB x xs))) := by
  have := ev_inD (h.pur x) ((eqe_L h).pur xs) (Nat.le_trans (h.dep x) (by omega)) (Nat.le_trans ((eqe_L h).dep xs) (by omega)) ha hb
  rw [any_eqv h] at this
  exact this
def NotN {α : Type} (e : α → Dat) : Prop := ∀ x, e x ≠ .none
theorem ev_isNO [Tb] {o : Option β} {e : β → Dat} (hn : NotN e) (ha : Ev ta σ G M M1 (DD K (eO e o))) (hb : Ev tb σ G M1 M2 (DD K .none)) : Ev (tOp (fun x y H Q => y = .non ∧ Q (.bl (decide (x = .non))) H) ta tb) σ G M M2 (DD K (.bool o.isNone)) := by
  refine ev_is (ev_isN ha hb) (congrArg Dat.bool ?_)
  cases o with
  | none => rfl
  | some x =>
    show isND (e x) = false
    have := hn x
    unfold isND
    split
    · contradiction
    · rfl
theorem ev_notNO [Tb] {o : Option β} {e : β → Dat} (hn : NotN e) (ha : Ev ta σ G M M1 (DD K (eO e o))) (hb : Ev tb σ G M1 M2 (DD K .none)) : Ev (tOp (fun x y H Q => y = .non ∧ Q (.bl (!decide (x = .non))) H) ta tb) σ G M M2 (DD K (.bool o.isSome)) := by
  refine ev_is (ev_notN ha hb) (congrArg Dat.bool ?_)
  cases o with
  | none => rfl
  | some x =>
    show (!isND (e x)) = true
    have := hn x
    unfold isND
    split
    · contradiction
    · rfl
theorem el_catO [Tb] {xs ys zs : List β} {e : β → Dat} (h : catO xs ys = some zs) (ha : Ev ta σ G M M1 (DD K (.list (xs.map e)))) (hb : Ev tb σ G M1 M2 (DD K (.list (ys.map e)))) : EvL K (tOp rCat ta tb) σ G M M2 (zs.map e) := by
  obtain ⟨h1, rfl⟩ := catO_of h
  rw [List.map_append]
  exact el_cat (by rw [List.length_map, List.length_map]; exact szl h1) ha hb
theorem ev_catTO [Tb] {xs ys zs : List β} {e : β → Dat} (h : catO xs ys = some zs) (ha : Ev ta σ G M M1 (DD K (.tuple (xs.map e)))) (hb : Ev tb σ G M1 M2 (DD K (.tuple (ys.map e)))) : Ev (tOp (rCatF K) ta tb) σ G M M2 (DD K (.tuple (zs.map e))) := by
  obtain ⟨h1, rfl⟩ := catO_of h
  rw [List.map_append]
  exact ev_catT (by rw [List.length_map, List.length_map]; exact szl h1) ha hb
theorem src_rngO [Tb] {ta : TA} {k : Int} {xs : List Int} (h : rngO k = some xs) (ha : EvA ta σ G M M1 (conP (DD K (.int k)) nilP)) : Src K (iRng1 ta) σ G M M1 (xs.map Dat.int) := by
  obtain ⟨_, h1, h2⟩ := bs h
  cases h2
  exact src_range1 (grd_of h1).1 (grd_of h1).2 ha
theorem ev_mulO [Tb] {i j r : Int} (hc : mulO i j = some r) (ha : Ev ta σ G M M1 (DD K (.int i))) (hb : Ev tb σ G M1 M2 (DD K (.int j))) : Ev (tOp (rI CMulO fun i j => .int (i * j)) ta tb) σ G M M2 (DD K (.int r)) := by
  obtain ⟨h, rfl⟩ := mulO_of hc
  exact ev_op mo_dd ha hb (rv_I (f := fun i j => .int (i * j)) (fun i j _ => .int _) h)
theorem ev_fdivO [Tb] {i j r : Int} (hc : fdivO i j = some r) (ha : Ev ta σ G M M1 (DD K (.int i))) (hb : Ev tb σ G M1 M2 (DD K (.int j))) : Ev (tOp (rI CDivO fun i j => .int (i.fdiv j)) ta tb) σ G M M2 (DD K (.int r)) := by
  obtain ⟨h, rfl⟩ := fdivO_of hc
  exact ev_op mo_dd ha hb (rv_I (f := fun i j => .int (i.fdiv j)) (fun i j _ => .int _) h)
theorem ev_modO [Tb] {i j r : Int} (hc : modO i j = some r) (ha : Ev ta σ G M M1 (DD K (.int i))) (hb : Ev tb σ G M1 M2 (DD K (.int j))) : Ev (tOp (rI (fun _ j => j ≠ 0) fun i j => .int (i.fmod j)) ta tb) σ G M M2 (DD K (.int r)) := by
  obtain ⟨h, rfl⟩ := modO_of hc
  exact ev_mod h ha hb
theorem ev_powO [Tb] {i j r : Int} (hc : powO i j = some r) (ha : Ev ta σ G M M1 (DD K (.int i))) (hb : Ev tb σ G M1 M2 (DD K (.int j))) : Ev (tOp (rI CPow fun i j => .int (i ^ j.toNat)) ta tb) σ G M M2 (DD K (.int r)) := by
  obtain ⟨h, rfl⟩ := powO_of hc
  exact ev_pow h ha hb
theorem ev_dmO [Tb] {i j : Int} {r : Int × Int} (hc : dmO i j = some r) (ha : EvA (tCons ta (tCons tb tNil)) σ G M M1 (conP (DD K (.int i)) (conP (DD K (.int j)) nilP))) : Ev (tCB rDivmod (tCons ta (tCons tb tNil))) σ G M M1 (DD K (eR2 Dat.int Dat.int r)) := by
  obtain ⟨h, rfl⟩ := dmO_of hc
  exact ev_divmod h ha
theorem ev_ixLM [Tb] {xs : List β} {e : β → Dat} {i : Int} {x : β} (hi : atI xs i = some x) (ha : Ev ta σ G M M1 (DD K (.list (xs.map e)))) (hb : Ev tb σ G M1 M2 (DD K (.int i))) : Ev (tOp (rIxL K) ta tb) σ G M M2 (DD K (e x)) := ev_ixL (atI_map hi) ha hb
theorem ev_ixTM [Tb] {xs : List β} {e : β → Dat} {i : Int} {x : β} (hi : atI xs i = some x) (ha : Ev ta σ G M M1 (DD K (.tuple (xs.map e)))) (hb : Ev tb σ G M1 M2 (DD K (.int i))) : Ev (tOp (rIxT K) ta tb) σ G M M2 (DD K (e x)) := ev_ixT (atI_map hi) ha hb
theorem ev_ixOM [Tb] {xs : List β} {e : β → Dat} {i : Int} {x : β} {p : Addr} {vs : List V} (hi : atI xs i = some x) (hp : M2 p = some (.lst vs)) (hv : DqAll K G vs (xs.map e)) (ha : Ev ta σ G M M1 (OW p)) (hb : Ev tb σ G M1 M2 (DD K (.int i))) : Ev (tOp (rIxL K) ta tb) σ G M M2 (DD K (e x)) := ev_ixO ha hb hp hv (atI_map hi)
/-- an owned list read as a whole: it is lent -/
theorem ev_lenLM [Tb] {xs : List β} {e : β → Dat} (ha : EvA (tCons ta tNil) σ G M M1 (conP (DD K (.list (xs.map e))) nilP)) : Ev (tCB (rLen K) (tCons ta tNil)) σ G M M1 (DD K (.int (xs.length : Int))) := ev_is (ev_lenL ha) (by rw [List.length_map])
theorem ev_lenTM [Tb] {xs : List β} {e : β → Dat} (ha : EvA (tCons ta tNil) σ G M M1 (conP (DD K (.tuple (xs.map e))) nilP)) : Ev (tCB (rLen K) (tCons ta tNil)) σ G M M1 (DD K (.int (xs.length : Int))) := ev_is (ev_lenT ha) (by rw [List.length_map])
end
/-! ### the part that may be changed, kept -/
theorem up_ne {M : Hp} {p q : Addr} {o u : HO} (n : q ≠ p) (h : M q = some o) : (upd M p u) q = some o := (upd_ne n).trans h
theorem hB_draw {M0 M : Hp} {s : Addr} {o : HO} (hB : ∀ a u, a ≠ s → M0 a = some u → M a = some u) : ∀ a u, a ≠ s → M0 a = some u → (upd M s o) a = some u := fun a u h1 h2 => (upd_ne h1).trans (hB a u h1 h2)
theorem hB_own {M0 M : Hp} {s p : Addr} {o : HO} (hB : ∀ a u, a ≠ s → M0 a = some u → M a = some u) (h0 : M0 p = none) : ∀ a u, a ≠ s → M0 a = some u → (upd M p o) a = some u := fun a u h1 h2 => (upd_ne (ne_of_none h2 h0)).trans (hB a u h1 h2)
theorem sB_own {M0 M : Hp} {p : Addr} {o : HO} (hB : Same M0 M) (h0 : M0 p = none) : Same M0 (upd M p o) := fun a u h2 => (upd_ne (ne_of_none h2 h0)).trans (hB a u h2)
theorem hB_none {M0 M : Hp} {s p : Addr} {o : HO} (hB : ∀ a u, a ≠ s → M0 a = some u → M a = some u) (hs : M s = some o) (h : M p = none) : M0 p = none := by
  cases e : M0 p with
  | none => rfl
  | some u =>
    have n : p ≠ s := fun z => by rw [z, hs] at h; cases h
    rw [hB p u n e] at h
    cases h
theorem sB_none {M0 M : Hp} {p : Addr} (hB : Same M0 M) (h : M p = none) : M0 p = none := hB.free h
end Kx
end
section
set_option maxHeartbeats 2000000
theorem L2.Room.un65 {k : Nat} {A : PySem.Around} (r : L2.Room k A) : A.units + 65 < PySem.cLine := by have := r.un; omega
namespace Kx
open PySem L2
section
variable {K : PySem.W.Frag} {σ σ' : St} {G G' M M1 M2 M3 : Hp} {ta tb te tc : TE} {P P1 P2 : VP} {d e : Dat} {ds es : List Dat} {D : Ends} {H : Hp} {u : TS}
theorem ev_ifC [Tb] {α : Type} {e : α → Dat} {t : TT} {b : Bool} {x y : α} (h : EvT t σ G M M1 b) (h1 : b = true → Ev ta σ G M1 M2 (DD K (e x))) (h2 : b = false → Ev tb σ G M1 M2 (DD K (e y))) : Ev (tIf t ta tb) σ G M M2 (DD K (e (cond b x y))) :=
  ev_if h (fun z => by subst z; exact h1 rfl) (fun z => by subst z; exact h2 rfl)
/-! ### a, b = e1, e2 -/
/-! the same where a tuple is made on the way -/
theorem tup_go [Tb] {i j : Nat} {v w : V} (k : Ok G M H) (h : ∀ G' H', Same G G' → Ok G' M H' → u D ((σ.set i (some v)).set j (some w)) H') (t : V) : [v, w].length ≤ sizeLine ∧ ∀ p, H p = none → gTup K 2 (gCons (gName i) (gCons (gName j) gNil)) (.ref p) σ (upd H p (.tup [v, w])) (u D) := by
  refine ⟨by show 2 ≤ sizeLine; decide, fun p hp => ?_⟩
  have sp : Same G (upd G p (.tup [v, w])) := Same.new (Same.none k.g hp)
  exact ⟨p, [v, w], rfl, .inl (.inl upd_same), rfl, v, [w], rfl, w, [], rfl, rfl, h _ _ sp (k.newG _ hp)⟩
theorem q_tupDD [Tb] {i j : Nat} {σ' : V → V → St} (ha : Ev ta σ G M M1 P1) (m1 : Mo P1) (hb : Ev tb σ G M1 M2 P2) (m2 : Mo P2) (ok : Ok G M H) (hσ : ∀ v w, (σ.set i (some v)).set j (some w) = σ' v w)
    (k : ∀ v w G' H', Same G G' → Ok G' M2 H' → P1 v G' → P2 w G' → u D (σ' v w) H') : tSeq (tAsg (tTup (tCons ta (tCons tb tNil))) (gTup K 2 (gCons (gName i) (gCons (gName j) gNil)))) u D σ H :=
  ha G H (Same.refl _) ok _ fun v G1 H1 s1 k1 hv => hb G1 H1 s1 k1 _ fun w G2 H2 s2 k2 hw => tup_go (K := K) k2 (fun G3 H3 s3 k3 => by
    rw [hσ]
    exact k v w G3 H3 ((s1.trans s2).trans s3) k3 (m1 _ _ _ (s2.trans s3) hv) (m2 _ _ _ s3 hw)) v
theorem q_augI [Tb] {i : Nat} {x j : Int} {f : Int → Int → Int} {σ' : V → St} (hx : σ[i]? = some (some (.int x))) (he : Ev te σ G M M1 (DD K (.int j))) (ok : Ok G M H) (hσ : σ.set i (some (.int (f x j))) = σ' (.int (f x j))) (k : ∀ G' H', Same G G' → Ok G' M1 H' → u D (σ' (.int (f x j))) H') : tSeq (tAug i te (ipI f)) u D σ H :=
  ⟨.int x, hx, he G H (Same.refl _) ok _ fun v G1 H1 s1 k1 hv => by
    cases hv
    refine ⟨x, j, rfl, rfl, ?_⟩
    show u D (σ.set i (some (.int (f x j)))) H1
    rw [hσ]
    exact k G1 H1 s1 k1⟩
theorem q_nilU (h : u D σ H) : tNext { D with nx := u D } σ H := h
theorem orR_l {S R T : Type} {s : S} {f : S → Option T} {g : R → Option T} {r : Option T} (h : orR (.inl s) f g = r) : f s = r := h
end
end Kx
end
section
set_option maxHeartbeats 2000000
namespace Kx
open PySem L2
/-! ### enumerate of a tuple, zip of lists and tuples -/
def SqB (K : PySem.W.Frag) : Bool → Hp → Addr → List V → Prop
  | true => SqT K
  | false => SqL K
def IteT (K : PySem.W.Frag) (a : Addr) : It :=
  ⟨fun i H => ∃ (xs : List V) (x : V), SqT K H a xs ∧ xs[i]? = some x, fun i H v H' => ∃ T x, v = .ref T ∧ H T = none ∧ H' = upd H T (.tup [.int (i : Nat), x]) ∧ ∀ xs, SqT K H a xs → xs[i]? = some x, fun i H => ∃ xs : List V, SqT K H a xs ∧ xs.length = i⟩
def iEnumT (K : PySem.W.Frag) (ta : TA) : TI := fun σ H R => ta σ H fun vs H1 => ∃ a xs, vs = [.ref a] ∧ SqT K H1 a xs ∧ R (IteT K a) H1
def IterB : Bool → Heap → Addr → Addr → Nat → Prop
  | true => fun h it a i => h.IsTupleIter it a i
  | false => fun h it a i => h.IsListIter it a i
def SeqB : Bool → Heap → Addr → Array Value → Prop
  | true => fun h a its => h.IsTuple a its
  | false => fun h a its => h.IsList a its
theorem IterB.at {k : Bool} {h h' : Heap} {it a : Addr} {i : Nat} (x : IterB k h it a i) (e : ∀ o, h.get? it = some o → h'.get? it = some o) : IterB k h' it a i := by
  cases k with
  | true => exact Heap.IsTupleIter.at x e
  | false => exact Heap.IsListIter.at x e
theorem IterB.obj {k : Bool} {h : Heap} {it a : Addr} {i : Nat} (x : IterB k h it a i) : ∃ o, h.get? it = some o ∧ ∀ v, o.data ≠ .cell v := by
  cases k with
  | true =>
    obtain ⟨o, ho, _, hd⟩ := (show h.IsTupleIter it a i from x)
    exact ⟨o, ho, fun v q => by rw [hd] at q; cases q⟩
  | false =>
    obtain ⟨o, ho, _, hd⟩ := (show h.IsListIter it a i from x)
    exact ⟨o, ho, fun v q => by rw [hd] at q; cases q⟩
def itName : Bool → String
  | true => "tuple_iterator"
  | false => "list_iterator"
theorem begins_B (k : Bool) (a : Addr) (items : Array Value) : Begins (.ref a) { cls := .type (itName k), data := .fields #[.ref a, .int 0 0] } fun h => SeqB k h a items := by
  cases k with
  | true => exact begins_tuple a items
  | false => exact begins_list a items
theorem iterB_new {k : Bool} {h : Heap} {it a : Addr} (e : h.get? it = some { cls := .type (itName k), data := .fields #[.ref a, .int 0 0] }) : IterB k h it a 0 := by
  cases k with
  | true => exact ⟨_, e, rfl, rfl⟩
  | false => exact ⟨_, e, rfl, rfl⟩
theorem drawsB {prog : Program} {w : World} {A : Around} (k : Bool) (hh : A.handled = none) (it a : Addr) (hne : a ≠ it) (items : Array Value) : Draws prog w A it [it, a] items.size (fun i v => items[i]? = some v) (fun i h => IterB k h it a i ∧ SeqB k h a items) := by
  cases k with
  | true => exact Draws.tuple hh it a hne items
  | false => exact Draws.list hh it a hne items
section
variable {X : Cx} {pins : List (Addr × Obj)} {σ : St} {H : Hp} {s : Shared}
theorem seqB_of {k : Bool} {a : Addr} {xs : List V} (I : Inv X pins σ H s) (h : SqB X.K k H a xs) : ∃ its, Vals xs its ∧ SeqB k s.heap a its.toArray ∧ a < s.heap.objs.size := by
  cases k with
  | true =>
    obtain ⟨its, rv, p, _⟩ := I.tuple h
    obtain ⟨o, ho, _⟩ := id p
    exact ⟨its, rv, p, Heap.lt_size ho⟩
  | false =>
    obtain ⟨its, rv, p, _⟩ := I.list h
    exact ⟨its, rv, p.isList, p.lt⟩
end
theorem turn_enumT {P : Program} {w : World} {K : PySem.W.Frag} {elts : List Expr} {kk : Nat} {tpos : Pos} (a e it : Addr) :
    Turn P w K (.Tuple elts kk tpos) (IteT K a) [e, it] e (fun i h => (∃ old, IsEnum h e it ((i : Nat) : Int) old) ∧ IterB true h it a i ∧ e ≠ it ∧ a ≠ it ∧ a ≠ e) where
  mem := by simp
  obj := fun i h st b hb => by
    obtain ⟨⟨old, he⟩, hi, _⟩ := st
    have e' : b = e ∨ b = it := by simpa using hb
    rcases e' with z | z
    · rw [z]; exact ⟨_, he, fun v q => nomatch q⟩
    · rw [z]; exact hi.obj
  keep := fun i h h' st k => let ⟨⟨old, he⟩, hi, hne⟩ := st; ⟨⟨old, k e (by simp) _ he⟩, hi.at fun o q => k it (by simp) o q, hne⟩
  item := by
    intro X hP hw hK hc i pins s σ H E I hf st hg
    subst hP hw hK
    obtain ⟨⟨old, he⟩, hit, hne, hai, hae⟩ := st
    obtain ⟨xs, x, hq, hx⟩ := hg
    obtain ⟨its, rv, p, hz⟩ := seqB_of (k := true) I hq
    have hlen := rv.length
    have hil' : i < xs.length := (List.getElem?_eq_some_iff.mp hx).1
    have hel : e < s.heap.objs.size := Heap.lt_size he
    have hil : it < s.heap.objs.size := by obtain ⟨_, q, _⟩ := hit.obj; exact Heap.lt_size q
    refine wpAny_pyNext_enum_itemD (drawsB (A := X.A.in1) true (show X.A.in1.handled = none from I.ok.hd hc) it a hai its.toArray) he ⟨hit, p⟩ (by simp; omega) hne (by simp [hne, Ne.symm hae]) fun u h' tk hu ho hit' hT hsz hk => ?_
    obtain ⟨u', hu', ru⟩ := rv.get hx
    have eu : u = u' := by
      have : its.toArray[i]? = some u' := by simpa using hu'
      rw [hu] at this
      exact Option.some.inj this
    subst eu
    refine ⟨_, rfl, wpAny_letOwnedTupleGo_enum (s := { s with heap := h', toks := tk + 1 }) ho fun h'' he' sb => ?_⟩
    have hT2 : h''.get? s.heap.objs.size = some { cls := .type "tuple", data := .seq #[.int i tk, u] } := (sb.2 _ (Nat.ne_of_gt hel)).trans hT
    have new : ObjOk X.prog X.w (upd H s.heap.objs.size (.tup [.int (i : Nat), x])) h'' s.heap.objs.size (.tup [.int (i : Nat), x]) :=
      ⟨by show 2 ≤ sizeLine; decide, [.int i tk, u], .cons ⟨_, rfl⟩ (.cons ru .nil), ⟨_, hT2, rfl, _, rfl⟩⟩
    have I1 : Inv X pins σ (upd H s.heap.objs.size (.tup [.int (i : Nat), x])) { s with heap := h'', toks := tk + 1 } :=
      I.turnedNew (ch := [e, it]) (fun b ob hb q => (sb.2 b (fun z => hb (by simp [z]))).trans (hk b ob (fun z => hb (by simp [z])) (fun z => hb (by simp [z])) q)) hf (Nat.le_refl _) new
    refine ⟨.ref s.heap.objs.size, _, I1, rfl, ⟨_, x, rfl, I.hok.fresh (Nat.le_refl _), rfl, fun ys hy => by rw [I.tuple_inj hy hq]; exact hx⟩, ⟨⟨u, ?_⟩, hit'.1.at fun o q => (sb.2 it (Ne.symm hne)).trans q, hne, hai, hae⟩, fun b hb => ?_⟩
    · have e1 : ((i + 1 : Nat) : Int) = (i : Int) + 1 := by omega
      rw [e1]; exact he'
    · have hb' : b < s.heap.objs.size := by
        have e' : b = e ∨ b = it := by simpa using hb
        rcases e' with z | z
        · rw [z]; exact hel
        · rw [z]; exact hil
      rw [upd_ne (Nat.ne_of_lt hb')]
      exact (hf b hb).1
  done := by
    intro X hP hw hK hc i pins s σ H E I hf st hg
    subst hP hw hK
    obtain ⟨⟨old, he⟩, hit, hne, hai, hae⟩ := st
    obtain ⟨xs, hq, hx⟩ := hg
    obtain ⟨its, rv, p, hz⟩ := seqB_of (k := true) I hq
    obtain ⟨f0, f1, f2, f3, f4, f5⟩ := hf it (by simp)
    have hl := rv.length
    have en : its.toArray.size = i := by simp; omega
    exact wpAny_pyNext_enum_endD (drawsB (A := X.A.in1) true (show X.A.in1.handled = none from I.ok.hd hc) it a hai its.toArray) he (by rw [en]; exact ⟨hit, p⟩) fun h' eb => ⟨rfl, I.turned (t' := s.toks) (fun b o hb q => eb b o hb q) f0 f1 f3 f4 f5⟩
  self := fun A i s Q E st h => let ⟨⟨_, he⟩, _⟩ := st; wpAny_pyIter_enum he h
end Kx
namespace PySem
theorem meets_enumerate_newB1 {v : Value} {o : Obj} {H : Heap → Prop} (B : Begins v o H) :
    Meets (Builtin.«enumerate.__new__» ⟨[.type "enumerate", v], []⟩) (fun _ R s => H s.heap ∧
      R (.ok (.ret (.ref (s.heap.push o).objs.size))) { s with heap := (s.heap.push o).push { cls := .type "enumerate", data := .fields #[.none, .bool false, .ref s.heap.objs.size, rawInt 0, .none, .none] } }) :=
  .of_wp fun prog w A R s h => by
    obtain ⟨hp, g, d, tk, os⟩ := s; obtain ⟨h1, h⟩ := h
    have hsub := sub_enumerate
    have q1 : ∀ {A' : Around} {E : Value → Shared → Prop} {Q : Value → Shared → Prop}, Q (.ref hp.objs.size) ⟨hp.push o, g, d, tk, os⟩ → wpAny (model prog w) A' (pyIter v) Q E ⟨hp, g, d, tk, os⟩ :=
      fun q => B.iter prog w _ _ ⟨hp, g, d, tk, os⟩ _ h1 q
    wp_walk using q1
    refine wpAny_stack_any fun st => wpAny_pure ?_
    split
    · rename_i c _ _ _ _ _
      cases (c == Value.type "enumerate")
      · wp_walk using q1
        exact ⟨_, rfl, h⟩
      · wp_walk using q1
        exact ⟨_, rfl, h⟩
    · wp_walk using q1
      exact ⟨_, rfl, h⟩
theorem enum_begins1 {prog : Program} {w : World} {A : Around} {E : Value → Shared → Prop} {s : Shared} {v : Value} {o : Obj} {H : Heap → Prop} {Q : Value → Shared → Prop} (B : Begins v o H) (h1 : H s.heap)
    (h : ∀ h', IsEnum h' (s.heap.objs.size + 1) s.heap.objs.size 0 .none → h'.get? s.heap.objs.size = some o → h'.objs.size = s.heap.objs.size + 2 →
      (∀ b o, s.heap.get? b = some o → h'.get? b = some o) → Q (.ref (s.heap.objs.size + 1)) { s with heap := h' }) :
    wpAny (model prog w) A (call (.type "enumerate") [v]) Q E s := by
  refine callType_new F.called_enumerate (by decide) (F.typeCall_enumerate_1 _) (F.newCall_enumerate_1 _) (fun obj => F.args_object_init_2 obj _) F.entry_enumerate_new
    (meets_enumerate_newB1 B) ⟨h1, ?_⟩
  have hz : (s.heap.push o).objs.size = s.heap.objs.size + 1 := Heap.size_push ..
  show _ ∧ _
  rw [hz]
  have he : IsEnum ((s.heap.push o).push { cls := .type "enumerate", data := .fields #[.none, .bool false, .ref s.heap.objs.size, rawInt 0, .none, .none] }) (s.heap.objs.size + 1) s.heap.objs.size 0 .none := by
    have := Heap.get?_push_size (s.heap.push o) (o := { cls := .type "enumerate", data := .fields #[.none, .bool false, .ref s.heap.objs.size, rawInt 0, .none, .none] }) rfl
    rw [hz] at this; exact this
  refine ⟨⟨_, he, rfl⟩, h _ he (Heap.get?_push_of_some _ (Heap.get?_push_size _ B.free)) (by rw [Heap.size_push, hz]) fun b o x => Heap.get?_push_of_some _ (Heap.get?_push_of_some _ x)⟩
end PySem
namespace Kx
open PySem L2
theorem pi_enumT {X : Cx} {e : Expr} {ta : TA} {p pos tpos : Pos} {elts : List Expr} {kk : Nat} (hg : Gl X "enumerate") (hm : X.mg "enumerate" = none) (ha : PA X [e] ta) (hs : starEach [e] X.env = [(false, eval e X.env)] := by rfl) :
    PI X (.Tuple elts kk tpos) (.Call (.Name "enumerate" p) [e] [] pos) (iEnumT X.K ta) := by
  refine ⟨fun pins s σ H R I h => ?_⟩
  refine PyProof.Rows.Call_ (ld_blt I hg hm PyProof.Rows.boot_enumerate (PyProof.Rows.callWith_type1 (thn (ha.run pos pins s σ H _ I h) fun us s1 ⟨vs, H1, I1, r1, q1⟩ => ?_) hs rfl))
  obtain ⟨a, xs, ex, hq, q⟩ := q1
  subst ex
  cases r1 with
  | cons r rr =>
    cases rr
    cases r
    obtain ⟨its, rv, p', hz⟩ := seqB_of (k := true) I1 hq
    refine enum_begins1 (begins_B true a its.toArray) p' fun h' he hit hsz hk => wpAny_pyIter_enum he ?_
    have I2 : Inv X pins σ H1 { s1 with heap := h' } := I1.kept (t' := s1.toks) hk
    refine ⟨s1.heap.objs.size + 1, [s1.heap.objs.size + 1, s1.heap.objs.size], _, _, H1, rfl, I2, turn_enumT a (s1.heap.objs.size + 1) s1.heap.objs.size, ⟨⟨.none, he⟩, iterB_new hit, Nat.succ_ne_self _, Nat.ne_of_lt hz, Nat.ne_of_lt (Nat.lt_succ_of_lt hz)⟩, fun b hb => ?_, q⟩
    have e' : b = s1.heap.objs.size + 1 ∨ b = s1.heap.objs.size := by simpa using hb
    have hle : s1.heap.objs.size ≤ b := by
      rcases e' with z | z
      · rw [z]; exact Nat.le_add_right _ _
      · rw [z]; exact Nat.le_refl _
    exact I1.fpOk hle (I1.hok.fresh hle)
section
variable {K : PySem.W.Frag} {σ : St} {G G' M M1 M2 M3 : Hp} {ta tb te tc : TE} {P P1 P2 : VP} {d e : Dat} {ds es : List Dat}
def seqD : Bool → List Dat → Dat
  | true => .tuple
  | false => .list
theorem src_enumT [Tb] {ta : TA} (h : EvA ta σ G M M1 (conP (DD K (.tuple ds)) nilP)) : Src K (iEnumT K ta) σ G M M1 (enumD ds) := fun G0 H s k R q =>
  h G0 H s k _ fun vs G1 H1 s1 k1 hv => by
    obtain ⟨v, rfl, hw⟩ := one_of (R := nilP) hv
    obtain ⟨a, vs, rfl, h1, h2⟩ := dp_tuple hw
    refine ⟨a, vs, rfl, sqT_up k1.g h1, q _ G1 H1 s1 k1 ?_⟩
    have w : Walk (IteT K a) vs.length (fun H => SqT K H a vs) (YPair (fun i => some (.int (i : Nat))) (fun i => vs[i]?)) := by
      refine ⟨fun i _ hi q => ⟨vs, vs[i], q, by simp [hi]⟩, fun _ q => ⟨vs, q, rfl⟩, fun i H v H' _ q y => ?_⟩
      obtain ⟨T, x, h1, h2, h3, h4⟩ := y
      exact ⟨T, .int (i : Nat), x, h1, h2, h3, rfl, h4 vs q⟩
    refine walks_pair w (by simp [enumD, dpAll_len h2]) (fun H s => sqT_up s h1) fun i d x y hd hx hy => ?_
    cases hx
    unfold enumD at hd
    rw [List.getElem?_mapIdx] at hd
    cases e : ds[i]? with
    | none => rw [e] at hd; cases hd
    | some d' =>
      rw [e] at hd
      cases hd
      exact ⟨_, _, rfl, .int _, dqAll_at h2 hy e⟩
end
end Kx
end
section
set_option maxHeartbeats 2000000
namespace Kx
open PySem L2
section
variable {X : Cx} {K : PySem.W.Frag}
theorem ix_listK (h : X.K = K := by rfl) : IxR X (rIxL K) := h ▸ ix_list
theorem ix_tupK (h : X.K = K := by rfl) : IxR X (rIxT K) := h ▸ ix_tup
theorem sl_tupK (h : X.K = K := by rfl) : SlR X (rSlF K) := h ▸ sl_tupF
theorem cl_lenK (h : X.K = K := by rfl) : CallR X (.builtin "len") (rLen K) := h ▸ cl_len
theorem cl_tupleK (h : X.K = K := by rfl) : CallR X (.type "tuple") (rTupOf K) := h ▸ cl_tuple
theorem call_isiKK (h : X.K = K := by rfl) : CallR X (.builtin "isinstance") (rIsi K) := h ▸ call_isi
theorem cr_allK (hc : X.calm = true) (h : X.K = K := by rfl) : CallR X (.builtin "all") (rAll K) := h ▸ cr_all hc
theorem op_eqDK (hu : X.A.units + 64 < cLine) (h : X.K = K := by rfl) : OpR X (compareOp .Eq) (rEqD K) := h ▸ op_eqD hu
theorem op_neDK (hu : X.A.units + 64 < cLine) (h : X.K = K := by rfl) : OpR X (compareOp .NotEq) (rNeD K) := h ▸ op_neD hu
theorem op_inDK (hu : X.A.units + 65 < cLine) (h : X.K = K := by rfl) : OpR X (compareOp .In) (rInD K) := h ▸ op_inD hu
theorem op_catAK (h : X.K = K := by rfl) : OpR X (binaryOp .Add) (rCatF K) := h ▸ op_catF
theorem pi_listK {tg l : Expr} {tl : TE} (hl : PE X l tl) (h : X.K = K := by rfl) : PI X tg l (iList K tl) := h ▸ pi_list hl
theorem pi_tupK {tg l : Expr} {tl : TE} (hl : PE X l tl) (h : X.K = K := by rfl) : PI X tg l (iTup K tl) := h ▸ pi_tup hl
theorem pi_enumTK {e : Expr} {ta : TA} {p pos tpos : Pos} {elts : List Expr} {kk : Nat} (hg : Gl X "enumerate") (hm : X.mg "enumerate" = none) (ha : PA X [e] ta) (h : X.K = K := by rfl) (hs : starEach [e] X.env = [(false, eval e X.env)] := by rfl) :
    PI X (.Tuple elts kk tpos) (.Call (.Name "enumerate" p) [e] [] pos) (iEnumT K ta) := h ▸ pi_enumT hg hm ha hs
end
end Kx
end
section
set_option maxHeartbeats 2000000
namespace Kx
open PySem L2
/-! ### a call by names alone -/
structure KBw (K : PySem.W.Frag) (fd : FuncData) (ps ks : List Str) (g : {α : Type} → List α → List α) : Prop where
  to : ∀ (s : Shared) (ws : List Value), K.In s.heap → ws.length = ks.length → BindsTo s fd ⟨[], ks.zip ws⟩ (ps.zip (g ws))
  rel : ∀ {zs : List V} {ws : List Value}, Vals zs ws → Vals (g zs) (g ws)
def tCallKw (n : Nat) (sp : Sp) (gV : List V → List V) (E : XK) (tk : TA) : TE := fun σ H Q => tk σ H fun zs H2 => zs.length = n ∧ sp (gV zs) H2 Q E
theorem pe_callKw {X : Cx} {CX : CXT} {k : Nat} {f : Addr} {fd : FuncData} {ps ks : List Str} {sp : Sp} {E : XK} {x : Str} {p pos : Pos} {kws : List Keyword} {tk : TA} {g : {α : Type} → List α → List α}
    (F : FnOk X.prog X.w X.K X.mg X.base CX k f fd ps sp) (hr : Room k X.A) (hg : Gl X x) (hm : X.mg x = some (.ref f)) (hk : PySem.W.keepIn X.K (.ref f) = true) (hb : KBw X.K fd ps ks g) (hx : Passes CX X E)
    (hkw : PK X kws tk) (hall : (backToKw pos (keywordEach kws X.env)).all (·.1.isSome) = true := by rfl) (hks : (backToKw pos (keywordEach kws X.env)).filterMap (·.1) = ks := by rfl)
    (hdb : (x == ("__debug__" : Str)) = false := by decide)
    (hpl : ((backTo pos (starEach [] X.env)).any (·.1) || (backToKw pos (keywordEach kws X.env)).any (·.1.isNone)) = false := by rfl) :
    PE X (.Call (.Name x p) [] kws pos) (tCallKw ks.length sp g E tk) := by
  refine ⟨fun pins s σ H Q I h => ?_⟩
  refine wpAny_Call_Name_kw (ld_glob I hg hm ?_ hdb)
  refine PySem.W.callWith_KW0 (h₀ := X.base) I.ok.mod.kin hk hall (thn (hkw.run pos pins s σ H _ I h) fun ws s2 ⟨zs, H2, I2, rz, l2, q2⟩ => ⟨I2.kIn, ?_⟩) hpl
  rw [hks]
  have r2 := hb.rel rz
  refine wpAny_call (codeAny_mono (F.run X.A X.stack s2 H2 ⟨[], ks.zip ws⟩ (g ws) (g zs) Q E hr I2.env0 (hb.to s2 ws I2.kIn (rz.length.symm.trans l2)) r2 q2) fun r s' hq => ?_)
  cases r with
  | error e => exact hx pins σ H2 s2 e s' I2 hq
  | ok fl =>
    cases fl with
    | ret u => exact I2.after hq
    | next => exact False.elim hq
    | brk => exact False.elim hq
    | cont => exact False.elim hq
theorem kbw_of {K : PySem.W.Frag} {x qual : Str} {st : Stmt} {f : Addr} {fd : FuncData} {ps ks : List Str} {g : {α : Type} → List α → List α} (F : Fun K x qual st f fd)
    (h : ∀ (kV doc pm : Value) (an : Option Addr) (cdv ct : Value) (ws : List Value), ws.length = ks.length → bindArgs (PySem.W.fnOf x qual (defArgs st) (defBody st) (defScope st) .none kV doc pm an cdv ct) ⟨[], ks.zip ws⟩ = pure (ps.zip (g ws)))
    (hr : ∀ {zs : List V} {ws : List Value}, Vals zs ws → Vals (g zs) (g ws)) : KBw K fd ps ks g := by
  obtain ⟨oc, od, kV, doc, pm, an, cdv, ct, osl, rfl, lk, hcd⟩ := F.ex
  exact ⟨fun s ws _ hl => .of_eq (h kV doc pm an cdv ct ws hl), hr⟩
section
variable {K : PySem.W.Frag} {σ : St} {G G' M M1 M2 M3 : Hp} {ta tb te tc : TE} {P P1 P2 : VP} {d e : Dat} {ds es : List Dat} {D : Ends} {H : Hp} {u : TS}
/-- the values by names, put in the def's own order -/
theorem ev_callKP [Tb] {α ρ : Type} {args : α → List V → Hp → Prop} {m : α → Option ρ} {res : ρ → VP} {E : XK} {t : TA} {a : α} {r : ρ} {n : Nat} {gV : List V → List V} {Ps : List V → Hp → Prop} (hm : m a = some r) (hg : ∀ vs G, Ps vs G → vs.length = n ∧ args a (gV vs) G) (ha : EvA t σ G M M1 Ps) : Ev (tCallKw n (spP args m res) gV E t) σ G M M1 (res r) := fun G0 H s k Q q =>
  ha G0 H s k _ fun vs G1 H1 s1 k1 hv => ⟨(hg vs G1 hv).1, G1, M1, a, r, k1, (hg vs G1 hv).2, hm, fun v G2 H2 s2 k2 hr => q v G2 H2 (s1.trans s2) k2 hr⟩
/-! ### a list or a tuple -/
theorem ix_seqK {X : Cx} (h : X.K = K := by rfl) : IxR X (rIx K) := h ▸ ix_seq
/-! ### what may be None, and isn't -/
theorem ev_unO [Tb] {β : Type} {e : β → Dat} {o : Option β} {x : β} (h : o = some x) (ha : Ev ta σ G M M1 (DD K (eO e o))) : Ev ta σ G M M1 (DD K (e x)) := by subst h; exact ha
/-! ### the script -/
def SCP (K : PySem.W.Frag) (ns : List Int) : VP := fun v G => ∃ a, v = .ref a ∧ SqL K G a (ns.map V.int)
theorem mo_scp {ns : List Int} : Mo (SCP K ns) := fun _ _ _ s ⟨a, e, h⟩ => ⟨a, e, s.seq h⟩
theorem ev_lenScr [Tb] {ns : List Int} (ha : EvA (tCons ta tNil) σ G M M1 (conP (SCP K ns) nilP)) : Ev (tCB (rLen K) (tCons ta tNil)) σ G M M1 (DD K (.int (ns.length : Int))) := ev_cb ha fun xs G0 H s k hx Q q => by
  obtain ⟨v, rfl, a, rfl, ha⟩ := one_of (R := nilP) hx
  refine ⟨a, _, rfl, .inl (k.g.seq ha), q _ G0 H (Same.refl _) k ?_⟩
  rw [List.length_map]
  exact .int _
theorem ev_ixScr [Tb] {ns : List Int} {i x : Int} (hi : atI ns i = some x) (ha : Ev ta σ G M M1 (SCP K ns)) (hb : Ev tb σ G M1 M2 (DD K (.int i))) : Ev (tOp (rIxL K) ta tb) σ G M M2 (DD K (.int x)) := ev_op mo_scp ha hb fun x' y G0 H s k hx hy Q q => by
  obtain ⟨a, rfl, ha⟩ := hx
  cases hy
  exact ⟨a, _, i, .int x, rfl, rfl, k.g.seq ha, atI_map hi, q _ G0 H (Same.refl _) k (.int _)⟩
/-! ### a def that makes a store -/
def spO [Tb] {α : Type} (args : α → List V → Hp → Prop) (m : α → Option Sto) : Sp := fun vs H Q _ =>
  ∃ (G M : Hp) (a : α) (z : Sto), Ok G M H ∧ args a vs G ∧ m a = some z ∧ ∀ p G' H', Same G G' → Ok G' (upd M p (sto z)) H' → M p = none → Q (.ref p) H'
theorem q_retL [Tb] (he : EvL K te σ G M M1 ds) (ok : Ok G M H) (k : ∀ p vs G' H', Same G G' → Ok G' (upd M1 p (.lst vs)) H' → M1 p = none → DqAll K G' vs ds → D.rt (.ref p) H') : tSeq (tRet te) u D σ H := he G H (Same.refl _) ok _ k
theorem vs_sto {G : Hp} {vs : List V} {x y z : Int} (h : DqAll K G vs [.int x, .int y, .int z]) : vs = [.int x, .int y, .int z] := by
  cases h with
  | cons a b => cases a; cases b with
    | cons a b => cases a; cases b with
      | cons a b => cases a; cases b; rfl
/-- f(g(..)): the store that g makes is handed on to f -/
theorem ev_open [Tb] {α ρ : Type} {ao : α → List V → Hp → Prop} {mo : α → Option Sto} {args : Unit → List V → Hp → Prop} {m : Unit → Sto → Option (ρ × Sto)} {res : ρ → VP} {E E' : XK} {t : TA} {a : α} {z : Sto} {r : ρ × Sto} (h1 : mo a = some z) (h2 : m () z = some r) (hn : ∀ G, args () [] G) (ha : EvA t σ G M M1 (ao a)) :
    Ev (tCall (spD args m res) [] E (tCons (tCall (spO ao mo) [] E' t) tNil)) σ G M M1 (res r.1) := fun G0 H s k Q q =>
  ha G0 H s k _ fun vs G1 H1 s1 k1 hv => by
    rw [List.append_nil]
    refine ⟨G1, M1, a, z, k1, hv, h1, fun p G2 H2 s2 k2 hp => ?_⟩
    refine ⟨G2, upd M1 p (sto z), p, z, r.2, (), r.1, [], rfl, k2, upd_same, hn G2, h2, fun v G3 H3 s3 k3 hr => ?_⟩
    rw [upd_upd] at k3
    exact q v G3 H3 ((s1.trans s2).trans s3) (k3.less (Same.new hp)) hr
end
end Kx
end
section
namespace Kx
open PySem L2
/-- one draw -/
def pullM (a : Int) (z : Sto) : Option (Int × Sto) :=
  cond (decide ((0 : Int) < z.1)) ((dmO z.1 a).bind fun t1 => some (t1.2, (t1.1, z.2.1, z.2.2 + 1)))
    ((modO z.2.1 40961).bind fun t1 => (mulO z.2.1 (t1 + 20011)).bind fun t2 => (mulO 50021 (z.2.2 + 1)).bind fun t3 => (modO (t2 + t3 + 3) 1000000433).bind fun t4 => (fdivO t4 48).bind fun t5 => (modO t5 a).bind fun t6 => some (t6, (z.1, t4, z.2.2 + 1)))
end Kx
namespace Kx
open PySem L2
theorem same_upd2 {M0 M : Hp} {p : Addr} {o : HO} (h : Same M0 M) : Same (upd M0 p o) (upd M p o) := fun a u e => by
  by_cases ha : a = p
  · subst ha; rw [upd_same] at e ⊢; exact e
  · rw [upd_ne ha] at e ⊢; exact h a u e
end Kx
end
section
set_option maxHeartbeats 2000000
namespace Kx
open PySem L2
end Kx
end
section
set_option maxHeartbeats 2000000
namespace Kx
open PySem L2
section
variable {K : PySem.W.Frag} {σ σ' : St} {G G' M M1 M2 M3 : Hp} {ta tb te tc : TE} {P P1 P2 : VP} {d e : Dat} {ds es : List Dat} {D : Ends} {H : Hp} {u : TS}
/-! ### several targets at once -/
def EvX [Tb] (ta : TA) (σ : St) (G M : Hp) (F : List V → Hp → Hp → Prop) : Prop :=
  ∀ G0 H, Same G G0 → Ok G0 M H → ∀ Q : List V → Hp → Prop, (∀ vs G' M' H', Same G0 G' → Ok G' M' H' → F vs G' M' → Q vs H') → ta σ H Q
theorem ex_nil [Tb] : EvX tNil σ G M fun vs _ M' => vs = [] ∧ M' = M := fun G0 H _ k Q q => q [] G0 M H (Same.refl _) k ⟨rfl, rfl⟩
theorem ex_D [Tb] {tr : TA} {R : List V → Hp → Hp → Prop} (m : Mo P) (ha : Ev ta σ G M M1 P) (hr : EvX tr σ G M1 R) : EvX (tCons ta tr) σ G M fun vs G' M' => ∃ v r, vs = v :: r ∧ P v G' ∧ R r G' M' := fun G0 H s k Q q =>
  ha G0 H s k _ fun x G1 H1 s1 k1 hx => hr G1 H1 (s.trans s1) k1 _ fun xs G2 M2 H2 s2 k2 hy => q (x :: xs) G2 M2 H2 (s1.trans s2) k2 ⟨x, xs, rfl, m x G1 G2 s2 hx, hy⟩
/-! the same where a tuple is made on the way -/
theorem q_tupX [Tb] {n : Nat} {g : TGs} {ta : TA} {F : List V → Hp → Hp → Prop} (he : EvX ta σ G M F) (ok : Ok G M H) (k : ∀ vs G' M' H', Same G G' → Ok G' M' H' → F vs G' M' → vs.length ≤ sizeLine ∧ ∀ p, H' p = none → gTup K n g (.ref p) σ (upd H' p (.tup vs)) (u D)) : tSeq (tAsg (tTup ta) (gTup K n g)) u D σ H :=
  he G H (Same.refl _) ok _ fun vs G1 M1 H1 s1 k1 hv => k vs G1 M1 H1 s1 k1 hv
theorem tup_go3 [Tb] {i j l : Nat} {v w x : V} (k : Ok G M H) (h : ∀ G' H', Same G G' → Ok G' M H' → u D (((σ.set i (some v)).set j (some w)).set l (some x)) H') : [v, w, x].length ≤ sizeLine ∧ ∀ p, H p = none → gTup K 3 (gCons (gName i) (gCons (gName j) (gCons (gName l) gNil))) (.ref p) σ (upd H p (.tup [v, w, x])) (u D) := by
  refine ⟨by show 3 ≤ sizeLine; decide, fun p hp => ?_⟩
  have sp : Same G (upd G p (.tup [v, w, x])) := Same.new (Same.none k.g hp)
  exact ⟨p, [v, w, x], rfl, .inl (.inl upd_same), rfl, v, [w, x], rfl, w, [x], rfl, x, [], rfl, rfl, h _ _ sp (k.newG _ hp)⟩
/-! ### things of any kind -/
def isT : Dat → Bool
  | .tuple _ => true
  | .rtup _ => true
  | _ => false
def isI : Dat → Bool
  | .int _ => true
  | .bool _ => true
  | _ => false
def isB : Dat → Bool
  | .bool _ => true
  | _ => false
def isS : Dat → Bool
  | .str _ => true
  | _ => false
/-- isinstance of a thing that is no instance of an own class -/
def isO (f : Dat → Bool) (d : Dat) : Option Bool := cond (isIns d) none (some (f d))
theorem isO_of {f : Dat → Bool} {b : Bool} (h : isO f d = some b) : isIns d = false ∧ f d = b := by
  unfold isO at h
  cases e : isIns d with
  | true => rw [e] at h; cases h
  | false => rw [e] at h; exact ⟨rfl, Option.some.inj h⟩
def IsC (n : String) (f : Dat → Bool) : Prop := ∀ d : Dat, isIns d = false → kitB (tyD d) n = some (f d)
theorem isc_T : IsC "tuple" isT := fun d h => by
  cases d with
  | none => exact (show kitB "NoneType" "tuple" = some false by decide +kernel)
  | bool _ => exact (show kitB "bool" "tuple" = some false by decide +kernel)
  | int _ => exact (show kitB "int" "tuple" = some false by decide +kernel)
  | str _ => exact (show kitB "str" "tuple" = some false by decide +kernel)
  | list _ => exact (show kitB "list" "tuple" = some false by decide +kernel)
  | tuple _ => exact (show kitB "tuple" "tuple" = some true by decide +kernel)
  | rtup _ => exact (show kitB "tuple" "tuple" = some true by decide +kernel)
  | dK _ _ => exact (show kitB "dict" "tuple" = some false by decide +kernel)
  | dT _ _ => exact (show kitB "dict" "tuple" = some false by decide +kernel)
  | ins _ _ _ => cases h
theorem isc_I : IsC "int" isI := fun d h => by
  cases d with
  | none => exact (show kitB "NoneType" "int" = some false by decide +kernel)
  | bool _ => exact (show kitB "bool" "int" = some true by decide +kernel)
  | int _ => exact (show kitB "int" "int" = some true by decide +kernel)
  | str _ => exact (show kitB "str" "int" = some false by decide +kernel)
  | list _ => exact (show kitB "list" "int" = some false by decide +kernel)
  | tuple _ => exact (show kitB "tuple" "int" = some false by decide +kernel)
  | rtup _ => exact (show kitB "tuple" "int" = some false by decide +kernel)
  | dK _ _ => exact (show kitB "dict" "int" = some false by decide +kernel)
  | dT _ _ => exact (show kitB "dict" "int" = some false by decide +kernel)
  | ins _ _ _ => cases h
theorem isc_B : IsC "bool" isB := fun d h => by
  cases d with
  | none => exact (show kitB "NoneType" "bool" = some false by decide +kernel)
  | bool _ => exact (show kitB "bool" "bool" = some true by decide +kernel)
  | int _ => exact (show kitB "int" "bool" = some false by decide +kernel)
  | str _ => exact (show kitB "str" "bool" = some false by decide +kernel)
  | list _ => exact (show kitB "list" "bool" = some false by decide +kernel)
  | tuple _ => exact (show kitB "tuple" "bool" = some false by decide +kernel)
  | rtup _ => exact (show kitB "tuple" "bool" = some false by decide +kernel)
  | dK _ _ => exact (show kitB "dict" "bool" = some false by decide +kernel)
  | dT _ _ => exact (show kitB "dict" "bool" = some false by decide +kernel)
  | ins _ _ _ => cases h
theorem isc_S : IsC "str" isS := fun d h => by
  cases d with
  | none => exact (show kitB "NoneType" "str" = some false by decide +kernel)
  | bool _ => exact (show kitB "bool" "str" = some false by decide +kernel)
  | int _ => exact (show kitB "int" "str" = some false by decide +kernel)
  | str _ => exact (show kitB "str" "str" = some true by decide +kernel)
  | list _ => exact (show kitB "list" "str" = some false by decide +kernel)
  | tuple _ => exact (show kitB "tuple" "str" = some false by decide +kernel)
  | rtup _ => exact (show kitB "tuple" "str" = some false by decide +kernel)
  | dK _ _ => exact (show kitB "dict" "str" = some false by decide +kernel)
  | dT _ _ => exact (show kitB "dict" "str" = some false by decide +kernel)
  | ins _ _ _ => cases h
theorem ev_isiD [Tb] {n : String} {f : Dat → Bool} {b : Bool} (hc : IsC n f) (h : isO f d = some b) (ha : EvA (tCons ta (tCons tb tNil)) σ G M M1 (conP (DD K d) (conP (CLS n) nilP))) : Ev (tCB (rIsi K) (tCons ta (tCons tb tNil))) σ G M M1 (DD K (.bool b)) := by
  obtain ⟨h1, h2⟩ := isO_of h
  exact ev_isi h1 (h2 ▸ hc d h1) ha
def lenD : Dat → Option Int
  | .tuple xs => some (xs.length : Int)
  | .list xs => some (xs.length : Int)
  | _ => none
theorem ev_lenD [Tb] {n : Int} (h : lenD d = some n) (ha : EvA (tCons ta tNil) σ G M M1 (conP (DD K d) nilP)) : Ev (tCB (rLen K) (tCons ta tNil)) σ G M M1 (DD K (.int n)) := by
  cases d with
  | tuple xs => cases h; exact ev_lenT ha
  | list xs => cases h; exact ev_lenL ha
  | _ => cases h
def atD : Dat → Int → Option Dat
  | .tuple xs, i => atI xs i
  | .list xs, i => atI xs i
  | _, _ => none
theorem ev_ixD [Tb] {i : Int} {x : Dat} (h : atD d i = some x) (ha : Ev ta σ G M M1 (DD K d)) (hb : Ev tb σ G M1 M2 (DD K (.int i))) : Ev (tOp (rIx K) ta tb) σ G M M2 (DD K x) := ev_op mo_dd ha hb fun v w G0 H s k hx hy Q q => by
  cases d with
  | tuple xs =>
    obtain ⟨a, vs, rfl, h1, h2⟩ := dp_tuple hx
    cases hy
    obtain ⟨v, h3, h4⟩ := atI_of h2 h
    exact .inr (.inl ⟨a, vs, i, v, rfl, rfl, sqT_up k.g h1, h3, q v G0 H (Same.refl _) k h4⟩)
  | list xs =>
    obtain ⟨a, vs, rfl, h1, h2⟩ := dp_list hx
    cases hy
    obtain ⟨v, h3, h4⟩ := atI_of h2 h
    exact .inl ⟨a, vs, i, v, rfl, rfl, .inl (.inl (k.g _ _ h1)), h3, q v G0 H (Same.refl _) k h4⟩
  | _ => cases h
def eqDO (d e : Dat) : Option Bool := (grd ((pur d = true ∧ pur e = true) ∧ (toPy d).depth ≤ 64 ∧ (toPy e).depth ≤ 64)).bind fun _ => some (PyData.eqv (toPy d) (toPy e))
theorem ev_eqDO [Tb] {b : Bool} (h : eqDO d e = some b) (ha : Ev ta σ G M M1 (DD K d)) (hb : Ev tb σ G M1 M2 (DD K e)) : Ev (tOp (rEqD K) ta tb) σ G M M2 (DD K (.bool b)) := by
  obtain ⟨_, h1, h2⟩ := bs h
  cases h2
  have z := grd_of h1
  exact ev_eqD z.1.1 z.1.2 z.2.1 z.2.2 ha hb
def intD : Dat → Option Int
  | .int i => some i
  | _ => none
def strD : Dat → Option Str
  | .str x => some x
  | _ => none
def tupD : Dat → Option (List Dat)
  | .tuple x => some x
  | _ => none
theorem ev_intD [Tb] {i : Int} (h : intD d = some i) (ha : Ev ta σ G M M1 (DD K d)) : Ev ta σ G M M1 (DD K (.int i)) := by
  cases d with
  | int j => cases h; exact ha
  | _ => cases h
theorem ev_strD [Tb] {i : Str} (h : strD d = some i) (ha : Ev ta σ G M M1 (DD K d)) : Ev ta σ G M M1 (DD K (.str i)) := by
  cases d with
  | str j => cases h; exact ha
  | _ => cases h
theorem ev_tupD [Tb] {i : List Dat} (h : tupD d = some i) (ha : Ev ta σ G M M1 (DD K d)) : Ev ta σ G M M1 (DD K (.tuple (i.map id))) := by
  rw [List.map_id]
  cases d with
  | tuple j => cases h; exact ha
  | _ => cases h
/-! ### least and greatest of a list of ints -/
end
end Kx
namespace Kx
open PySem L2
end Kx
end
section
set_option maxHeartbeats 2000000
namespace Kx
open PySem L2
/-! ### min(rows): a walk whose comparison reads the heap -/
end Kx
namespace Kx
open PySem L2
end Kx
namespace Kx
open PySem L2
end Kx
end
section
set_option maxHeartbeats 2000000
namespace Kx
open PySem L2
/-! ### texts -/
theorem sok_iff {z : Str} : sok z = true ↔ ∀ c ∈ z.cps.toList, c < 0x110000 := by
  unfold sok PyData.strOk
  rw [Array.all_eq_true']
  simp
theorem sok_mk {l : List Nat} (h : ∀ c ∈ l, c < 0x110000) : sok ⟨l.toArray⟩ = true := sok_iff.mpr (by simpa using h)
theorem sok_app {a b : Str} (ha : sok a = true) (hb : sok b = true) : sok (a ++ b) = true := by
  rw [sok_iff] at *
  intro c hc
  have e : (a ++ b).cps.toList = a.cps.toList ++ b.cps.toList := by
    show (a.cps ++ b.cps).toList = _
    simp
  rw [e] at hc
  rcases List.mem_append.mp hc with h | h
  · exact ha c h
  · exact hb c h
def lenS (z : Str) : Option Int := (grd (z.length ≤ 16777216)).bind fun _ => some (z.length : Int)
def atS (z : Str) (i : Int) : Option Str := (grd (z.length ≤ 16777216)).bind fun _ => (atI z.cps.toList i).bind fun c => some ⟨#[c]⟩
def addS (a b : Str) : Option Str := (grd (a.length + b.length ≤ 16777216)).bind fun _ => some (a ++ b)
def inSign (x z : Str) : Option Bool := match x.cps.toList with
  | [c] => some (decide (c ∈ z.cps.toList))
  | _ => none
def sLt (a b : Str) : Bool := decide (a.cps.toList < b.cps.toList)
def cutSO (z : Str) (lo hi : Option Int) : Option Str := (grd (z.length ≤ 16777216)).bind fun _ => some (cutS z lo hi)
section
variable {K : PySem.W.Frag} {σ σ' : St} {G G' M M1 M2 M3 : Hp} {ta tb te tc : TE} {P P1 P2 : VP} {d e : Dat} {ds es : List Dat} {D : Ends} {H : Hp} {u : TS}
theorem dq_str {G : Hp} {v : V} {z : Str} (h : Dq K G v (.str z)) : v = .str z ∧ sok z = true := by
  cases h with
  | str h => exact ⟨rfl, h⟩
def rLenS : List V → Hp → VK → Prop := fun xs H Q => ∃ z, xs = [.str z] ∧ z.length ≤ sizeLine ∧ Q (.int z.length) H
theorem ev_lenS [Tb] {z : Str} {n : Int} (h : lenS z = some n) (ha : EvA (tCons ta tNil) σ G M M1 (conP (DD K (.str z)) nilP)) : Ev (tCB rLenS (tCons ta tNil)) σ G M M1 (DD K (.int n)) := ev_cb ha fun xs G0 H s k hx Q q => by
  obtain ⟨v, rfl, hv⟩ := one_of (R := nilP) hx
  obtain ⟨rfl, _⟩ := dq_str hv
  obtain ⟨_, h1, h2⟩ := bs h
  cases h2
  exact ⟨z, rfl, szl (grd_of h1), q _ G0 H (Same.refl _) k (.int _)⟩
theorem ev_ixS [Tb] {z y : Str} {i : Int} (h : atS z i = some y) (ha : Ev ta σ G M M1 (DD K (.str z))) (hb : Ev tb σ G M1 M2 (DD K (.int i))) : Ev (tOp rIxS ta tb) σ G M M2 (DD K (.str y)) := ev_op mo_dd ha hb fun v w G0 H s k hx hy Q q => by
  obtain ⟨rfl, hz⟩ := dq_str hx
  cases hy
  obtain ⟨_, h1, h2⟩ := bs h
  obtain ⟨c, h3, h4⟩ := bs h2
  cases h4
  refine ⟨z, i, c, rfl, rfl, szl (grd_of h1), h3, q _ G0 H (Same.refl _) k (.str (sok_sign hz ?_))⟩
  unfold atI at h3
  obtain ⟨j, _, h5⟩ := bs h3
  exact List.mem_of_getElem? h5
theorem ev_addS [Tb] {a b c : Str} (h : addS a b = some c) (ha : Ev ta σ G M M1 (DD K (.str a))) (hb : Ev tb σ G M1 M2 (DD K (.str b))) : Ev (tOp (fun x y H Q => ∃ i j, x = V.str i ∧ y = .str j ∧ i.length + j.length ≤ sizeLine ∧ Q (.str (i ++ j)) H) ta tb) σ G M M2 (DD K (.str c)) := ev_op mo_dd ha hb fun v w G0 H s k hx hy Q q => by
  obtain ⟨rfl, h1⟩ := dq_str hx
  obtain ⟨rfl, h2⟩ := dq_str hy
  obtain ⟨_, h3, h4⟩ := bs h
  cases h4
  exact ⟨a, b, rfl, rfl, szl (grd_of h3), q _ G0 H (Same.refl _) k (.str (sok_app h1 h2))⟩
theorem inSign_of {x z : Str} {b : Bool} (h : inSign x z = some b) : ∃ c, x = ⟨#[c]⟩ ∧ b = decide (c ∈ z.cps.toList) := by
  unfold inSign at h
  split at h
  · next c e =>
    refine ⟨c, ?_, (Option.some.inj h).symm⟩
    cases x with
    | mk cps =>
      congr 1
      apply Array.toList_inj.mp
      exact e
  · cases h
theorem ev_inSign [Tb] {x z : Str} {b : Bool} (h : inSign x z = some b) (ha : Ev ta σ G M M1 (DD K (.str x))) (hb : Ev tb σ G M1 M2 (DD K (.str z))) : Ev (tOp (fun x y H Q => ∃ (c : Nat) (z : Str), x = V.str ⟨#[c]⟩ ∧ y = .str z ∧ Q (.bl (decide (c ∈ z.cps.toList))) H) ta tb) σ G M M2 (DD K (.bool b)) := ev_op mo_dd ha hb fun v w G0 H s k hx hy Q q => by
  obtain ⟨rfl, _⟩ := dq_str hx
  obtain ⟨rfl, _⟩ := dq_str hy
  obtain ⟨c, rfl, rfl⟩ := inSign_of h
  exact ⟨c, z, rfl, rfl, q _ G0 H (Same.refl _) k (.bl _)⟩
theorem ev_leS [Tb] {a b : Str} (ha : Ev ta σ G M M1 (DD K (.str a))) (hb : Ev tb σ G M1 M2 (DD K (.str b))) : Ev (tOp (fun x y H Q => ∃ i j, x = V.str i ∧ y = .str j ∧ Q (.bl (!decide (j.cps.toList < i.cps.toList))) H) ta tb) σ G M M2 (DD K (.bool (!sLt b a))) := ev_op mo_dd ha hb fun v w G0 H s k hx hy Q q => by
  obtain ⟨rfl, _⟩ := dq_str hx
  obtain ⟨rfl, _⟩ := dq_str hy
  exact ⟨a, b, rfl, rfl, q _ G0 H (Same.refl _) k (.bl _)⟩
theorem sok_cut {z : Str} {lo hi : Option Int} (h : sok z = true) : sok (cutS z lo hi) = true := by
  rw [sok_iff] at h
  exact sok_mk fun c hc => h c (List.mem_of_mem_drop (List.mem_of_mem_take hc))
theorem ev_slS [Tb] {z y : Str} {tl th : TO} {lo hi : Option Int} (hy : cutSO z lo hi = some y) (h : Ev te σ G M M (DD K (.str z))) (h1 : EvO tl σ G M M lo) (h2 : EvO th σ G M M hi) : Ev (tSl rSlS te tl th) σ G M M (DD K (.str y)) := fun G0 H s k Q q =>
  h G0 H s k _ fun x G1 H1 s1 k1 hx => h1 G1 H1 (s.trans s1) k1 _ fun G2 H2 s2 k2 => h2 G2 H2 ((s.trans s1).trans s2) k2 _ fun G3 H3 s3 k3 => by
    obtain ⟨rfl, hz⟩ := dq_str hx
    obtain ⟨_, h3, h4⟩ := bs hy
    cases h4
    exact ⟨z, rfl, szl (grd_of h3), q _ G3 H3 (s1.trans (s2.trans s3)) k3 (.str (sok_cut hz))⟩
theorem cl_lenS {X : Cx} : CallR X (.builtin "len") rLenS := call_len_str
/-! ### a text among texts -/
theorem strs_flat : ∀ (xs : List Str), (xs.map V.str).all flatV = true
  | [] => rfl
  | x :: xs => by
    rw [List.map_cons, List.all_cons, strs_flat xs]; rfl
theorem inV_strs (x : Str) : ∀ (xs : List Str), inV (.str x) (xs.map V.str) = memB x xs
  | [] => by simp [inV, memB]
  | y :: ys => by
    have ih := inV_strs x ys
    unfold inV at ih ⊢
    rw [List.map_cons, List.any_cons, ih]
    have e : eqV (.str y) (.str x) = decide (y = x) := by unfold eqV; exact beq_dec y x
    rw [e]
    unfold memB
    by_cases h : x = y
    · simp [h]
    · simp [h, Ne.symm h]
theorem op_inSK {X : Cx} (h : X.K = K := by rfl) : OpR X (compareOp .In) (rIn K false) := h ▸ op_in_seq
theorem ev_inS [Tb] {x : Str} {xs : List Str} {k : Bool} (ha : Ev ta σ G M M1 (DD K (.str x))) (hb : Ev tb σ G M1 M2 (DD K (seqD k (xs.map Dat.str)))) : Ev (tOp (rIn K false) ta tb) σ G M M2 (DD K (.bool (memB x xs))) := ev_op mo_dd ha hb fun v w G0 H s kk hx hy Q q => by
  obtain ⟨rfl, _⟩ := dq_str hx
  cases k with
  | true =>
    obtain ⟨a, vs, rfl, h1, h2⟩ := dp_tuple (show Dq K G0 w (.tuple (xs.map Dat.str)) from hy)
    rw [dpAll_strs h2] at h1
    refine ⟨a, _, rfl, .inr (sqT_up kk.g h1), rfl, strs_flat xs, ?_⟩
    rw [if_neg (by decide), inV_strs]
    exact q _ G0 H (Same.refl _) kk (.bl _)
  | false =>
    obtain ⟨a, vs, rfl, h1, h2⟩ := dp_list (show Dq K G0 w (.list (xs.map Dat.str)) from hy)
    rw [dpAll_strs h2] at h1
    refine ⟨a, _, rfl, .inl (.inl (.inl (kk.g _ _ h1))), rfl, strs_flat xs, ?_⟩
    rw [if_neg (by decide), inV_strs]
    exact q _ G0 H (Same.refl _) kk (.bl _)
end
end Kx
end
section
set_option maxHeartbeats 2000000
namespace Kx
open PySem L2
/-! ### the order of texts -/
theorem sLt_irr (a : Str) : sLt a a = false := decide_eq_false (List.lt_irrefl _)
theorem sLt_trans {a b c : Str} (h1 : sLt a b = true) (h2 : sLt b c = true) : sLt a c = true := decide_eq_true (List.lt_trans (of_decide_eq_true h1) (of_decide_eq_true h2))
theorem str_ext {a b : Str} (h : a.cps.toList = b.cps.toList) : a = b := by
  cases a with
  | mk x =>
    cases b with
    | mk y =>
      congr 1
      exact Array.toList_inj.mp h
theorem sLt_tri {a b : Str} (h1 : sLt a b = false) (h2 : sLt b a = false) : a = b := by
  have l1 : ¬ a.cps.toList < b.cps.toList := of_decide_eq_false h1
  have l2 : ¬ b.cps.toList < a.cps.toList := of_decide_eq_false h2
  exact str_ext (List.le_antisymm (List.not_lt.mp l2) (List.not_lt.mp l1))
def sLe (a b : Str) : Bool := !sLt b a
theorem sLe_trans (a b c : Str) (h1 : sLe a b = true) (h2 : sLe b c = true) : sLe a c = true := by
  unfold sLe at *
  cases e : sLt c a with
  | false => rfl
  | true =>
    cases e1 : sLt b a with
    | true => rw [e1] at h1; cases h1
    | false =>
      cases e2 : sLt a b with
      | true => have := sLt_trans e e2; rw [this] at h2; cases h2
      | false => rw [sLt_tri e2 e1] at e; rw [e] at h2; cases h2
theorem sLe_total (a b : Str) : (sLe a b || sLe b a) = true := by
  unfold sLe
  cases e : sLt b a with
  | false => rfl
  | true =>
    cases e2 : sLt a b with
    | false => rfl
    | true => have := sLt_trans e e2; rw [sLt_irr] at this; cases this
theorem sLe_anti {a b : Str} (h1 : sLe a b = true) (h2 : sLe b a = true) : a = b := by
  unfold sLe at *
  exact sLt_tri (by simpa using h2) (by simpa using h1)
/-- two rows in order with the same items are one -/
theorem perm_sorted {α : Type} {le : α → α → Prop} (anti : ∀ a b, le a b → le b a → a = b) : ∀ {l m : List α}, l.Perm m → l.Pairwise le → m.Pairwise le → l = m
  | [], m, p, _, _ => by rw [List.nil_perm.mp p]
  | x :: l, [], p, _, _ => by have := p.length_eq; simp at this
  | x :: l, y :: m, p, h1, h2 => by
    have e : x = y := by
      have hx : x ∈ y :: m := p.mem_iff.mp List.mem_cons_self
      have hy : y ∈ x :: l := p.mem_iff.mpr List.mem_cons_self
      rcases List.mem_cons.mp hx with e | hx
      · exact e
      · rcases List.mem_cons.mp hy with e | hy
        · exact e.symm
        · exact anti _ _ (List.rel_of_pairwise_cons h1 hy) (List.rel_of_pairwise_cons h2 hx)
    subst e
    rw [perm_sorted anti ((List.perm_cons x).mp p) (List.pairwise_cons.mp h1).2 (List.pairwise_cons.mp h2).2]
def srt (xs : List Str) : List Str := xs.mergeSort sLe
def sortS (xs : List Str) : Option (List Str) := (grd (xs.length < 64)).bind fun _ => some (srt xs)
theorem srt_perm (xs : List Str) : (srt xs).Perm xs := List.mergeSort_perm _ _
theorem srt_sorted (xs : List Str) : (srt xs).Pairwise fun a b => sLe a b = true := List.pairwise_mergeSort sLe_trans sLe_total xs
theorem rising_pairwise : ∀ {p : Str} {l : List Str}, PyProof.Rows.risingS p l = true → (p :: l).Pairwise fun a b => sLe a b = true
  | p, [], _ => by simp
  | p, x :: r, h => by
    unfold PyProof.Rows.risingS at h
    rw [Bool.and_eq_true] at h
    have ih := rising_pairwise h.2
    have e : sLe p x = true := by
      unfold sLe sLt
      rw [← PyProof.Rows.ltCps_eq]
      exact h.1
    refine List.pairwise_cons.mpr ⟨fun y hy => ?_, ih⟩
    rcases List.mem_cons.mp hy with e2 | hy
    · rw [e2]; exact e
    · exact sLe_trans _ _ _ e (List.rel_of_pairwise_cons ih hy)
theorem srt_is {xs ys : List Str} (p : ys.Perm xs) (h : PyProof.Rows.sortedS ys = true) : ys = srt xs := by
  refine perm_sorted (le := fun a b => sLe a b = true) (fun a b => sLe_anti) (p.trans (srt_perm xs).symm) ?_ (srt_sorted xs)
  cases ys with
  | nil => exact .nil
  | cons y l => exact rising_pairwise h
section
variable {K : PySem.W.Frag} {σ σ' : St} {G G' M M1 M2 M3 : Hp} {ta tb te tc : TE} {P P1 P2 : VP} {d e : Dat} {ds es : List Dat} {D : Ends} {H : Hp} {u : TS}
theorem cr_sortedSK {X : Cx} (h : X.K = K := by rfl) : CallR X (.builtin "sorted") (rSortedS K) := h ▸ cr_sortedS
theorem dqAll_strs {G : Hp} : ∀ {xs : List Str} , (∀ x ∈ xs, sok x = true) → DqAll K G (xs.map V.str) (xs.map Dat.str)
  | [], _ => .nil
  | x :: xs, h => .cons (.str (h x List.mem_cons_self)) (dqAll_strs fun y hy => h y (List.mem_cons_of_mem _ hy))
theorem strs_sok {G : Hp} : ∀ {xs : List Str} {vs : List V}, DqAll K G vs (xs.map Dat.str) → ∀ x ∈ xs, sok x = true
  | [], _, _, x, hx => by simp at hx
  | y :: ys, _, .cons a b, x, hx => by
    rcases List.mem_cons.mp hx with e | hx
    · rw [e]; exact (dq_str a).2
    · exact strs_sok b x hx
theorem el_sortedS [Tb] {xs ys : List Str} (h : sortS xs = some ys) (ha : EvA (tCons ta tNil) σ G M M1 (conP (DD K (.list (xs.map Dat.str))) nilP)) : EvL K (tCB (rSortedS K) (tCons ta tNil)) σ G M M1 (ys.map Dat.str) := el_cb ha fun vs G0 H s k hx Q q => by
  obtain ⟨v, rfl, hv⟩ := one_of (R := nilP) hx
  obtain ⟨a, ws, rfl, h1, h2⟩ := dp_list hv
  obtain ⟨_, h3, h4⟩ := bs h
  cases h4
  have so := strs_sok h2
  rw [dpAll_strs h2] at h1
  refine ⟨a, xs, rfl, .inl (.inl (k.g _ _ h1)), grd_of h3, fun zs p pz sz hp => ?_⟩
  have e := srt_is pz sz
  subst e
  exact newL (Same.refl _) k (dqAll_strs fun x hx => so x ((srt_perm xs).mem_iff.mp hx)) q p hp
end
end Kx
end
section
set_option maxHeartbeats 2000000
namespace Kx
open PySem L2 PySem.Spec PyProof.Rows
/-! ### a dict filled by a comprehension: keys of either kind -/
theorem dictSet2 {X : Cx} {pins : List (Addr × Obj)} {σ : L2.St} {H H' : Hp} {s : Shared} {E : Value → Shared → Prop} {D : Addr} {y v : V} {u r : Value} {Q : Unit → Shared → Prop} (hu : X.A.units + 1 < cLine) (I : Inv X pins σ H s) (g : DPut H D y v H') (ry : RelV y u) (rv : RelV v r)
    (h : ∀ s', Inv X pins σ H' s' → Q () s') : wpAny (model X.prog X.w) X.A (dictSet D u r) Q E s := by
  rcases g with ⟨kvs, k, e, rfl, l, rfl⟩ | ⟨kvs, k, b, e, rfl, eb, l, rfl⟩
  · exact d_dictSet I e l ry rv h
  · cases (show u = Value.ref b from ry)
    obtain ⟨z, hd, xs, rel, dd⟩ := dt_of I.hok e
    have hz : xs.length ≤ sizeLine := by rw [← Paired.length rel]; exact z
    have hl : (putK kvs k v).length ≤ sizeLine := by have := length_putK kvs k v; omega
    refine wpAny_dictSet_heap (hsz := hz) (show (tupleKind (mixKind X.prog X.w)).room X.A from Nat.lt_of_succ_lt hu) (key_of I.hok eb) dd fun g1 dd1 hs => h _ ?_
    obtain ⟨q, es, ep, hq, h2, h3, h4, _, h5⟩ := dd1
    refine d_write I (by rw [e]; exact True.intro) hs ⟨q, hq⟩ ⟨hl, hd, _, (rel.put k eb rv).keeps fun c ys ec => ?_, q, es, ep, hq, h2, h3, h4, h5⟩
    rw [upd_ne (ne_of ec e (fun z => nomatch z))]
    exact ec
/-- the empty one, by its kind -/
def d0 : Bool → HO
  | true => .dT []
  | false => .dK []
def tDcB (kd : Bool) (wi : TI) (g : TG) (tt : TT) (tk tv : TE) (vs : List Nat) : TE := fun σ H Q => wi σ H fun J H1 => ∀ D, H1 D = none → ∃ W : Nat → Nat → Hp → Prop, (∃ m, W 0 m (upd H1 D (d0 kd))) ∧ ∀ i m H, W i m H →
  (J.stop i H ∧ Q (.ref D) H) ∨ (J.go i H ∧ ∃ Nx : Hp → Prop, (∀ H', Nx H' → ∃ m', m' < m ∧ W (i + 1) m' H') ∧ ∀ x H', J.yld i H x H' → g x (wipe σ vs) H' fun σ2 H2 => wipe σ2 vs = wipe σ vs ∧ tt σ2 H2 fun b H3 =>
    if b = true then tk σ2 H3 fun y H4 => tv σ2 H4 fun z H5 => ∃ H6, DPut H5 D y z H6 ∧ Nx H6 else Nx H3)
section
variable {X : Cx}
theorem pe_dcB (kd : Bool) {kx vx tg iter : Expr} {ifs : List Expr} {scope : Scope} {own : List (Str × Nat)} {pos : Pos} {wi : TI} {g : TG} {tt : TT} {tk tv : TE} (hu : X.A.units + 1 < cLine) (hc : X.calm = true) (hN : X.N.Nodup) (hi : PI X tg iter wi) (ok : BlkOk X.N X.env.scope scope own)
    (hg : ∀ (s : Shared) (H : Hp) (C : Addr) (cl : List (Str × Addr)) (fp : List Addr), PG (X.blk s H scope (compEnvC scope cl C X.env) fp) tg g) (ht : ∀ (s : Shared) (H : Hp) (C : Addr) (cl : List (Str × Addr)) (fp : List Addr), PTs (X.blk s H scope (compEnvC scope cl C X.env) fp) ifs tt)
    (hk : ∀ (s : Shared) (H : Hp) (C : Addr) (cl : List (Str × Addr)) (fp : List Addr), PE (X.blk s H scope (compEnvC scope cl C X.env) fp) kx tk)
    (he : ∀ (s : Shared) (H : Hp) (C : Addr) (cl : List (Str × Addr)) (fp : List Addr), PE (X.blk s H scope (compEnvC scope cl C X.env) fp) vx tv) (hs : ∀ x, foldedSetIterable iter X.env x = pure x := by intro _; rfl) :
    PE X (.DictComp kx vx [⟨tg, iter, ifs, 0⟩] scope pos) (tDcB kd wi g tt tk tv (own.map (·.2))) := by
  refine ⟨fun pins s σ H Q I hq => ?_⟩
  rw [arm_eval_DictComp]
  have cells : ∀ y ∈ scope.names, y.2 = .free → ∃ c, X.env.cells.lookup y.1 = some c := fun y hy e => (ok.free y hy e).elim (fun k => I.ok.has _ (.inl k)) (fun k => I.ok.has _ (.inr k))
  refine wpAny_comprehension_free (use := none) rfl hs (closure_ok cells) ok.kind (fun y hy e => by rw [ok.uniq y hy, e]) (thn (hi.run pins s σ H _ I hq) fun xv s1 hx => thn hx fun itv s2 h2 => ?_)
  obtain ⟨it, fp, tn, J, H2, rfl, I2, T, st2, f2, q⟩ := h2
  refine wpAny_newObj_type (newEnv_comp ?_)
  generalize hD : s2.heap.objs.size = D
  obtain ⟨W, ⟨m0, w0⟩, turn⟩ := q D (I2.hok.fresh (Nat.le_of_eq hD))
  generalize hs3 : ({ s2 with heap := s2.heap.push { cls := .type "dict", data := .dict #[] } } : Shared) = s3
  have h3 : s3.heap = s2.heap.push { cls := .type "dict", data := .dict #[] } := by rw [← hs3]
  have I3 : Inv X pins σ (upd H2 D (d0 kd)) s3 := by
    rw [← hs3]
    refine I2.laid (t' := s2.toks) (fun b o e => Heap.get?_push_of_some _ e) (Nat.le_of_eq hD) ?_
    rw [← hD]
    cases kd with
    | true => exact dt_empty s2.heap I2.big
    | false => exact dk_empty s2.heap I2.big
  have f3 : ∀ b ∈ fp, FpOk X pins (upd H2 D (d0 kd)) b ∧ b < s3.heap.objs.size := fun b hb => by
    obtain ⟨o, e, _⟩ := T.obj _ _ st2 b hb
    have lt := Heap.lt_size e
    refine ⟨⟨?_, (f2 b hb).2⟩, by rw [h3, Heap.size_push]; exact Nat.lt_succ_of_lt lt⟩
    rw [upd_ne (by rw [← hD]; exact Nat.ne_of_lt lt)]
    exact (f2 b hb).1
  have st3 : tn 0 s3.heap := T.keep _ _ _ st2 fun b _ o e => by rw [h3]; exact Heap.get?_push_of_some _ e
  have I4 := block_start I3 ok hN f3
  have pg := hg s3 (upd H2 D (d0 kd)) s3.heap.objs.size (cellsFrom (s3.heap.objs.size + 1) scope.names (cloFrom X.env.cells scope.names [])) fp
  have pt := ht s3 (upd H2 D (d0 kd)) s3.heap.objs.size (cellsFrom (s3.heap.objs.size + 1) scope.names (cloFrom X.env.cells scope.names [])) fp
  have pk := hk s3 (upd H2 D (d0 kd)) s3.heap.objs.size (cellsFrom (s3.heap.objs.size + 1) scope.names (cloFrom X.env.cells scope.names [])) fp
  have pe := he s3 (upd H2 D (d0 kd)) s3.heap.objs.size (cellsFrom (s3.heap.objs.size + 1) scope.names (cloFrom X.env.cells scope.names [])) fp
  show codeAny _ _ (.compStart (.DictComp kx vx [⟨tg, iter, ifs, 0⟩] scope pos) 0 (.ref it) (.ref D) (compEnvC scope (cellsFrom (s3.heap.objs.size + 1) scope.names (cloFrom X.env.cells scope.names [])) s3.heap.objs.size X.env)) (compPost (model X.prog X.w) X.A X.xe none (EP X pins σ Q) (.ref D) s3.heap.objs.size) { s3 with heap := pushCells (s3.heap.push { cls := .type "dict", data := .dict #[] }) scope.names }
  have nfp : ∀ b ∈ fp, (upd H2 D (d0 kd)) b = none := fun b hb => (f3 b hb).1.1
  generalize hce : compEnvC scope (cellsFrom (s3.heap.objs.size + 1) scope.names (cloFrom X.env.cells scope.names [])) s3.heap.objs.size X.env = ce at I4 pg pt pk pe ⊢
  have cL : ce.locals = s3.heap.objs.size := by subst hce; rfl
  generalize hH3 : upd H2 D (d0 kd) = H3 at I3 I4 pg pt pk pe w0 nfp f3
  generalize hs4 : ({ s3 with heap := pushCells (s3.heap.push { cls := .type "dict", data := .dict #[] }) scope.names } : Shared) = s4 at I4 ⊢
  have st4 : tn 0 s4.heap := T.keep _ _ _ st3 fun b _ o e => by rw [← hs4]; exact pushCells_keeps _ _ _ _ (Heap.get?_push_of_some _ e)
  have stat : ∀ {σ1 : L2.St} {H1 : Hp} {s' : Shared}, Inv (X.blk s3 H3 scope ce fp) [] σ1 H1 s' → (∀ b ∈ fp, H1 b = none) → ∀ b ∈ fp, FpOk (X.blk s3 H3 scope ce fp) [] H1 b := fun I1 hn b hb =>
    ⟨hn b hb, (I1.ok.exf b hb).1, I1.ok.exfs b hb, .inl hb, fun x c e => (I1.ok.exf b hb).2 x c e, fun p hp => absurd (show p ∈ ([] : List (Addr × Obj)) ++ [] from hp) (by simp)⟩
  have loop : codeAny (model X.prog X.w) X.A (.compLoop (.DictComp kx vx [⟨tg, iter, ifs, 0⟩] scope pos) 0 (.ref it) (.ref D) ce) (compPost (model X.prog X.w) X.A X.xe none (EP X pins σ Q) (.ref D) s3.heap.objs.size) s4 := by
    refine compLoop_anyD (fun n s' => ∃ i H1, Inv (X.blk s3 H3 scope ce fp) [] (wipe σ (own.map (·.2))) H1 s' ∧ tn i s'.heap ∧ (∀ b ∈ fp, H1 b = none) ∧ W i n H1) ?_ m0 ⟨0, H3, I4, st4, nfp, w0⟩
    rintro n s5 ⟨i, H5, I5, st5, n5, w5⟩
    rcases turn i n H5 w5 with ⟨stop, qq⟩ | ⟨go, Nx, hNx, step⟩
    · refine thnF (T.done (X.blk s3 H3 scope ce fp) rfl rfl rfl hc i [] s5 _ H5 (fun _ _ => False) I5 (stat I5 n5) st5 stop) fun r s6 ⟨hr, I6⟩ => ?_
      subst hr
      have I7 : Inv X pins σ H5 s6 := I3.call' (ch := fp) I6.os I6.base I6.hok I6.bare fun b hb => ⟨(f3 b hb).1.2.2.2.1, (f3 b hb).1.2.1, (f3 b hb).1.2.2.2.2.1, (f3 b hb).1.2.2.2.2.2⟩
      have nC : H5 s3.heap.objs.size = none := by
        have z : H5 ce.locals = none := I6.free
        rw [cL] at z
        exact z
      obtain ⟨m, hn, _⟩ := I6.loc
      have hn : s6.heap.Ns ce.locals m := hn
      rw [cL] at hn
      obtain ⟨a0, a1, a2, a3, a4, a5⟩ := I3.fpOk (Nat.le_refl _) nC
      exact ⟨m, hn, fun g2 sb => ⟨.ref D, H5, I7.turned (t' := s6.toks) (fun b o hb e => (sb.2 b hb).trans e) a0 a1 a3 a4 a5, rfl, qq⟩⟩
    · refine thnF (T.item (X.blk s3 H3 scope ce fp) rfl rfl rfl hc i [] s5 _ H5 (fun _ _ => False) I5 (stat I5 n5) st5 go) fun r s6 ⟨u, hr, h6⟩ => ?_
      subst hr
      refine thnF h6 fun _ s7 ⟨x, H7, I7, r7, y7, st7, n7⟩ => ?_
      refine thnF (pg.run _ s7 _ H7 x u _ (I7.pinned (stat I7 n7) (T.obj _ _ st7)) r7 (step x H7 y7)) fun _ s8 ⟨σ8, H8, I8, hw8, q8⟩ => ?_
      refine thnF (pt.run _ s8 σ8 H8 _ I8 q8) fun b s9 ⟨H9, I9, q9⟩ => ?_
      have fin : ∀ {s' : Shared} {H1 : Hp}, Inv (X.blk s3 H3 scope ce fp) ([] ++ pinsAt fp s7.heap) σ8 H1 s' → Nx H1 → ∃ m, m < n ∧ ∃ i H1, Inv (X.blk s3 H3 scope ce fp) [] (wipe σ (own.map (·.2))) H1 s' ∧ tn i s'.heap ∧ (∀ b ∈ fp, H1 b = none) ∧ W i m H1 := fun {s' H1} I1 nx => by
        obtain ⟨m1, hm, w1⟩ := hNx H1 nx
        have pin1 : ∀ b ∈ fp, ∀ o, s7.heap.get? b = some o → s'.heap.get? b = some o ∧ H1 b = none := fun b hb o e =>
          let z := I1.pin (b, o) (List.mem_append_right _ (List.mem_append_right _ (mem_pinsAt hb e)))
          ⟨z.1, z.2.1⟩
        refine ⟨m1, hm, i + 1, H1, (I1.unpinned (pins := [])).weak (by rw [← hw8, wipe_length]) (fun j v e => by rw [← hw8] at e; exact (wipe_some e).1), T.keep _ _ _ st7 fun b hb o e => (pin1 b hb o e).1, fun b hb => ?_, w1⟩
        obtain ⟨o, e, _⟩ := T.obj _ _ st7 b hb
        exact (pin1 b hb o e).2
      cases b with
      | false =>
        simp only [Bool.false_eq_true, if_false] at q9 ⊢
        exact fin I9 q9
      | true =>
        simp only [if_true] at q9 ⊢
        refine thnF (pk.run _ s9 σ8 H9 _ I9 q9) fun z s10 ⟨yk, H10, I10, r10, q10⟩ => ?_
        refine thnF (pe.run _ s10 σ8 H10 _ I10 q10) fun z2 s11 ⟨yv, H11, I11, r11, H6, put, nx⟩ => ?_
        exact dictSet2 (X := X.blk s3 H3 scope ce fp) hu I11 put r10 r11 fun s12 I12 => fin I12 nx
  exact codeAny_compStart_dict loop (T.self X.A 0 _ _ _ st4 loop)
end
end Kx
end
section
set_option maxHeartbeats 2000000
namespace Kx
open PySem L2 PySem.Spec PyProof.Rows
/-! ### dict(xs) of pairs: a tuple of pairs by texts; a list of pairs by tuples of texts -/
section
variable {X : Cx} {K : PySem.W.Frag}
theorem isTuple_of {h : Heap} {a : Addr} {its : Array Value} (x : IsTup h a its) : h.IsTuple a its := by
  obtain ⟨o, h1, h2, n, h3⟩ := x
  exact ⟨o, h1, h2, n, h3⟩
def rDictT (K : PySem.W.Frag) : List V → Hp → VK → Prop := fun xs H Q => ∃ (a : Addr) (ps : List Addr) (kvs : List (Key × V)), xs = [.ref a] ∧ (TupG K H a (ps.map V.ref) ∨ SqL K H a (ps.map V.ref)) ∧ Paired (fun p kv => SqT K H p [kV kv.1, kv.2]) ps kvs ∧
    ∀ p, H p = none → Q (.ref p) (upd H p (.dK (mergeK [] kvs)))
theorem cl_dictT (hcalm : X.calm = true) : CallR X (.type "dict") (rDictT X.K) := by
  intro pins s σ H xs us Q I r q
  obtain ⟨a, ps, kvs, ex, hq | hq, hp, q⟩ := q
  rotate_left
  · exact call_dictP hcalm pins s σ H xs us Q I r ⟨a, ps, kvs, ex, hq, hp, q⟩
  subst ex
  obtain ⟨u, eu, rx⟩ := vals1 r
  subst eu
  cases rx
  obtain ⟨its, rv, _, hz⟩ := I.tuple hq.sq
  have ei := refs_at rv
  subst ei
  have ob : ∃ o n, s.heap.get? a = some o ∧ o.cls = .type "tuple" ∧ o.dict = none ∧ o.data = .seq (ps.map Value.ref).toArray n := by
    rcases hq with ⟨o, e, hd⟩ | ⟨o, its, n, e, hc, hd, h4, _, h6⟩
    · obtain ⟨e1, _, its, r1, o2, e2, hc, n, h3⟩ := I.hok a _ e
      rw [e1] at e2
      cases e2
      rw [refs_at r1] at h3
      exact ⟨o, n, e1, hc, hd, h3⟩
    · have e6 := refs_at h6
      exact ⟨o, n, I.kIn a o e, hc, hd, by rw [h4, ← e6]⟩
  rw [List.length_map] at hz
  obtain ⟨prs, rel, hl, hpr⟩ := pairs_of I hp
  let Ts : Nat → Addr := fun j => ps.getD j 0
  have ks : ∀ {l : List (Key × Value)}, (∀ (j : Nat) (q : Key × Value), l[j]? = some q → ∃ (b : Addr) (u : Value), IsTup s.heap b #[u, q.2] ∧ keyIs q.1 u = true) → True := fun _ => trivial
  -- the keys' values
  have hex : ∃ us : List Value, us.length = prs.length ∧ ∀ (j : Nat) (q : Key × Value), prs[j]? = some q → ∃ b u, ps[j]? = some b ∧ us[j]? = some u ∧ IsTup s.heap b #[u, q.2] ∧ keyIs q.1 u = true := by
    clear rel
    have : ∀ (prs : List (Key × Value)) (ps : List Addr), (∀ (j : Nat) (q : Key × Value), prs[j]? = some q → ∃ (b : Addr) (u : Value), ps[j]? = some b ∧ IsTup s.heap b #[u, q.2] ∧ keyIs q.1 u = true) → ∃ us : List Value, us.length = prs.length ∧ ∀ (j : Nat) (q : Key × Value), prs[j]? = some q → ∃ b u, ps[j]? = some b ∧ us[j]? = some u ∧ IsTup s.heap b #[u, q.2] ∧ keyIs q.1 u = true := by
      intro prs
      induction prs with
      | nil => intro ps _; exact ⟨[], rfl, fun j q e => by simp at e⟩
      | cons x prs ih =>
        intro ps h
        obtain ⟨us, hl, hu⟩ := ih ps.tail fun j q e => by
          obtain ⟨b, u, e1, e2⟩ := h (j + 1) q (by simpa using e)
          refine ⟨b, u, ?_, e2⟩
          cases ps with
          | nil => simp at e1
          | cons _ _ => simpa using e1
        obtain ⟨b, u, e1, e2⟩ := h 0 x rfl
        refine ⟨u :: us, by rw [List.length_cons, List.length_cons, hl], fun j q e => ?_⟩
        cases j with
        | zero =>
          cases (Option.some.inj e : x = q)
          exact ⟨b, u, e1, rfl, e2⟩
        | succ j =>
          obtain ⟨b', u', f1, f2, f3⟩ := hu j q (by simpa using e)
          refine ⟨b', u', ?_, by simpa using f2, f3⟩
          cases ps with
          | nil => simp at f1
          | cons _ _ => simpa using f1
    exact this prs ps hpr
  obtain ⟨us, hul, hus⟩ := hex
  obtain ⟨o, n, o1, o2, o3, o4⟩ := ob
  refine PySem.call_dict_pairs (knd := mixKind X.prog X.w) (kvs := prs) (PairArg.tuple a (ps.map Value.ref).toArray Ts (us.zip (prs.map (·.2)))) (I.ok.hd hcalm) ⟨⟨o, n, o1, o2, o3, o4⟩, ?_, fun j k v e => ?_⟩ ⟨by simp [hul], fun i key v hr => ?_⟩ (by simp [hul, hl]; exact hz) fun h' tk dd k => ?_
  · simp [hl, hul]
  · rw [List.getElem?_zip_eq_some] at e
    obtain ⟨e1, e2⟩ := e
    rw [List.getElem?_map] at e2
    obtain ⟨x, hx, e3⟩ := Option.map_eq_some_iff.mp e2
    obtain ⟨b, u, f1, f2, f3, f4⟩ := hus j x hx
    rw [e1] at f2
    cases f2
    subst e3
    have hb : Ts j = b := by show ps.getD j 0 = b; rw [List.getD_eq_getElem?_getD, f1]; rfl
    rw [hb]
    exact ⟨by simp [f1], .inl (isTuple_of f3)⟩
  · have hr : (us.zip (prs.map (·.2)))[i]? = some (key, v) := hr
    rw [List.getElem?_zip_eq_some] at hr
    obtain ⟨e1, e2⟩ := hr
    rw [List.getElem?_map] at e2
    obtain ⟨x, hx, e3⟩ := Option.map_eq_some_iff.mp e2
    obtain ⟨b, u, f1, f2, f3, f4⟩ := hus i x hx
    rw [e1] at f2
    cases f2
    subst e3
    exact ⟨x.1, hx, f4⟩
  · have k : ∀ b o, s.heap.get? b = some o → h'.get? b = some o := fun b o e => k b o (by simp) e
    have hm : (s.heap.objs.size == sysModules) = false := beq_eq_false_iff_ne.mpr (Nat.ne_of_gt I.big)
    have hlen : (mergeK [] kvs).length ≤ sizeLine := by
      refine Nat.le_trans (length_mergeK kvs []) ?_
      rw [List.length_nil, Nat.zero_add, rel.length, hl]
      exact hz
    exact ⟨.ref s.heap.objs.size, upd H s.heap.objs.size (.dK (mergeK [] kvs)), I.laid (t' := tk) k (Nat.le_refl _) (show ObjOk X.prog X.w _ _ _ (.dK (mergeK [] kvs)) from ⟨hlen, hm, merged [] prs, KV.merge rel .nil, dd⟩), rfl, q _ (I.hok.fresh (Nat.le_refl _))⟩
end
end Kx
end
section
set_option maxHeartbeats 2000000
namespace Kx
open PySem L2
/-! ### tables: the mirror of dicts -/
section
variable {α β : Type} [DecidableEq α]
def getA (xs : List (α × β)) (k : α) : Option β := (xs.find? fun x => decide (x.1 = k)).map (·.2)
def hasA (xs : List (α × β)) (k : α) : Bool := (getA xs k).isSome
def putA (xs : List (α × β)) (k : α) (v : β) : List (α × β) := if (xs.any fun x => decide (x.1 = k)) = true then xs.map (fun x => if x.1 = k then (x.1, v) else x) else xs ++ [(k, v)]
def mergeA (xs more : List (α × β)) : List (α × β) := more.foldl (fun acc x => putA acc x.1 x.2) xs
def dictO (xs : List (α × β)) : Option (List (α × β)) := do
  grd (xs.length ≤ 16777216)
  some (mergeA [] xs)
theorem getA_pos {p : α × β} {r : List (α × β)} {k : α} (e : p.1 = k) : getA (p :: r) k = some p.2 := by simp [getA, List.find?_cons, e]
theorem getA_neg {p : α × β} {r : List (α × β)} {k : α} (e : ¬ p.1 = k) : getA (p :: r) k = getA r k := by simp [getA, List.find?_cons, e]
theorem putA_len (xs : List (α × β)) (k : α) (v : β) : (putA xs k v).length ≤ xs.length + 1 := by
  unfold putA
  split
  · rw [List.length_map]; omega
  · rw [List.length_append, List.length_cons, List.length_nil]; omega
theorem putA_keys {p : α → Prop} {xs : List (α × β)} {k : α} {v : β} (h : ∀ x ∈ xs, p x.1) (hk : p k) : ∀ x ∈ putA xs k v, p x.1 := by
  unfold putA
  split
  · intro x hx
    obtain ⟨y, hy, e⟩ := List.mem_map.mp hx
    by_cases e2 : y.1 = k
    · rw [if_pos e2] at e; rw [← e]; exact h y hy
    · rw [if_neg e2] at e; rw [← e]; exact h y hy
  · intro x hx
    rcases List.mem_append.mp hx with hx | hx
    · exact h x hx
    · rw [List.mem_singleton.mp hx]; exact hk
end
/-! ### tables in the heap -/
section
variable {α β κ : Type} [DecidableEq α] [DecidableEq κ] {K : PySem.W.Frag} {G G' : Hp} {f : α → κ} {e : β → Dat}
inductive KRel (K : PySem.W.Frag) (G : Hp) (f : α → κ) (e : β → Dat) : List (κ × V) → List (α × β) → Prop
  | nil : KRel K G f e [] []
  | cons {k : α} {v : V} {b : β} {kvs : List (κ × V)} {xs : List (α × β)} : Dq K G v (e b) → KRel K G f e kvs xs → KRel K G f e ((f k, v) :: kvs) ((k, b) :: xs)
theorem KRel.up (s : Same G G') {kvs : List (κ × V)} {xs : List (α × β)} (h : KRel K G f e kvs xs) : KRel K G' f e kvs xs := by
  induction h with
  | nil => exact .nil
  | cons a _ ih => exact .cons (dp_up s _ a) ih
theorem KRel.len {kvs : List (κ × V)} {xs : List (α × β)} (h : KRel K G f e kvs xs) : kvs.length = xs.length := by
  induction h with
  | nil => rfl
  | cons a _ ih => rw [List.length_cons, List.length_cons, ih]
theorem KRel.of : ∀ {kvs : List (κ × V)} {xs : List (α × β)}, kvs.map (·.1) = (xs.map fun x => f x.1) → DqAll K G (kvs.map (·.2)) (xs.map fun x => e x.2) → KRel K G f e kvs xs
  | [], [], _, _ => .nil
  | [], _ :: _, h, _ => by cases h
  | _ :: _, [], h, _ => by cases h
  | (k, v) :: kvs, (a, b) :: xs, h, hd => by
    cases hd with
    | cons h1 h2 =>
      rw [List.map_cons, List.map_cons] at h
      obtain ⟨e1, e2⟩ := List.cons.inj h
      cases (show k = f a from e1)
      exact .cons h1 (KRel.of e2 h2)
theorem KRel.keys {kvs : List (κ × V)} {xs : List (α × β)} (h : KRel K G f e kvs xs) : kvs.map (·.1) = xs.map fun x => f x.1 := by
  induction h with
  | nil => rfl
  | cons a _ ih => rw [List.map_cons, List.map_cons, ih]
theorem KRel.vals {kvs : List (κ × V)} {xs : List (α × β)} (h : KRel K G f e kvs xs) : DqAll K G (kvs.map (·.2)) (xs.map fun x => e x.2) := by
  induction h with
  | nil => exact .nil
  | cons a _ ih => exact .cons a ih
theorem KRel.get (inj : ∀ a b : α, f a = f b → a = b) {kvs : List (κ × V)} {xs : List (α × β)} (h : KRel K G f e kvs xs) (k : α) : (getA xs k = none ∧ valV kvs (f k) = none) ∨ ∃ b v, getA xs k = some b ∧ valV kvs (f k) = some v ∧ Dq K G v (e b) := by
  induction h with
  | nil => exact .inl ⟨rfl, rfl⟩
  | @cons k' v b kvs xs a _ ih =>
    by_cases q : k' = k
    · subst q
      exact .inr ⟨b, v, getA_pos (p := (k', b)) rfl, valV_pos (p := (f k', v)) rfl, a⟩
    · rw [getA_neg (p := (k', b)) q, valV_neg (p := (f k', v)) fun z => q (inj _ _ z)]
      exact ih
theorem KRel.any (inj : ∀ a b : α, f a = f b → a = b) {kvs : List (κ × V)} {xs : List (α × β)} (h : KRel K G f e kvs xs) (k : α) : (kvs.any fun kv => decide (kv.1 = f k)) = xs.any fun x => decide (x.1 = k) := by
  induction h with
  | nil => rfl
  | @cons k' v b kvs xs a _ ih =>
    rw [List.any_cons, List.any_cons, ih]
    by_cases q : k' = k
    · subst q; simp
    · have q2 : ¬ f k' = f k := fun z => q (inj _ _ z)
      simp [q, q2]
theorem KRel.put (inj : ∀ a b : α, f a = f b → a = b) {kvs : List (κ × V)} {xs : List (α × β)} (h : KRel K G f e kvs xs) (k : α) {v : V} {b : β} (hv : Dq K G v (e b)) : KRel K G f e (putK kvs (f k) v) (putA xs k b) := by
  unfold putK putA
  rw [h.any inj k]
  split
  · next hh =>
    clear hh
    induction h with
    | nil => exact .nil
    | @cons k' v' b' kvs xs a _ ih =>
      rw [List.map_cons, List.map_cons]
      by_cases q : k' = k
      · subst q
        rw [if_pos rfl, if_pos rfl]
        exact .cons hv ih
      · rw [if_neg (show ¬ (f k', v').1 = f k from fun z => q (inj _ _ z)), if_neg (show ¬ (k', b').1 = k from q)]
        exact .cons a ih
  · next hh =>
    clear hh
    induction h with
    | nil => exact .cons hv .nil
    | cons a _ ih => exact .cons a ih
end
def kS (x : Str) : Key := .inr x
def kP (x : Str × Str) : List Key := [.inr x.1, .inr x.2]
theorem kS_inj (a b : Str) (h : kS a = kS b) : a = b := by unfold kS at h; exact Sum.inr.inj h
theorem kP_inj (a b : Str × Str) (h : kP a = kP b) : a = b := by
  unfold kP at h
  obtain ⟨h1, h2⟩ := List.cons.inj h
  obtain ⟨h2, _⟩ := List.cons.inj h2
  exact Prod.ext (Sum.inr.inj h1) (Sum.inr.inj h2)
def okS (x : Str) : Prop := sok x = true
def okP (x : Str × Str) : Prop := sok x.1 = true ∧ sok x.2 = true
/-- dicts by texts, by pairs of texts -/
def eDS {β : Type} (e : β → Dat) (xs : List (Str × β)) : Dat := .dK (xs.map fun x => kS x.1) (xs.map fun x => e x.2)
def eDP {β : Type} (e : β → Dat) (xs : List ((Str × Str) × β)) : Dat := .dT (xs.map fun x => kP x.1) (xs.map fun x => e x.2)
section
variable {β : Type} {K : PySem.W.Frag} {σ σ' : St} {G G' M M1 M2 M3 : Hp} {ta tb te tc tk tv : TE} {P P1 P2 : VP} {d : Dat} {ds es : List Dat} {D : Ends} {H : Hp} {u : TS} {e : β → Dat}
theorem dq_eDS {v : V} {xs : List (Str × β)} (h : Dq K G v (eDS e xs)) : ∃ a kvs, v = .ref a ∧ Rd G a (.dK kvs) ∧ KRel K G kS e kvs xs ∧ ∀ x ∈ xs, okS x.1 := by
  unfold eDS at h
  cases h with
  | dK a b c d' =>
    refine ⟨_, _, rfl, a, KRel.of b d', fun x hx => ?_⟩
    exact (List.all_eq_true.mp c) (kS x.1) (List.mem_map.mpr ⟨x, hx, rfl⟩)
theorem eDS_of {a : Addr} {kvs : List (Key × V)} {xs : List (Str × β)} (h : G a = some (.dK kvs)) (r : KRel K G kS e kvs xs) (ok : ∀ x ∈ xs, okS x.1) : Dq K G (.ref a) (eDS e xs) :=
  .dK (.inl h) r.keys (List.all_eq_true.mpr fun k hk => by obtain ⟨x, hx, rfl⟩ := List.mem_map.mp hk; exact ok x hx) r.vals
theorem eDP_of {a : Addr} {kvs : List (List Key × V)} {xs : List ((Str × Str) × β)} (h : G a = some (.dT kvs)) (r : KRel K G kP e kvs xs) (ok : ∀ x ∈ xs, okP x.1) : Dq K G (.ref a) (eDP e xs) :=
  .dT (.inl h) r.keys (List.all_eq_true.mpr fun k hk => by
    obtain ⟨x, hx, rfl⟩ := List.mem_map.mp hk
    refine List.all_eq_true.mpr fun y hy => ?_
    have h2 := ok x hx
    unfold kP at hy
    rcases List.mem_cons.mp hy with rfl | hy
    · exact h2.1
    · rw [List.mem_singleton.mp hy]; exact h2.2) r.vals
/-- a key that is a pair of texts -/
theorem key_pair {v : V} {k : Str × Str} (h : Dq K G v (.rtup [.str k.1, .str k.2])) : ∃ b, v = .ref b ∧ G b = some (.tup ((kP k).map kV)) := by
  obtain ⟨b, vs, rfl, h1, h2⟩ := dp_rtup h
  cases h2 with
  | cons a h2 =>
    cases h2 with
    | cons b' h2 =>
      cases h2; cases a; cases b'
      exact ⟨b, rfl, h1⟩
/-! ### looking up -/
theorem dgS {a : Addr} {kvs : List (Key × V)} {k : Str} (h : Rd H a (.dK kvs)) : DGet H a (.str k) (valV kvs (kS k)) := .inl ⟨kvs, kS k, h, rfl, rfl⟩
theorem KRel.some' {α κ : Type} [DecidableEq α] [DecidableEq κ] {f : α → κ} (inj : ∀ a b : α, f a = f b → a = b) {kvs : List (κ × V)} {xs : List (α × β)} (h : KRel K G f e kvs xs) (k : α) : (valV kvs (f k)).isSome = hasA xs k := by
  unfold hasA
  rcases h.get inj k with ⟨z, z2⟩ | ⟨b', v, e1, e2, e3⟩
  · rw [z, z2]; rfl
  · rw [e1, e2]; rfl
theorem ev_dinS [Tb] {xs : List (Str × β)} {k : Str} (hk : Ev ta σ G M M1 (DD K (.str k))) (ho : Ev tb σ G M1 M2 (DD K (eDS e xs))) : Ev (tDIn ta tb) σ G M M2 (DD K (.bool (hasA xs k))) := fun G0 H s kk Q q =>
  hk G0 H s kk _ fun y G1 H1 s1 k1 hy => ho G1 H1 (s.trans s1) k1 _ fun x G2 H2 s2 k2 hx => by
    obtain ⟨a, kvs, rfl, h1, h2, _⟩ := dq_eDS hx
    cases hy
    refine ⟨a, _, rfl, dgS (rd_up k2.g h1), q _ G2 H2 (s1.trans s2) k2 ?_⟩
    rw [h2.some' kS_inj]
    exact .bl _
def getD' {α β : Type} [DecidableEq α] (xs : List (α × β)) (k : α) (z : β) : β := (getA xs k).getD z
theorem ev_rtup [Tb] {t : TA} (ha : EvA t σ G M M1 (allP K ds)) (hl : ds.length ≤ sizeLine := by simp [sizeLine_eq]) : Ev (tTup t) σ G M M1 (DD K (.rtup ds)) := fun G0 H s k Q q =>
  ha G0 H s k _ fun xs G1 H1 s1 k1 hx => ⟨by rw [dpAll_len hx]; exact hl, newR s1 k1 hx q⟩
/-! ### a dict of one's own by texts -/
def KOk (K : PySem.W.Frag) (G : Hp) (e : β → Dat) (kvs : List (Key × V)) (xs : List (Str × β)) : Prop := KRel K G kS e kvs xs ∧ ∀ x ∈ xs, okS x.1
theorem KOk.up {kvs : List (Key × V)} {xs : List (Str × β)} (s : Same G G') (h : KOk K G e kvs xs) : KOk K G' e kvs xs := ⟨h.1.up s, h.2⟩
theorem KOk.nil : KOk K G e [] [] := ⟨.nil, fun x hx => nomatch hx⟩
end
end Kx
end
section
set_option maxHeartbeats 2000000
namespace Kx
open PySem L2
theorem mergeA_take {α β : Type} [DecidableEq α] {ys : List (α × β)} {i : Nat} {y : α × β} (h : ys[i]? = some y) : mergeA [] (ys.take (i + 1)) = putA (mergeA [] (ys.take i)) y.1 y.2 := by
  unfold mergeA
  rw [List.take_add_one, h, List.foldl_append]
  rfl
theorem mergeA_len {α β : Type} [DecidableEq α] : ∀ (more xs : List (α × β)), (mergeA xs more).length ≤ xs.length + more.length
  | [], xs => by show xs.length ≤ xs.length + 0; omega
  | p :: r, xs => by
    have h1 := mergeA_len r (putA xs p.1 p.2)
    have h2 := putA_len xs p.1 p.2
    show (mergeA (putA xs p.1 p.2) r).length ≤ _
    rw [List.length_cons]; omega
theorem mergeA_keys {α β : Type} [DecidableEq α] {p : α → Prop} : ∀ (more xs : List (α × β)), (∀ x ∈ xs, p x.1) → (∀ x ∈ more, p x.1) → ∀ x ∈ mergeA xs more, p x.1
  | [], xs, h, _ => h
  | y :: r, xs, h, hm => mergeA_keys r (putA xs y.1 y.2) (putA_keys h (hm y List.mem_cons_self)) fun x hx => hm x (List.mem_cons_of_mem _ hx)
section
variable {β : Type} {K : PySem.W.Frag} {σ σ' : St} {G G' M M1 M2 M3 : Hp} {ta tb te tc tk tv : TE} {P P1 P2 : VP} {d : Dat} {ds es : List Dat} {D : Ends} {H : Hp} {u : TS} {e : β → Dat}
theorem KRel.mergeS : ∀ {more : List (Key × V)} {ms : List (Str × β)} {kvs : List (Key × V)} {xs : List (Str × β)}, KRel K G kS e more ms → KRel K G kS e kvs xs → KRel K G kS e (mergeK kvs more) (mergeA xs ms) := by
  intro more ms kvs xs r
  induction r generalizing kvs xs with
  | nil => intro q; exact q
  | cons a _ ih => intro q; exact ih (q.put kS_inj _ a)
/-- pairs (text, thing) -/
theorem prsS_of : ∀ {xs : List (Str × β)} {vs : List V}, DqAll K G vs (xs.map (eP2 Dat.str e)) → ∃ ps kvs, vs = ps.map V.ref ∧ Paired (fun p kv => SqT K G p [kV kv.1, kv.2]) ps kvs ∧ KRel K G kS e kvs xs ∧ ∀ x ∈ xs, okS x.1
  | [], _, h => by cases h; exact ⟨[], [], rfl, .nil, .nil, fun x hx => nomatch hx⟩
  | x :: xs, _, h => by
    cases h with
    | cons a b =>
      obtain ⟨ps, kvs, rfl, h1, h2, h3⟩ := prsS_of b
      obtain ⟨p, ws, rfl, h4, h5⟩ := dp_tuple a
      cases h5 with
      | cons h5 h6 =>
        cases h6 with
        | cons h6 h7 =>
          cases h7
          have sk : okS x.1 := by cases h5 with | str h => exact h
          cases h5
          refine ⟨p :: ps, (kS x.1, _) :: kvs, rfl, .cons h4 h1, .cons h6 h2, fun y hy => ?_⟩
          rcases List.mem_cons.mp hy with rfl | hy
          · exact sk
          · exact h3 y hy
theorem paired_up {α γ : Type} {R S : α → γ → Prop} {xs : List α} {ys : List γ} (h : Paired R xs ys) (f : ∀ a b, R a b → S a b) : Paired S xs ys := by
  induction h with
  | nil => exact .nil
  | cons a _ ih => exact .cons (f _ _ a) ih
theorem ev_dictT [Tb] {xs ys : List (Str × β)} (hy : dictO xs = some ys) (ha : EvA (tCons ta tNil) σ G M M1 (conP (DD K (.tuple (xs.map (eP2 Dat.str e)))) nilP)) : Ev (tCB (rDictT K) (tCons ta tNil)) σ G M M1 (DD K (eDS e ys)) := ev_cb ha fun vs G0 H s k hx Q q => by
  obtain ⟨v, rfl, hv⟩ := one_of (R := nilP) hx
  obtain ⟨_, h1, h2⟩ := bs hy
  cases h2
  cases hv with
  | tup a b =>
    obtain ⟨ps, kvs, rfl, p1, p2, p3⟩ := prsS_of b
    refine ⟨_, ps, kvs, rfl, .inl (a.up k.g), paired_up p1 fun _ _ z => sqT_up k.g z, fun p hp => ?_⟩
    have gn := Same.none k.g hp
    have s1 : Same G0 (upd G0 p (.dK (mergeK [] kvs))) := Same.new gn
    exact q _ _ _ s1 (k.newG _ hp) (eDS_of upd_same (((KRel.mergeS p2 .nil).up s1)) (mergeA_keys xs [] (fun x hx => nomatch hx) p3))
/-- {(a, b): v for ..} -/
def dcO {α γ : Type} [DecidableEq γ] (f : α → Option (γ × β)) (xs : List α) : Option (List (γ × β)) := do
  let ys ← lcO f xs
  some (mergeA [] ys)
theorem ev_dcP [Tb] {α : Type} {ea : α → Dat} {f : α → Option ((Str × Str) × β)} {xs : List α} {zs : List ((Str × Str) × β)} {wi : TI} {g : TG} {vs : List Nat} (src : Src K wi σ G M M1 (xs.map ea)) (hf : dcO f xs = some zs)
    (hs : ∀ (x : α) (y : (Str × Str) × β) (Mx G1 : Hp) (v : V), f x = some y → Same M1 Mx → Same G G1 → Dq K G1 v (ea x) → Tg g v (wipe σ vs) G1 fun σ2 => wipe σ2 vs = wipe σ vs ∧ Ev tk σ2 G1 Mx Mx (DD K (.rtup [.str y.1.1, .str y.1.2])) ∧ Ev tv σ2 G1 Mx Mx (DD K (e y.2))) :
    Ev (tDcB true wi g tYes tk tv vs) σ G M M1 (DD K (eDP e zs)) := by
  intro G0 H s k Q q
  obtain ⟨ys, h0, h1⟩ := bs hf
  cases h1
  obtain ⟨_, h1, h2⟩ := bs h0
  have hl := mapO_len h2
  have hz := szl (grd_of h1)
  refine src G0 H s k _ fun J G1 H1 s1 k1 w => ?_
  obtain ⟨Y, Gd, w, hGd, hY⟩ := w
  intro D hD
  have mD : M1 D = none := Same.none k1.m hD
  rw [List.length_map] at w
  let Pv : Nat → Hp → Prop := fun i H => ∃ G2 kvs, Same G1 G2 ∧ Ok G2 (upd M1 D (.dT kvs)) H ∧ KRel K G2 kP e kvs (mergeA [] (ys.take i)) ∧ ∀ x ∈ mergeA [] (ys.take i), okP x.1
  refine ⟨fun i m H => m = xs.length - i ∧ i ≤ xs.length ∧ Pv i H, ⟨xs.length, by simp, Nat.zero_le _, G1, [], Same.refl _, k1.newM _ hD, .nil, fun x hx => nomatch hx⟩, ?_⟩
  rintro i m H2 ⟨rfl, hi, G2, kvs, s2, k2, r2, o2⟩
  have qg := hGd H2 (s2.trans k2.g)
  by_cases hlt : i < xs.length
  · refine .inr ⟨w.goes i H2 hlt qg, Pv (i + 1), fun H' p' => ⟨xs.length - (i + 1), by omega, rfl, hlt, p'⟩, fun x H3 y => ?_⟩
    have y := w.yields i H2 x H3 hlt qg y
    obtain ⟨a, ha⟩ : ∃ a, xs[i]? = some a := ⟨xs[i], List.getElem?_eq_getElem hlt⟩
    obtain ⟨b, hb⟩ : ∃ b, ys[i]? = some b := ⟨ys[i]'(by omega), List.getElem?_eq_getElem (by omega)⟩
    obtain ⟨G3, s3, k3, hx⟩ := hY i (ea a) H2 x H3 G2 _ (by rw [List.getElem?_map, ha]; rfl) s2 k2 y
    refine hs a b (upd M1 D (.dT kvs)) G3 x (mapO_get h2 ha hb) (Same.new mD) (((s.trans s1).trans s2).trans s3) hx H3 _ k3.g ?_
    rintro σ2 ⟨hw, ek, ev⟩
    refine ⟨hw, ?_⟩
    simp only [tYes, if_true]
    refine ek G3 H3 (Same.refl _) k3 _ fun kv G4 H4 s4 k4 hk => ev G4 H4 s4 k4 _ fun vv G5 H5 s5 k5 hv => ?_
    obtain ⟨c, rfl, hc⟩ := key_pair (k := b.1) hk
    have ok : okP b.1 := by
      cases hk with
      | rtup _ z =>
        cases z with
        | cons z1 z2 =>
          cases z2 with
          | cons z2 _ => exact ⟨(dq_str z1).2, (dq_str z2).2⟩
    have s25 := (s3.trans s4).trans s5
    have hlen : (mergeA [] (ys.take i)).length < sizeLine := by
      have := mergeA_len (ys.take i) []
      rw [List.length_nil, List.length_take] at this
      rw [sizeLine_eq] at hz ⊢
      omega
    refine ⟨_, DPut.t (k5.m _ _ upd_same) ((s5.trans k5.g) _ _ hc) (by rw [r2.len]; exact hlen), G5, putK kvs (kP b.1) vv, s2.trans s25, ?_, ?_⟩
    · have := k5.chg (p := D) (u := .dT kvs) (.dT (putK kvs (kP b.1) vv)) upd_same
      rw [upd_upd] at this
      exact this
    · rw [mergeA_take hb]
      exact ⟨(r2.up s25).put kP_inj _ hv, putA_keys o2 ok⟩
  · have e : i = xs.length := by omega
    subst e
    refine .inl ⟨w.stops H2 qg, ?_⟩
    rw [← hl, List.take_length] at r2 o2
    exact q _ (upd G2 D (.dT kvs)) H2 ((s1.trans s2).trans (Same.new k2.gp)) (k2.frz mD) (eDP_of upd_same (r2.up (Same.new k2.gp)) o2)
end
end Kx
end
section
set_option maxHeartbeats 2000000
namespace Kx
open PySem L2
/-! ### instances -/
def fldIx : List Str → Str → Option Nat
  | [], _ => none
  | n :: ns, f => if n = f then some 0 else (fldIx ns f).map (· + 1)
theorem fldIx_lookup {f : Str} : ∀ {fs : List (Str × V)} {i : Nat}, fldIx (fs.map (·.1)) f = some i → fs.lookup f = (fs.map (·.2))[i]?
  | [], _, h => by cases h
  | (n, v) :: fs, i, h => by
    rw [List.map_cons] at h
    unfold fldIx at h
    rw [List.lookup_cons]
    by_cases e : n = f
    · rw [if_pos e] at h
      cases h
      rw [show (f == n) = true from beq_iff_eq.mpr e.symm]
      rfl
    · rw [if_neg e] at h
      obtain ⟨j, hj, rfl⟩ := Option.map_eq_some_iff.mp h
      rw [show (f == n) = false from beq_eq_false_iff_ne.mpr fun z => e z.symm]
      exact fldIx_lookup hj
theorem fldIx_none {f : Str} : ∀ {fs : List (Str × V)}, fldIx (fs.map (·.1)) f = none → fs.lookup f = none ∧ ∀ v, putF f v fs = fs ++ [(f, v)]
  | [], _ => ⟨rfl, fun _ => rfl⟩
  | (n, v) :: fs, h => by
    rw [List.map_cons] at h
    unfold fldIx at h
    by_cases e : n = f
    · rw [if_pos e] at h
      cases h
    · rw [if_neg e] at h
      obtain ⟨h1, h2⟩ := fldIx_none (Option.map_eq_none_iff.mp h)
      refine ⟨?_, fun w => ?_⟩
      · rw [List.lookup_cons, show (f == n) = false from beq_eq_false_iff_ne.mpr fun z => e z.symm]
        exact h1
      · unfold putF
        rw [if_neg e, h2 w]
        rfl
section
variable {K : PySem.W.Frag} {σ σ' : St} {G G' M M1 M2 M3 : Hp} {ta tb te tc : TE} {P P1 P2 : VP} {d : Dat} {ds es : List Dat} {D : Ends} {H : Hp} {u : TS} {C : Addr} {cn : Str} {ns : List Str}
theorem dq_ins {v : V} (h : Dq K G v (.ins cn ns ds)) : ∃ a dx fs, v = .ref a ∧ G a = some (.ins (clsAt K cn) dx fs) ∧ fs.map (·.1) = ns ∧ DqAll K G (fs.map (·.2)) ds := by
  cases h with
  | ins a b c => exact ⟨_, _, _, rfl, a, b, c⟩
theorem ev_fld [Tb] {f : Str} {i : Nat} (c : Cls K (clsAt K cn)) (n : NoAttr K (clsAt K cn) f) (hl : fldIx ns f = some i) (hd : ds[i]? = some d) (h : Ev te σ G M M1 (DD K (.ins cn ns ds))) : Ev (tFld K te f) σ G M M1 (DD K d) := fun G0 H s k Q q =>
  h G0 H s k _ fun x G1 H1 s1 k1 hx => by
    obtain ⟨a, dx, fs, rfl, h1, h2, h3⟩ := dq_ins hx
    subst h2
    obtain ⟨v, h4, h5⟩ := dpAll_get h3 hd
    exact ⟨a, clsAt K cn, dx, fs, v, rfl, k1.g _ _ h1, c, n, (fldIx_lookup hl).trans h4, q v G1 H1 s1 k1 h5⟩
/-- the promise of __init__: the object that is being made may be changed, then has these fields -/
def spI [Tb] {α ρ : Type} (K : PySem.W.Frag) (C : Addr) (ns : List Str) (fl : ρ → List Dat) (args : α → List V → Hp → Prop) (m : α → Option ρ) : Sp := fun vs H Q _ =>
  ∃ (G M : Hp) (x dx : Addr) (ws : List V) (a : α) (r : ρ), vs = .ref x :: ws ∧ Ok G (upd M x (.ins C dx [])) H ∧ M x = none ∧ args a ws G ∧ m a = some r ∧
    ∀ fs G' H', Same G G' → Ok G' (upd M x (.ins C dx fs)) H' → fs.map (·.1) = ns → DqAll K G' (fs.map (·.2)) (fl r) → Q .non H'
theorem ev_make [Tb] {α ρ : Type} {fl : ρ → List Dat} {args : α → List V → Hp → Prop} {m : α → Option ρ} {E : XK} {t : TA} {a : α} {r : ρ} (hm : m a = some r) (ha : EvA t σ G M M1 (args a)) : Ev (tMake (clsAt K cn) (spI K (clsAt K cn) ns fl args m) [] E t) σ G M M1 (DD K (.ins cn ns (fl r))) := fun G0 H s k Q q =>
  ha G0 H s k _ fun vs G1 H1 s1 k1 hv x dx hx hdx hne => by
    rw [List.append_nil]
    have h2 : Ok G1 M1 (upd H1 dx (.own x)) := ⟨k1.g.trans (Same.new hdx), k1.m.trans (Same.new hdx), k1.d, k1.mu, tb_new k1.tb hdx⟩
    have hx2 : (upd H1 dx (.own x)) x = none := by rw [upd_ne (fun z => hne z.symm)]; exact hx
    refine ⟨G1, M1, x, dx, vs, a, r, rfl, h2.newM _ hx2, Same.none k1.m hx, hv, hm, fun fs G2 H2 s2 k2 e1 e2 => ⟨rfl, ?_⟩⟩
    exact q _ (upd G2 x (.ins (clsAt K cn) dx fs)) H2 ((s1.trans s2).trans (Same.new k2.gp)) (k2.frz (Same.none k1.m hx)) (.ins upd_same e1 (dpAll_up (Same.new k2.gp) _ e2))
/-- self.f = e, f a new field -/
theorem q_fld [Tb] {f : Str} {x dx : Addr} {fs : List (Str × V)} {M0 : Hp} (c : Cls K C) (n : NoAttr K C f) (he : Ev te σ G (upd M0 x (.ins C dx fs)) (upd M0 x (.ins C dx fs)) (DD K d)) (ho : Ev ta σ G (upd M0 x (.ins C dx fs)) (upd M0 x (.ins C dx fs)) (OW x)) (hk : fs.map (·.1) = ns) (hl : fldIx ns f = none) (hz : ns.length < 1000) (ok : Ok G (upd M0 x (.ins C dx fs)) H)
    (k : ∀ v G' H', Same G G' → Ok G' (upd M0 x (.ins C dx (fs ++ [(f, v)]))) H' → Dq K G' v d → u D σ H') : tSeq (sFld K ta te f) u D σ H :=
  he G H (Same.refl _) ok _ fun v G1 H1 s1 k1 hv => ho G1 H1 s1 k1 _ fun y G2 H2 s2 k2 hy => by
    cases hy
    subst hk
    refine ⟨x, C, dx, fs, rfl, k2.m _ _ upd_same, c, n, by rw [List.length_map] at hz; exact hz, ?_⟩
    rw [(fldIx_none hl).2 v]
    have := k2.chg (p := x) (u := .ins C dx fs) (.ins C dx (fs ++ [(f, v)])) upd_same
    rw [upd_upd] at this
    exact k v G2 _ (s1.trans s2) this (dp_up s2 _ hv)
/-- isinstance(x, C), C the class of x -/
abbrev CLX (C : Addr) : VP := fun v _ => v = .ref C
end
/-! ### a def with one default -/
structure FunT (K : PySem.W.Frag) (x qual : Str) (st : Stmt) (E f : Addr) (fd : FuncData) : Prop where
  ex : FunD K x qual (defArgs st) (defBody st) (defScope st) [.ref E] [] f fd
theorem funT_mk {K : PySem.W.Frag} {x qual : Str} {st : Stmt} {f T E : Addr} {oc cT : Value} {od an dT : Option Addr} {osl slT : Array (Option Value)} {kV doc pm cdv ct : Value} {nT : Nat} (l : K.lookup f = some ⟨oc, od, .func (PySem.W.fnOf x qual (defArgs st) (defBody st) (defScope st) (.ref T) kV doc pm an cdv ct), osl⟩)
    (lT : K.lookup T = some ⟨cT, dT, .seq #[.ref E] nT, slT⟩) (c : PySem.W.codeIn K cdv qual = true) (k : PySem.W.keepIn K (.ref f) = true) : FunT K x qual st E f (PySem.W.fnOf x qual (defArgs st) (defBody st) (defScope st) (.ref T) kV doc pm an cdv ct) :=
  ⟨⟨⟨oc, od, _, kV, doc, pm, an, cdv, ct, osl, rfl, l, c, .inr ⟨by simp, T, _, [.ref E], nT, rfl, lT, rfl, .cons rfl .nil⟩, .inl rfl⟩, k⟩⟩
end Kx
end
section
set_option maxHeartbeats 2000000
namespace Kx
open PySem L2 PySem.Spec PyProof.Rows
end Kx
end
section
set_option maxHeartbeats 2000000
namespace PyProof.Rows
open PySem PySem.Spec
end PyProof.Rows
namespace Kx
open PySem L2 PySem.Spec
section
variable {X : Cx} {K : PySem.W.Frag}
/-! order of data -/
def rLeD (K : PySem.W.Frag) : R2 := fun x y H Q => ∃ d e, Dp K H x d ∧ Dp K H y e ∧ PySem.W.alike d e = true ∧ d ≠ .none ∧ min d.depth e.depth ≤ 64 ∧ Q (.bl (!PySem.W.dataLt e d)) H
theorem op_leD (hu : X.A.units + 64 < cLine) (hK : X.K = K := by rfl) : OpR X (compareOp .LtE) (rLeD K) := by
  subst hK
  intro pins s σ H x y v u Q I rx ry h
  obtain ⟨d, e, hd, he, al, hn, hm, q⟩ := h
  obtain ⟨as, r1⟩ := Dp.reads I d x v hd rx
  obtain ⟨bs, r2⟩ := Dp.reads I e y u he ry
  exact PySem.W.le_data r1 r2 al hn (by omega) ⟨.bl _, H, I, rfl, q⟩
end
section
variable {β : Type} {K : PySem.W.Frag} {σ σ' : L2.St} {G G' M M1 M2 M3 : Hp} {ta tb te tc : TE} {P P1 P2 : VP} {d : Dat} {ds es : List Dat} {e : β → Dat}
/-- pairs of texts in their order -/
def ltP (a b : Str × Str) : Bool := if a.1 = b.1 then sLt a.2 b.2 else sLt a.1 b.1
theorem lex_str (a b : Str) : PyProof.Rows.lexLt PyProof.Rows.itemOrd [Sum.inr a.cps.toList] [Sum.inr b.cps.toList] = sLt a b := by
  have := PySem.W.dataLt_str a b
  unfold PySem.W.dataLt at this
  simp only [PySem.W.keyToks] at this
  exact this
theorem dataLt_pair (a b : Str × Str) : PySem.W.dataLt (.tuple [.str a.1, .str a.2]) (.tuple [.str b.1, .str b.2]) = ltP a b := by
  rw [PySem.W.dataLt_tuple]
  simp only [PySem.W.keyToksAll, PySem.W.keyToks, List.cons_append, List.nil_append]
  rw [PyProof.Rows.lex_self]
  unfold ltP
  by_cases h1 : a.1 = b.1
  · rw [if_pos h1, h1, PyProof.Rows.lex_self, PyProof.Rows.lex_self]
    by_cases h2 : a.2 = b.2
    · rw [h2, PyProof.Rows.lex_self, PyProof.Rows.lex_self, sLt_irr]
      rfl
    · rw [PySem.W.lex_atom (fun z => h2 (str_ext (Sum.inr.inj z))), lex_str]
  · rw [if_neg h1, PySem.W.lex_atom (fun z => h1 (str_ext (Sum.inr.inj z))), lex_str]
theorem ev_leP [Tb] {a b : Str × Str} (ha : Ev ta σ G M M1 (DD K (.tuple [.str a.1, .str a.2]))) (hb : Ev tb σ G M1 M2 (DD K (.tuple [.str b.1, .str b.2]))) : Ev (tOp (rLeD K) ta tb) σ G M M2 (DD K (.bool (!ltP b a))) := ev_op mo_dd ha hb fun x y G0 H s k hx hy Q q => by
  have e : ∀ c : Str × Str, toPy (.tuple [.str c.1, .str c.2]) = .tuple [.str c.1, .str c.2] := fun c => by rw [toPy_tuple]; simp [toPy]
  have p : ∀ c : Str × Str, pur (.tuple [.str c.1, .str c.2]) = true := fun c => by simp [pur, purs]
  have h1 := dq_dp _ (p a) (dp_up k.g _ hx)
  have h2 := dq_dp _ (p b) (dp_up k.g _ hy)
  rw [e] at h1 h2
  refine ⟨_, _, h1, h2, by simp [PySem.W.alike, PySem.W.alikeAll], by simp, by simp [PyData.depth, PyData.depthAll], ?_⟩
  rw [dataLt_pair]
  exact q _ G0 H (Same.refl _) k (.bl _)
end
end Kx
end
section
set_option maxHeartbeats 2000000
namespace Kx
open PySem L2
section
variable {K : PySem.W.Frag} {σ σ' : St} {G G' M M1 M2 M3 : Hp} {ta tb te tc : TE} {P P1 P2 : VP} {d : Dat} {ds es : List Dat} {C : Addr} {cn : Str} {ns : List Str}
theorem mo_clx : Mo (CLX C) := fun _ _ _ _ h => h
theorem ev_clx [Tb] : Ev (tC (.ref C)) σ G M M (CLX C) := fun G0 H _ k Q q => q _ G0 H (Same.refl _) k rfl
/-- isinstance(x, C), x an instance of a class of one's own -/
theorem ev_isiX [Tb] {C' : Addr} {b : Bool} (c : ClsOk K (clsAt K cn)) (hb : PySem.W.kitOne K (.ref (clsAt K cn)) (.ref C') = some b) (ha : EvA (tCons ta (tCons tb tNil)) σ G M M1 (conP (DD K (.ins cn ns ds)) (conP (CLX C') nilP))) : Ev (tCB (rIsi K) (tCons ta (tCons tb tNil))) σ G M M1 (DD K (.bool b)) := ev_cb ha fun xs G0 H s k hx Q q => by
  obtain ⟨v, w, rfl, hv, hw⟩ := two_of hx
  cases hw
  exact ⟨v, _, _, _, b, rfl, .own C', tyx_of k.g (fun C1 n1 x1 e => by cases e; exact c) (fun _ _ e => by cases e) hv, hb, q _ G0 H (Same.refl _) k (.bl _)⟩
/-! ### comprehensions with two fors -/
end
end Kx
end
section
set_option maxHeartbeats 2000000
namespace Kx
open PySem L2
/-- a text's signs -/
def signs (z : Str) : List Str := z.cps.toList.map fun c => ⟨#[c]⟩
theorem signs_map {z : Str} : (z.cps.toList.map fun c => Dat.str ⟨#[c]⟩) = (signs z).map Dat.str := by
  unfold signs
  rw [List.map_map]
  rfl
section
variable {X : Cx} {K : PySem.W.Frag}
theorem pe_fldK {e : Expr} {ta : TE} {f : Str} {pos : Pos} (he : PE X e ta) (hb : attributeBase e f X.env (eval e X.env) = eval e X.env := by rfl) (h : X.K = K := by rfl) : PE X (.Attribute e f pos) (tFld K ta f) := h ▸ pe_fld he hb
theorem cl_dictTK (hcalm : X.calm = true) (h : X.K = K := by rfl) : CallR X (.type "dict") (rDictT K) := h ▸ cl_dictT hcalm
end
end Kx
end
section
set_option maxHeartbeats 2000000
namespace Kx
open PySem L2
/-- all places are told: the default fills nothing -/
theorem FunT.binds3 {K : PySem.W.Frag} {x qual : Str} {st : Stmt} {E0 f : Addr} {fd : FuncData} {ps : List Str} (F : FunT K x qual st E0 f fd)
    (h : ∀ (T : Addr) (kV doc pm : Value) (an : Option Addr) (cdv ct : Value) (us its : List Value), us.length = ps.length → its.length = 1 →
      ∃ k, bindArgs (PySem.W.fnOf x qual (defArgs st) (defBody st) (defScope st) (.ref T) kV doc pm an cdv ct) ⟨us, []⟩ = seqItems? (.ref T) >>= k ∧ k (some its.toArray) = pure (ps.zip us)) : Binds K fd ps [] := by
  obtain ⟨ds, r, b⟩ := F.ex.binds1 (ps := ps) ps.length 1 (by simp) (by simp) fun T kV doc pm an cdv ct us its hl hi => by
    obtain ⟨k, h1, h2⟩ := h T kV doc pm an cdv ct us its hl hi
    refine ⟨k, h1, ?_⟩
    have : its.drop 1 = [] := by
      rw [List.drop_eq_nil_iff]
      have := hi
      simp at this
      omega
    rw [this, List.append_nil]
    exact h2
  cases r
  exact b
theorem kit_self {K : PySem.W.Frag} {t : Value} : PySem.W.kitOne K t t = some true := by
  unfold PySem.W.kitOne
  simp
end Kx
end
section
set_option maxHeartbeats 2000000
namespace Kx
open PySem L2
end Kx
end
section
set_option maxHeartbeats 2000000
namespace Kx
open PySem L2
section
variable {β : Type} {K : PySem.W.Frag} {σ σ' : St} {G G' M M1 M2 M3 : Hp} {ta tb te tc tk tv : TE} {P P1 P2 : VP} {d : Dat} {ds es : List Dat} {D : Ends} {H : Hp} {u : TS} {e : β → Dat}
/-! ### a dict of one's own by pairs of texts -/
def KOkP (K : PySem.W.Frag) (G : Hp) (e : β → Dat) (kvs : List (List Key × V)) (xs : List ((Str × Str) × β)) : Prop := KRel K G kP e kvs xs ∧ ∀ x ∈ xs, okP x.1
theorem KOkP.up {kvs : List (List Key × V)} {xs : List ((Str × Str) × β)} (s : Same G G') (h : KOkP K G e kvs xs) : KOkP K G' e kvs xs := ⟨h.1.up s, h.2⟩
theorem KOkP.nil : KOkP K G e [] [] := ⟨.nil, fun x hx => (nomatch hx)⟩
end
end Kx
end
section
set_option maxHeartbeats 2000000
namespace Kx
open PySem L2
/-! ### a dict is locked for a statement -/
end Kx
end
section
set_option maxHeartbeats 2000000
namespace Kx
open PySem L2 PySem.Spec PyProof.Rows
/-! ### for (k, v) in d.items(), d a locked dict by tuples -/
end Kx
end
section
set_option maxHeartbeats 2000000
namespace Kx
open PySem L2
end Kx
end
section
set_option maxHeartbeats 2000000
namespace Kx
open PySem L2 PySem.Spec PyProof.Rows
/-! ### promises where no repr is under way: repr of data can be told -/
/-- as FnOk, asked only where no guard is known to be under way -/
structure FnOkG (P : Program) (w : World) (K : PySem.W.Frag) (mg : Str → Option Value) (base : Heap) (CX : CXT) (k : Nat) (f : Addr) (fd : FuncData) (ps : List Str) (sp : Sp) : Prop where
  len : ∀ vs H Q E, sp vs H Q E → vs.length = ps.length
  run : ∀ (A : Around) (out : List Env) (s : Shared) (H : Hp) (ar : Args) (us : List Value) (vs : List V) (Q : VK) (E : XK), A.guards = some [] → Room k A → Env0 P w K mg base A out s H → BindsTo s fd ar (ps.zip us) → Vals vs us →
    sp vs H Q E → codeAny (model P w) A (.call (.ref f) ar) (CR CX out P w H s Q E) s
section
variable {P : Program} {w : World} {K : PySem.W.Frag} {mg : Str → Option Value} {base : Heap} {CX : CXT} {k : Nat} {f : Addr} {fd : FuncData} {ps : List Str} {sp : Sp}
/-- the rule for a def of the text, its body with the guards known -/
theorem okG {x qual : Str} {st : Stmt} {N : List Str} (F : Fun K x qual st f fd) (S : FnScope N ps (defScope st)) (len : ∀ vs H Q E, sp vs H Q E → vs.length = ps.length)
    (hb : ∀ (cdv : Value) (A : Around) (out : List Env) (s : Shared) (H : Hp) (vs : List V) (Q : VK) (E : XK), Room k (A.deeper (envOfC qual (defScope st) s.heap.objs.size f cdv)) → (A.deeper (envOfC qual (defScope st) s.heap.objs.size f cdv)).guards = some [] → sp vs H Q E →
      ∃ t, PSs (cxOf CX0 P w K mg base N qual (defScope st) f cdv A out s H E).nox (defBody st) t ∧ t { nx := fun _ H' => Q .non H', rt := Q } (start N vs) H) : FnOkG P w K mg base CX0 (k + 1) f fd ps sp := by
  obtain ⟨oc, od, kV, doc, pm, an, cdv, ct, osl, rfl, lk, hcd⟩ := F.ex
  refine ⟨len, fun A out s H ar us vs Q E hgd hr en hbt rel hsp => ?_⟩
  have old : ∀ b o, base.get? b = some o → s.heap.get? b = some o := fun b o e => (en.bs b o e).1
  have kin : K.In s.heap := en.mod.kin.keeps old
  obtain ⟨t, ht, hq⟩ := hb cdv A out s H vs Q E (hr.deeper _) (by show A.guards = some []; exact hgd) hsp
  refine codeAny_call_function hr.depth (kin _ _ lk) rfl S.co S.gen rfl (PySem.W.codeRec_of kin hcd) (hbt _ _ _ _ (wpAny_newFunctionEnv_cells S.kind (fun ⟨n, v⟩ hy => ?_) fun env he s1 x => ?_))
  · rcases S.par n (List.of_mem_zip hy).1 with c | c
    · exact .inl c
    · exact .inr ⟨c, PySem.W.cellsFrom_some _ _ _ (.inl c)⟩
  · subst he
    refine ⟨(en.mod.nolimit.keeps old).keeps x.toInCall.keep, codeAny_func ?_⟩
    refine wpAny_mono (ht.nox.run [] s1 (start N vs) H _ (inv_start S hr.hd en (len _ _ _ _ hsp) rel x) hq) (fun fl s' hs => ?_) fun _ _ hs => hs
    cases fl with
    | ret u => exact (fun ⟨v, _, H', J, rv, q⟩ => ⟨v, H', J.os, J.bare, J.base, J.hok, rv, q⟩) hs
    | next => exact (fun ⟨_, H', J, q⟩ => ⟨V.non, H', J.os, J.bare, J.base, J.hok, rfl, q⟩) hs
    | brk => exact (fun ⟨_, _, _, q⟩ => q.elim) hs
    | cont => exact (fun ⟨_, _, _, q⟩ => q.elim) hs
end
section
variable {X : Cx} {CX : CXT} {k : Nat} {f : Addr} {fd : FuncData} {ps : List Str} {sp : Sp} {dvs : List V} {ds : List Value} {E : XK} {x : Str} {p pos : Pos} {e : Expr} {es : List Expr} {t : TA}
theorem pe_callG (F : FnOkG X.prog X.w X.K X.mg X.base CX k f fd ps sp) (hgd : X.A.guards = some []) (hr : Room k X.A) (hg : Gl X x) (hm : X.mg x = some (.ref f)) (hk : PySem.W.keepIn X.K (.ref f) = true) (hb : Binds X.K fd ps ds) (hd : Vals dvs ds) (hx : Passes CX X E)
    (ha : PA X (e :: es) t) (hdb : (x == ("__debug__" : Str)) = false := by decide) (he : starEach (e :: es) X.env = (false, eval e X.env) :: starEach es X.env := by rfl) (hpl : (backTo pos (starEach es X.env)).any (·.1) = false := by rfl) :
    PE X (.Call (.Name x p) (e :: es) [] pos) (tCall sp dvs E t) := by
  refine ⟨fun pins s σ H Q I h => wpAny_Call_Name_kw (ld_glob I hg hm ?_ hdb)⟩
  refine PySem.W.callWith_K (h₀ := X.base) I.ok.mod.kin hk (thn (ha.run pos pins s σ H _ I h) fun us s1 ⟨vs, H1, J, r, q⟩ => ⟨J.kIn, ?_⟩) he hpl
  have rr : Vals (vs ++ dvs) (us ++ ds) := r.append hd
  refine wpAny_call (codeAny_mono (F.run X.A X.stack s1 H1 ⟨us, []⟩ (us ++ ds) (vs ++ dvs) Q E hgd hr J.env0 (hb s1 us J.kIn (by rw [← rr.length]; exact F.len _ _ _ _ q)) rr q) fun rs s' hq => ?_)
  cases rs with
  | error e => exact hx pins σ H1 s1 e s' J hq
  | ok fl =>
    cases fl with
    | ret u => exact J.after hq
    | next => exact hq.elim
    | brk => exact hq.elim
    | cont => exact hq.elim
end
end Kx
end
section
set_option maxHeartbeats 2000000
namespace Kx
open PySem L2 PySem.Spec PyProof.Rows
/-! ### repr of data -/
/-- the signs of a text are signs -/
def sgn (x : Str) : Prop := ∀ c ∈ x.cps.toList, c < 0x110000
theorem sgn_sok {x : Str} : sgn x ↔ sok x = true := by
  unfold sgn sok PyData.strOk
  rw [Array.all_eq_true']
  simp
theorem sgn_app {x y : Str} (h : sgn x) (h2 : sgn y) : sgn (x ++ y) := fun c hc => by
  have e : (x ++ y).cps.toList = x.cps.toList ++ y.cps.toList := by
    show (x.cps ++ y.cps).toList = _
    simp
  rw [e] at hc
  rcases List.mem_append.mp hc with h' | h'
  · exact h c h'
  · exact h2 c h'
theorem sgn_ofString (s : String) : sgn (Str.ofString s) := fun c hc => by
  rw [Str.ofString_eq_toList] at hc
  obtain ⟨ch, _, rfl⟩ := List.mem_map.mp (by simpa using hc)
  have := ch.valid
  unfold UInt32.isValidChar Nat.isValidChar at this
  show ch.val.toNat < _
  omega
theorem sgn_hex (n : Nat) : ∀ c ∈ (Nat.toDigits 16 n).map Char.toNat, c < 0x110000 := fun c hc => by
  obtain ⟨ch, _, rfl⟩ := List.mem_map.mp hc
  have := ch.valid
  unfold UInt32.isValidChar Nat.isValidChar at this
  show ch.val.toNat < _
  omega
theorem sgn_char {q c : Nat} (hc : c < 0x110000) : ∀ x ∈ Builtin.Str.reprChar q c, x < 0x110000 := by
  have hx : ∀ (n : Nat), ∀ x ∈ List.replicate n 48 ++ (Nat.toDigits 16 c).map Char.toNat, x < 0x110000 := fun n x hx => by
    rcases List.mem_append.mp hx with h | h
    · rw [(List.mem_replicate.mp h).2]; decide
    · exact sgn_hex c x h
  unfold Builtin.Str.reprChar
  dsimp only
  intro x h
  repeat' split at h
  all_goals first
    | (simp at h; rcases h with h | h <;> omega)
    | (simp at h; omega)
    | (rcases List.mem_append.mp h with h | h
       · (simp at h; rcases h with h | h <;> omega)
       · exact hx _ x h)
theorem sgn_repr {x : Str} (h : sgn x) : sgn (reprText x) := by
  have hq : reprQuote x < 0x110000 := by unfold reprQuote; split <;> decide
  have key : ∀ (l : List Nat) (acc : Array Nat), (∀ c ∈ l, c < 0x110000) → (∀ c ∈ acc.toList, c < 0x110000) → ∀ c ∈ (l.foldl (fun out c => out ++ (Builtin.Str.reprChar (reprQuote x) c).toArray) acc).toList, c < 0x110000 := by
    intro l
    induction l with
    | nil => intro acc _ h2; exact h2
    | cons d l ih =>
      intro acc h1 h2
      refine ih _ (fun c hc => h1 c (List.mem_cons_of_mem _ hc)) fun c hc => ?_
      rw [Array.toList_append] at hc
      rcases List.mem_append.mp hc with h' | h'
      · exact h2 c h'
      · exact sgn_char (h1 d List.mem_cons_self) c h'
  intro c hc
  unfold reprText at hc
  rw [← Array.foldl_toList] at hc
  rw [Array.toList_push] at hc
  rcases List.mem_append.mp hc with h' | h'
  · exact key _ _ h (fun c hc => by simp at hc; omega) c h'
  · simp at h'; omega
theorem sgn_join {sep : Str} (hs : sgn sep) : ∀ ts : List Str, (∀ t ∈ ts, sgn t) → sgn (Str.join sep ts)
  | [], _ => by
    unfold Str.join
    intro c hc
    simp [Str.empty] at hc
  | [x], h => by
    unfold Str.join
    exact h x List.mem_cons_self
  | x :: y :: r, h => by
    unfold Str.join
    exact sgn_app (sgn_app (h x List.mem_cons_self) hs) (sgn_join hs (y :: r) fun t ht => h t (List.mem_cons_of_mem _ ht))
mutual
theorem sgn_shown : ∀ d : PyData, d.canLay0 = true → sgn d.shown
  | .none, _ => by unfold PyData.shown; exact sgn_ofString _
  | .bool b, _ => by unfold PyData.shown; split <;> exact sgn_ofString _
  | .int i, _ => by unfold PyData.shown; exact sgn_ofString _
  | .str x, h => by
    rw [PyData.shown_str]
    exact sgn_repr (sgn_sok.mpr (by simpa [PyData.canLay0] using h))
  | .list xs, h => by
    rw [PyData.shown_list]
    exact sgn_app (sgn_app (sgn_ofString _) (sgn_join (sgn_ofString _) _ (sgn_shownAll xs (by simpa [PyData.canLay0] using h)))) (sgn_ofString _)
  | .tuple xs, h => by
    rw [PyData.shown_tuple]
    exact sgn_app (sgn_app (sgn_ofString _) (sgn_join (sgn_ofString _) _ (sgn_shownAll xs (by simpa [PyData.canLay0] using h)))) (sgn_ofString _)
  | .dict kvs, h => by simp [PyData.canLay0] at h
theorem sgn_shownAll : ∀ ds : List PyData, PyData.canLayAll0 ds = true → ∀ t ∈ PyData.shownAll ds, sgn t
  | [], _ => by unfold PyData.shownAll; intro t ht; cases ht
  | d :: ds, h => by
    have h2 : d.canLay0 = true ∧ PyData.canLayAll0 ds = true := by simpa [PyData.canLayAll0] using h
    unfold PyData.shownAll
    intro t ht
    rcases List.mem_cons.mp ht with rfl | ht
    · exact sgn_shown d h2.1
    · exact sgn_shownAll ds h2.2 t ht
end
/-- what can be shown here -/
def repOk (d : PyData) : Bool := decide (d.weight ≤ 100000) && d.intsShort 40 && d.showable && decide (d.depth ≤ 50)
def reprO (d : PyData) : Option Str := if repOk d then some d.shown else none
theorem reprO_of {d : PyData} {x : Str} (h : reprO d = some x) : repOk d = true ∧ x = d.shown := by
  unfold reprO at h
  split at h
  · next e => cases h; exact ⟨e, rfl⟩
  · cases h
theorem rep_fits {d : PyData} (h : repOk d = true) (hl : d.canLay0 = true) : d.shown.length ≤ sizeLine := by
  simp [repOk] at h
  have h2 := PyData.shown_le 40 (by decide) d (PyData.leavesShort_of_canLay0 40 d hl h.1.1.2)
  have h3 := h.1.1.1
  rw [sizeLine_eq]
  omega
def rRepr (K : PySem.W.Frag) : List V → Hp → VK → Prop := fun xs H Q => ∃ (a : Addr) (d : PyData), xs = [.ref a] ∧ Dp K H (.ref a) d ∧ d.canLay0 = true ∧ repOk d = true ∧ Q (.str d.shown) H
theorem cl_repr {X : Cx} {K : PySem.W.Frag} (hg : X.A.guards = some []) (hu : X.A.units + 64 < cLine) (hK : X.K = K) : CallR X (.builtin "repr") (rRepr K) := by
  subst hK
  intro pins s σ H xs us Q I r h
  obtain ⟨a, d, rfl, hd, hl, hk, q⟩ := h
  cases r with
  | cons r1 r2 =>
    cases r2
    obtain ⟨as, hr⟩ := Dp.reads I d _ _ hd r1
    obtain rfl := r1
    have h1 := rep_fits hk hl
    simp [repOk] at hk
    exact repr_of_reads' hr hk.1.2 (PyData.noDict_hsm (PyData.hasDict_of_canLay _ hl)) hg (by have := hk.2; omega) (fun _ _ e => e) (fun h' u tk kp => ⟨.str _, H, I.kept kp, ⟨_, rfl⟩, q⟩) h1
section
variable {K : PySem.W.Frag} {σ : L2.St} {G M M1 : Hp} {ta : TE} {d : Dat}
def seqB : Dat → Bool
  | .list _ => true
  | .tuple _ => true
  | .rtup _ => true
  | _ => false
theorem seq_ref {v : V} (hs : seqB d = true) (h : Dq K G v d) : ∃ a, v = .ref a := by
  cases h <;> first | exact ⟨_, rfl⟩ | (simp [seqB] at hs)
end
/-! ### the law's end, from a promise that asks for no guards -/
end Kx
end
section
set_option maxHeartbeats 2000000
namespace Kx
open PySem L2
/-! ### the default of a def, an empty tuple of the text's own -/
theorem FunT.bindsE {K : PySem.W.Frag} {x qual : Str} {st : Stmt} {E0 f : Addr} {fd : FuncData} {ps : List Str} (n : Nat) (hn : n + 1 = ps.length) (F : FunT K x qual st E0 f fd)
    (h : ∀ (T : Addr) (kV doc pm : Value) (an : Option Addr) (cdv ct : Value) (us its : List Value), us.length = n → its.length = 1 →
      ∃ k, bindArgs (PySem.W.fnOf x qual (defArgs st) (defBody st) (defScope st) (.ref T) kV doc pm an cdv ct) ⟨us, []⟩ = seqItems? (.ref T) >>= k ∧ k (some its.toArray) = pure (ps.zip (us ++ its))) : Binds K fd ps [.ref E0] := by
  obtain ⟨ds, r, b⟩ := F.ex.binds1 (ps := ps) n 0 (by simp) (by simpa using hn) fun T kV doc pm an cdv ct us its hl hi => h T kV doc pm an cdv ct us its hl hi
  cases r with
  | cons r1 r2 =>
    cases r2
    cases r1
    exact b
theorem valsE {E0 : Addr} : Vals [.ref E0] [.ref E0] := .cons rfl .nil
/-- an empty tuple of the text's own -/
def NilT (K : PySem.W.Frag) (E0 : Addr) : Prop := ∃ (o : Obj) (n : Nat), K.lookup E0 = some o ∧ o.cls = .type "tuple" ∧ o.dict = none ∧ o.data = .seq #[] n
theorem nilT_dd {K : PySem.W.Frag} {E0 : Addr} {G : Hp} {α : Type} {e : α → Dat} (h : NilT K E0) : Dq K G (.ref E0) (eT e ([] : List α)) := by
  obtain ⟨o, n, h1, h2, h3, h4⟩ := h
  exact .tup (.inr ⟨o, #[], n, h1, h2, h3, h4, by simp, .nil⟩) .nil
section
variable {K : PySem.W.Frag} {C : Addr} {cn : Str} {ns : List Str} {σ : St} {G M M1 : Hp}
theorem ev_makeE [Tb] {α ρ : Type} {fl : ρ → List Dat} {args : α → List V → Hp → Prop} {m : α → Option ρ} {E : XK} {t : TA} {a : α} {r : ρ} {dv : List V} {Ps : List V → Hp → Prop} (hm : m a = some r) (hE : ∀ vs G, Ps vs G → args a (vs ++ dv) G) (ha : EvA t σ G M M1 Ps) : Ev (tMake (clsAt K cn) (spI K (clsAt K cn) ns fl args m) dv E t) σ G M M1 (DD K (.ins cn ns (fl r))) := fun G0 H s k Q q =>
  ha G0 H s k _ fun vs G1 H1 s1 k1 hv x dx hx hdx hne => by
    have h2 : Ok G1 M1 (upd H1 dx (.own x)) := ⟨k1.g.trans (Same.new hdx), k1.m.trans (Same.new hdx), k1.d, k1.mu, tb_new k1.tb hdx⟩
    have hx2 : (upd H1 dx (.own x)) x = none := by rw [upd_ne (fun z => hne z.symm)]; exact hx
    refine ⟨G1, M1, x, dx, vs ++ dv, a, r, rfl, h2.newM _ hx2, Same.none k1.m hx, hE vs G1 hv, hm, fun fs G2 H2 s2 k2 e1 e2 => ⟨rfl, ?_⟩⟩
    exact q _ (upd G2 x (.ins (clsAt K cn) dx fs)) H2 ((s1.trans s2).trans (Same.new k2.gp)) (k2.frz (Same.none k1.m hx)) (.ins upd_same e1 (dpAll_up (Same.new k2.gp) _ e2))
end
/-! ### a list of things of two kinds -/
end Kx
end
section
set_option maxHeartbeats 2000000
namespace Kx
open PySem L2 PySem.Spec PyProof.Rows
/-! ### a tuple so many times -/
theorem tmul_self (l : Addr) (items : Array Value) (n : Nat) (dd : Option Addr) (sl : Array (Option Value)) (x : Int) (u : Tok) (c0 : (decide (x < -(2 ^ 63)) || decide (x ≥ 2 ^ 63)) = false) (c1 : (items.isEmpty || x == 1) = true) :
    Meets (Builtin.«tuple.__mul__» ⟨[.ref l, .int x u], []⟩) (fun _ R s => s.heap.get? l = some { cls := .type "tuple", dict := dd, data := .seq items n, slots := sl } ∧ R (.ok (.ret (.ref l))) s) :=
  .of_wp fun prog w A R s h => by
    obtain ⟨hp, g, d, tk, os⟩ := s
    obtain ⟨hl, h⟩ := h
    have f1 := AutoSeq1.idx_int
    wp_walk using wpAny_loadPart' hl
    repeat (first
      | (refine wpAny_ite_false (decide_eq_false (by rw [c0]; exact Bool.false_ne_true)) ?_; wp_walk using wpAny_loadPart' hl)
      | (refine wpAny_ite_true (decide_eq_true (by rw [c1])) ?_; wp_walk using wpAny_loadPart' hl))
    exact ⟨_, rfl, h⟩
theorem tmul_zero (l : Addr) (items : Array Value) (n : Nat) (dd : Option Addr) (sl : Array (Option Value)) (u : Tok) (c1 : items.isEmpty = false) :
    Meets (Builtin.«tuple.__mul__» ⟨[.ref l, .int 0 u], []⟩) (fun _ R s => s.heap.get? l = some { cls := .type "tuple", dict := dd, data := .seq items n, slots := sl } ∧
      R (.ok (.ret (Value.ref s.heap.objs.size))) { s with heap := s.heap.push { cls := Value.type "tuple", data := Data.seq #[] }, toks := s.toks }) :=
  .of_wp fun prog w A R s h => by
    obtain ⟨hp, g, d, tk, os⟩ := s
    obtain ⟨hl, h⟩ := h
    have f1 := AutoSeq1.idx_int
    have c2 : (items.isEmpty || (0 : Int) == 1) = false := by rw [c1]; rfl
    wp_walk using wpAny_loadPart' hl
    repeat (first
      | (refine wpAny_ite_false (decide_eq_false (by decide)) ?_; wp_walk using wpAny_loadPart' hl)
      | (refine wpAny_ite_false (decide_eq_false (by rw [c2]; exact Bool.false_ne_true)) ?_; wp_walk using wpAny_loadPart' hl)
      | (refine wpAny_ite_true (decide_eq_true (by rfl)) ?_; wp_walk using wpAny_loadPart' hl))
    exact ⟨_, rfl, h⟩
def rMulT (K : PySem.W.Frag) : R2 := fun x y H Q => ∃ l k xs, x = .ref l ∧ y = .int k ∧ SqT K H l xs ∧ 0 ≤ k ∧ k ≤ 1000 ∧ xs.length ≤ 1000 ∧
  ((xs = [] ∨ k = 1) → Q (.ref l) H) ∧ (xs ≠ [] → k ≠ 1 → ∀ p o, H p = none → o.dict = none → Q (.ref p) (upd H p (.frz o (.tup (List.replicate k.toNat xs).flatten))))
theorem op_mulT {X : Cx} {K : PySem.W.Frag} (hK : X.K = K := by rfl) : OpR X (binaryOp .Mult) (rMulT K) := by
  subst hK
  intro pins s σ H x y v u Q I rx ry h
  obtain ⟨l, k, xs, rfl, rfl, hT, h0, h1, hz, q1, q2⟩ := h
  cases rx
  obtain ⟨t, rfl⟩ := ry
  obtain ⟨its, r, ⟨⟨cls, dd, data, sl⟩, ho, hc, n, hd⟩, hs⟩ := I.tuple hT
  simp only at hc hd
  subst hc hd
  have hle : its.length = xs.length := r.length.symm
  have c0 : (decide (k < -(2 ^ 63)) || decide (k ≥ 2 ^ 63)) = false := by
    rw [decide_eq_false (by omega), decide_eq_false (by omega)] <;> rfl
  have go : ∀ {R' : Value → Shared → Prop}, wpAny (model X.prog X.w) X.A (call (.builtin "tuple.__mul__") [.ref l, .int k t]) R' X.xe s → wpAny (model X.prog X.w) X.A (binaryOp .Mult (.ref l) (.int k t)) R' X.xe s := fun {R'} hq =>
    wpAny_binaryOp_repeat_ref (T := "tuple") (U := "int") (by decide) ⟨_, ho, rfl⟩ (fun s' => typeIs_int s' k t) noFill_tuple_mul F.fills_int_mul F.slot_int_rmul repeat_tuple F.slot_int_index.lookup
      (call_meets F.slot_int_rmul (typeIs_int s k t) F.entry_int_rmul (F.args_int_rmul_2 _ _) (int_rmul_tuple k t l its.toArray n dd sl) ⟨ho, rfl, ⟨_, ho, rfl⟩, hq⟩)
  by_cases hself : xs = [] ∨ k = 1
  · have c1 : (its.toArray.isEmpty || k == 1) = true := by
      rcases hself with e | e
      · have : its = [] := List.eq_nil_of_length_eq_zero (by rw [hle, e]; rfl)
        rw [this]; rfl
      · rw [e]; simp
    exact go (call_meets F.slot_tuple_mul ⟨_, ho, rfl⟩ F.entry_tuple_mul (F.args_tuple_mul_2 _ _) (tmul_self l its.toArray n dd sl k t c0 c1) ⟨ho, .ref l, H, I, rfl, q1 hself⟩)
  · have hne : xs ≠ [] := fun e => hself (.inl e)
    have hk1 : k ≠ 1 := fun e => hself (.inr e)
    have hi : its.toArray.isEmpty = false := by
      cases its with
      | nil => exact absurd (List.eq_nil_of_length_eq_zero hle.symm) hne
      | cons a b => rfl
    have bd : k.toNat * xs.length ≤ 1000 * 1000 := Nat.mul_le_mul (by omega) hz
    have fl : (List.replicate k.toNat xs).flatten.length ≤ sizeLine := by
      rw [PyProof.Rows.lm_len_rep_flat, sizeLine_eq]; omega
    have new : ∀ (h' : Heap) (its' : List Value), h' = s.heap.push { cls := .type "tuple", data := .seq its'.toArray } → Vals (List.replicate k.toNat xs).flatten its' → EP X pins σ Q (.ref s.heap.objs.size) { s with heap := h', toks := s.toks } := fun h' its' e rv => by
      subst e
      exact ⟨.ref s.heap.objs.size, _, I.laid (t' := s.toks) (fun b ob q => Heap.get?_push_of_some _ q) (Nat.le_refl _) (frz_ok fl rv), rfl, q2 hne hk1 _ _ (I.hok.fresh (Nat.le_refl _)) rfl⟩
    by_cases hk0 : k = 0
    · subst hk0
      exact go (call_meets F.slot_tuple_mul ⟨_, ho, rfl⟩ F.entry_tuple_mul (F.args_tuple_mul_2 _ _) (tmul_zero l its.toArray n dd sl t hi) ⟨ho, new _ [] rfl .nil⟩)
    · have c1 : (its.toArray.isEmpty || k == 1) = false := by
        rw [hi, Bool.false_or]
        exact beq_eq_false_iff_ne.mpr hk1
      have c2 : (decide (k ≤ 0) || its.toArray.isEmpty) = false := by
        rw [hi, Bool.or_false]
        exact decide_eq_false (by omega)
      have hsz : its.toArray.size = xs.length := by rw [List.size_toArray, hle]
      have hm : ((its.toArray.size : Nat) : Int) * k ≤ 1000000 := by
        rw [hsz]
        have a1 : ((xs.length : Nat) : Int) * k ≤ 1000 * k := Int.mul_le_mul_of_nonneg_right (by omega) h0
        omega
      have c4 : Builtin.Tuple.tupleTooMany (((its.toArray.size : Nat) : Int) * k) = false := by
        unfold Builtin.Tuple.tupleTooMany
        rw [sizeLine_eq]
        exact decide_eq_false (by omega)
      exact go (call_meets F.slot_tuple_mul ⟨_, ho, rfl⟩ F.entry_tuple_mul (F.args_tuple_mul_2 _ _) (tuple_mulW l its.toArray n dd sl k t c0 c1 c2 (by omega) c4 (by rw [size_rep, List.size_toArray, PyProof.Rows.lm_len_rep_flat, hle, sizeLine_eq]; omega))
        ⟨ho, new _ (List.replicate k.toNat its).flatten (by rw [size_rep]) (r.rep k.toNat)⟩)
section
variable {β : Type} {K : PySem.W.Frag} {σ : L2.St} {G M M1 M2 : Hp} {ta tb : TE} {e : β → Dat}
def mulTO (xs : List β) (n : Int) : Option (List β) := (grd (0 ≤ n ∧ n ≤ 1000 ∧ xs.length ≤ 1000)).bind fun _ => some (List.replicate n.toNat xs).flatten
theorem dqAll_rep {vs : List V} {ds : List Dat} (h : DqAll K G vs ds) : ∀ n : Nat, DqAll K G (List.replicate n vs).flatten (List.replicate n ds).flatten
  | 0 => .nil
  | n + 1 => by
    rw [List.replicate_succ, List.replicate_succ, List.flatten_cons, List.flatten_cons]
    exact dpAll_app h (dqAll_rep h n)
theorem ev_mulT [Tb] {xs ys : List β} {n : Int} (hy : mulTO xs n = some ys) (ha : Ev ta σ G M M1 (DD K (eT e xs))) (hb : Ev tb σ G M1 M2 (DD K (.int n))) : Ev (tOp (rMulT K) ta tb) σ G M M2 (DD K (eT e ys)) := ev_op mo_dd ha hb fun x y G0 H s k hx hy' Q q => by
  obtain ⟨_, h1, h2⟩ := bs hy
  cases h2
  have g := grd_of h1
  cases hy'
  cases hx with
  | @tup a vs ds ht hd =>
    have hl : vs.length = xs.length := by rw [dpAll_len hd, List.length_map]
    refine ⟨a, n, vs, rfl, rfl, (ht.up k.g).sq, g.1, g.2.1, by omega, fun hs => q _ G0 H (Same.refl _) k ?_, fun _ _ p o hp ho => q _ _ _ (Same.new (Same.none k.g hp)) (k.newG _ hp) ?_⟩
    · have : (List.replicate n.toNat xs).flatten = xs := by
        rcases hs with e | e
        · have : xs = [] := List.eq_nil_of_length_eq_zero (by rw [← hl, e]; rfl)
          rw [this]; simp
        · rw [e]; simp
      rw [this]
      exact .tup ht hd
    · have hm : ((List.replicate n.toNat xs).flatten.map e) = (List.replicate n.toNat (xs.map e)).flatten := by
        rw [List.map_flatten, List.map_replicate]
      show Dq K _ _ (.tuple ((List.replicate n.toNat xs).flatten.map e))
      rw [hm]
      exact .tup (.inl ⟨o, upd_same, ho⟩) (dqAll_rep (dpAll_up (Same.new (Same.none k.g hp)) _ hd) n.toNat)
end
/-! ### what may be changed stands still from here on -/
theorem k_del [Tb] {G M H : Hp} {p : Addr} {o : HO} {C : Prop} (ok : Ok G M H) (hp : M p = some o) (k : ∀ G' M', Same G G' → G' p = some o → (∀ a, a ≠ p → M' a = M a) → Ok G' M' H → C) : C := by
  have gp : G p = none := ok.d p o hp
  refine k (upd G p o) (fun a => if a = p then none else M a) (Same.new gp) upd_same (fun a ha => if_neg ha) ⟨fun a u e => ?_, fun a u e => ?_, fun a u e => ?_, fun a u e => ?_, tb_G ok.tb (ok.mu p o hp).nt.noTbl⟩
  · by_cases ha : a = p
    · subst ha; rw [upd_same] at e; cases e; exact ok.m _ _ hp
    · rw [upd_ne ha] at e; exact ok.g a u e
  · by_cases ha : a = p
    · have z := (if_pos ha).symm.trans e; cases z
    · exact ok.m a u ((if_neg ha).symm.trans e)
  · by_cases ha : a = p
    · have z := (if_pos ha).symm.trans e; cases z
    · rw [upd_ne ha]; exact ok.d a u ((if_neg ha).symm.trans e)
  · by_cases ha : a = p
    · have z := (if_pos ha).symm.trans e; cases z
    · exact ok.mu a u ((if_neg ha).symm.trans e)
theorem hB_del {M0 M M' : Hp} {p s : Addr} (hM : ∀ a, a ≠ p → M' a = M a) (h0 : M0 p = none) (hB : ∀ a u, a ≠ s → M0 a = some u → M a = some u) : ∀ a u, a ≠ s → M0 a = some u → M' a = some u := fun a u h e => (hM a (ne_of_none e h0)).trans (hB a u h e)
end Kx
end
section
set_option maxHeartbeats 2000000
namespace Kx
open PySem L2
/-! ### a dict locked for an expression -/
end Kx
end
section
set_option maxHeartbeats 2000000
namespace Kx
open PySem L2
/-! ### zip of three, lists and tuples -/
end Kx
end
section
set_option maxHeartbeats 2000000
namespace Kx
open PySem L2
end Kx
end
section
set_option maxHeartbeats 2000000
namespace Kx
open PySem L2
end Kx
end
section
set_option maxHeartbeats 2000000
namespace Kx
open PySem L2 PySem.Spec PyProof.Rows
/-! ### zip of 4: next -/
end Kx
end
section
set_option maxHeartbeats 2000000
namespace Kx
open PySem L2
section
variable {β : Type} {K : PySem.W.Frag} {σ : L2.St} {G M M1 M2 : Hp} {ta tb : TE} {e : β → Dat} {ds es : List Dat}
/-- a tuple of things of one kind, as a tuple of any things -/
theorem ev_TD [Tb] {xs : List β} (h : Ev ta σ G M M1 (DD K (eT e xs))) : Ev ta σ G M M1 (DD K (eT id (xs.map e))) := by
  have : eT id (xs.map e) = eT e xs := congrArg Dat.tuple (List.map_id _)
  rw [this]
  exact h
end
end Kx
end
section
set_option maxHeartbeats 2000000
namespace Kx
open PySem L2
section
variable {α : Type} [DecidableEq α] {K : PySem.W.Frag} {σ : L2.St} {G M M1 M2 H : Hp} {ta tb te : TE} {e : α → Dat} {n : Nat} {d1 d2 d : Dat} {ds es : List Dat}
/-! ### x in l, l a list of one's own -/
/-! ### l.index(x) -/
def idxE (x : α) : List α → Option Nat
  | [] => none
  | y :: ys => if y = x then some 0 else (idxE x ys).map (· + 1)
theorem idxE_of {x : α} : ∀ {xs : List α} {j : Nat}, idxE x xs = some j → xs[j]? = some x ∧ ∀ m, m < j → xs[m]? ≠ some x
  | [], _, h => by cases h
  | y :: ys, j, h => by
    unfold idxE at h
    by_cases e : y = x
    · rw [if_pos e] at h
      cases h
      exact ⟨by simp [e], fun m hm => absurd hm (Nat.not_lt_zero _)⟩
    · rw [if_neg e] at h
      obtain ⟨i, hi, rfl⟩ := Option.map_eq_some_iff.mp h
      obtain ⟨h1, h2⟩ := idxE_of hi
      refine ⟨by simpa using h1, fun m hm => ?_⟩
      cases m with
      | zero => simpa using e
      | succ m => simpa using h2 m (by omega)
theorem mt_indexDK {X : Cx} (hu : X.A.units + 65 < cLine) (h : X.K = K := by rfl) : MtR X "list.index" (rIndexD K) := h ▸ mt_indexD hu
theorem ev_indexD [Tb] {x : α} {xs : List α} {j : Nat} (hj : idxE x xs = some j) (h : EqE e n) (hn : n ≤ 62) (ho : Ev ta σ G M M1 (DD K (eL e xs))) (ha : EvA (tCons tb tNil) σ G M1 M2 (conP (DD K (e x)) nilP)) : Ev (tBM K "list" (rIndexD K) ta (tCons tb tNil)) σ G M M2 (DD K (.int (j : Int))) := fun G0 H s k Q q =>
  ho G0 H s k _ fun v G1 H1 s1 k1 hx => by
    have hx0 := hx
    cases hx with
    | @lst a vs _ hl hd =>
      refine ⟨.inl ⟨rfl, _, .inl (.inl (k1.g _ _ hl))⟩, ha G1 H1 (s.trans s1) k1 _ fun ws G2 H2 s2 k2 hv => ?_⟩
      obtain ⟨y, rfl, hw⟩ := one_of (R := nilP) hv
      obtain ⟨i1, i2⟩ := idxE_of hj
      have e0 : toPy (eL e xs) = .list (xs.map fun z => toPy (e z)) := by
        show toPy (.list (xs.map e)) = _
        rw [toPy_list, List.map_map]
        rfl
      have hdp := dq_dp _ ((eqe_L h).pur xs) (dp_up (s2.trans k2.g) _ hx0)
      have hsh := shp_of (n := 0) ((eqe_L h).pur xs) (Nat.le_trans ((eqe_L h).dep xs) (by omega)) hx0
      rw [e0] at hdp hsh
      refine ⟨a, y, toPy (e x), xs.map fun z => toPy (e z), j, toPy (e x), rfl, rfl, hdp, dq_dp _ (h.pur x) (dp_up k2.g _ hw), hsh, shp_of (n := 0) (h.pur x) (Nat.le_trans (h.dep x) (by omega)) hw, by rw [List.getElem?_map, i1]; rfl, by rw [h.eqv]; exact decide_eq_true rfl, fun m z hm hz => ?_, q _ G2 H2 (s1.trans s2) k2 (.int _)⟩
      rw [List.getElem?_map] at hz
      obtain ⟨z', hz', rfl⟩ := Option.map_eq_some_iff.mp hz
      rw [h.eqv]
      exact decide_eq_false fun q => i2 m hm (by rw [hz', q])
end
/-! ### a list of two things of unlike kinds -/
end Kx
end
section
set_option maxHeartbeats 2000000
namespace Kx
open PySem L2 PySem.Spec PyProof.Rows PySem.W
/-! ### sorted(d), d a dict by pairs of texts -/
end Kx
end
section
set_option maxHeartbeats 2000000
namespace Kx
open PySem L2 PySem.Spec PyProof.Rows
/-! ### min and max of two texts -/
end Kx
end
section
set_option maxHeartbeats 2000000
namespace Kx
open PySem L2
/-! ### the walk over a list or a tuple -/
end Kx
end
section
set_option maxHeartbeats 2000000
namespace Kx
open PySem L2 PySem.Spec PyProof.Rows
/-! ### {k: v for .. for ..}; turned from HandS.Comp (two fors of a list) and HandS.DictComp -/
end Kx
end
section
set_option maxHeartbeats 2000000
namespace Kx
open PySem L2
end Kx
end
section
set_option maxHeartbeats 2000000
namespace Kx
open PySem L2
end Kx
end
section
set_option maxHeartbeats 2000000
namespace Kx
open PySem L2
end Kx
end
section
set_option maxHeartbeats 2000000
namespace Kx
open PySem L2
end Kx
end
section
set_option maxHeartbeats 2000000
namespace Kx
open PySem L2
section
variable {K : PySem.W.Frag} {σ σ' : St} {G G' M M1 M2 M3 : Hp} {ta tb te tc : TE} {P P1 P2 : VP} {d : Dat} {ds es : List Dat} {D : Ends} {H : Hp} {u : TS} {C : Addr} {cn : Str} {ns : List Str}
/-! ### things of any kind, instances among them -/
/-! ### methods of texts -/
def joinO (a : Str) (ys : List Str) : Option Str := (grd ((ys.map (·.length)).sum + ys.length * a.length ≤ 16777216 ∧ sok (Txt.join a ys) = true)).bind fun _ => some (Txt.join a ys)
abbrev rJoinS (K : PySem.W.Frag) : V → List V → Hp → VK → Prop := fun x xs H Q => ∃ a p, ∃ ys : List Str, x = .str a ∧ xs = [.ref p] ∧ (SqL K H p (ys.map V.str) ∨ SqT K H p (ys.map V.str)) ∧ (ys.map (·.length)).sum + ys.length * a.length ≤ 16777216 ∧ Q (.str (Txt.join a ys)) H
theorem mt_joinK {X : Cx} (hK : X.K = K) : MtR X "str.join" (rJoinS K) := by subst hK; exact mt_join
def strIO (i : Int) : Option Str := (grd (i.natAbs.log2 < 1920 ∧ sok (toString i : Str) = true)).bind fun _ => some (toString i : Str)
theorem ev_strI [Tb] {i : Int} {y : Str} (h : strIO i = some y) (ha : EvA (tCons ta tNil) σ G M M1 (conP (DD K (.int i)) nilP)) : Ev (tCB (fun xs H Q => ∃ i, xs = [.int i] ∧ i.natAbs.log2 < 1920 ∧ Q (.str (toString i)) H) (tCons ta tNil)) σ G M M1 (DD K (.str y)) := ev_cb ha fun xs G0 H s k hx Q q => by
  obtain ⟨v, rfl, hv⟩ := one_of (R := nilP) hx
  cases hv
  obtain ⟨_, h1, h2⟩ := bs h
  cases h2
  have z := grd_of h1
  exact ⟨i, rfl, z.1, q _ G0 H (Same.refl _) k (.str z.2)⟩
end
end Kx
end
section
set_option maxHeartbeats 2000000
namespace Kx
open PySem L2
/-! ### defs that raise -/
/-- an exception: its class's name, its own field if it has one -/
abbrev Ex := Str × Option (Str × Dat)
section
variable {K : PySem.W.Frag} {σ σ' : St} {G G' M M1 M2 M3 : Hp} {ta tb te tc : TE} {P P1 P2 : VP} {D : Ends} {H : Hp} {u : TS} {E : XK}
/-- what is known of an exception's own dict -/
def ExcD (K : PySem.W.Frag) (G : Hp) (d : Option Addr) (x : Ex) : Prop := match x.2 with
  | none => d = none
  | some (f, y) => ∃ (dd : Addr) (v : V), d = some dd ∧ G dd = some (.xd [(f, v)]) ∧ Dq K G v y
theorem ExcD.up {d : Option Addr} {x : Ex} (s : Same G G') (h : ExcD K G d x) : ExcD K G' d x := by
  obtain ⟨c, o⟩ := x
  cases o with
  | none => exact h
  | some y =>
    obtain ⟨f, y⟩ := y
    obtain ⟨dd, v, h1, h2, h3⟩ := h
    exact ⟨dd, v, h1, s _ _ h2, dp_up s y h3⟩
/-- the promise of a def that may raise -/
def spX [Tb] {α ρ : Type} (K : PySem.W.Frag) (args : α → List V → Hp → Prop) (m : α → Option (ρ ⊕ Ex)) (res : ρ → VP) : Sp := fun vs H Q E =>
  ∃ (G M : Hp) (a : α) (r : ρ ⊕ Ex), Ok G M H ∧ args a vs G ∧ m a = some r ∧ (∀ y, r = .inl y → ∀ v G' H', Same G G' → Ok G' M H' → res y v G' → Q v H') ∧
    ∀ x, r = .inr x → ∀ d G' H', Same G G' → Ok G' M H' → ExcD K G' d x → E (.ref (clsAt K x.1)) d H'
/-- a value, or an exception that goes by E -/
def EvR [Tb] {ρ : Type} (K : PySem.W.Frag) (te : TE) (σ : St) (G M M1 : Hp) (E : XK) (r : ρ ⊕ Ex) (res : ρ → VP) : Prop := ∀ G0 H, Same G G0 → Ok G0 M H → ∀ Q : VK,
  (∀ y, r = .inl y → ∀ v G1 H1, Same G0 G1 → Ok G1 M1 H1 → res y v G1 → Q v H1) → (∀ x, r = .inr x → ∀ d G1 H1, Same G0 G1 → Ok G1 M1 H1 → ExcD K G1 d x → E (.ref (clsAt K x.1)) d H1) → te σ H Q
theorem evr_call [Tb] {α ρ : Type} {args : α → List V → Hp → Prop} {m : α → Option (ρ ⊕ Ex)} {res : ρ → VP} {t : TA} {a : α} {r : ρ ⊕ Ex} (hm : m a = some r) (ha : EvA t σ G M M1 (args a)) : EvR K (tCall (spX K args m res) [] E t) σ G M M1 E r res := fun G0 H s k Q q qx =>
  ha G0 H s k _ fun vs G1 H1 s1 k1 hv => by
    rw [List.append_nil]
    exact ⟨G1, M1, a, r, k1, hv, hm, fun y e v G2 H2 s2 k2 hr => q y e v G2 H2 (s1.trans s2) k2 hr, fun x e d G2 H2 s2 k2 hd => qx x e d G2 H2 (s1.trans s2) k2 hd⟩
/-- f(..) as a statement -/
theorem q_exprX [Tb] {ρ : Type} {r : ρ ⊕ Ex} {res : ρ → VP} (he : EvR K te σ G M M1 E r res) (ok : Ok G M H) (k : ∀ y, r = .inl y → ∀ G' H', Same G G' → Ok G' M1 H' → u D σ H')
    (kx : ∀ x, r = .inr x → ∀ d G' H', Same G G' → Ok G' M1 H' → ExcD K G' d x → E (.ref (clsAt K x.1)) d H') : tSeq (tDrop te) u D σ H :=
  he G H (Same.refl _) ok _ (fun y e _ G1 H1 s1 k1 _ => k y e G1 H1 s1 k1) kx
/-! isinstance(x, C) of a thing -/
end
end Kx
end
section
set_option maxHeartbeats 2000000
namespace Kx
open PySem L2
/-! ### exceptions with a field: class C(B): def __init__(self, f): B.__init__(self, '..'); self.f = f -/
/-- the promise of such an __init__ -/
def spE (C : Addr) (f : Str) : Sp := fun vs H Q _ => ∃ (H1 : Hp) (a : Addr) (y : V), vs = [.ref a, y] ∧ H = upd H1 a (exo a C none) ∧ H1 a = none ∧ ∀ d, H1 d = none → d ≠ a → Q .non (upd (upd H d (exd d [(f, y)])) a (exo a C (some d)))
section
variable {K : PySem.W.Frag} {σ σ' : St} {G G' M M1 M2 M3 : Hp} {ta tb te tc : TE} {D : Ends} {H : Hp} {u : TS} {E : XK}
/-- raise C(e) -/
theorem q_raise1 [Tb] {C : Addr} {f : Str} {y : Dat} {c : Str} (hC : C = clsAt K c) (he : EvA (tCons te tNil) σ G M M1 (conP (DD K y) nilP)) (ok : Ok G M H) (k : ∀ d G' H', Same G G' → Ok G' M1 H' → ExcD K G' d (c, some (f, y)) → E (.ref C) d H') :
    tSeq (fun _ σ H => tMkO C (spE C f) [] (tCons te tNil) σ H fun cls d H' => (fun cls d (_ : St) H => E cls d H) cls d σ H') u D σ H := by
  unfold tSeq tMkO
  refine he G H (Same.refl _) ok _ fun vs G1 H1 s1 k1 hv => ?_
  · obtain ⟨v, ws, rfl, hv, rfl⟩ := hv
    refine ⟨by simp, fun a ha => ⟨H1, a, v, rfl, rfl, ha, fun d hd hne => ⟨rfl, d, [(f, v)], upd_same, ?_, hd, ?_⟩⟩⟩
    · rw [upd_ne hne, upd_same]
    · have e : upd (del (upd (upd (upd H1 a (exo a C none)) d (exd d [(f, v)])) a (exo a C (some d))) a) d (.xd [(f, v)]) = upd H1 d (.xd [(f, v)]) := by
        funext b
        by_cases h1 : b = d
        · rw [h1, upd_same, upd_same]
        · rw [upd_ne h1, upd_ne h1]
          by_cases h2 : b = a
          · rw [h2, del_same, ha]
          · rw [del_ne h2, upd_ne h2, upd_ne h1, upd_ne h2]
      rw [e]
      have hd1 : G1 d = none := Same.none k1.g hd
      exact k (some d) (upd G1 d (.xd [(f, v)])) _ (s1.trans (Same.new hd1)) (k1.newG _ hd) ⟨d, v, rfl, upd_same, dp_up (Same.new hd1) _ hv⟩
end
end Kx
end
section
set_option maxHeartbeats 2000000
namespace Kx
open PySem L2
/-- a value, or an exception -/
def orX {ρ T : Type} (r : ρ ⊕ Ex) (f : ρ → Option T) (g : Ex → Option T) : Option T := match r with
  | .inl y => f y
  | .inr x => g x
theorem orX_l {ρ T : Type} {y : ρ} {f : ρ → Option T} {g : Ex → Option T} {r : Option T} (h : orX (.inl y) f g = r) : f y = r := h
theorem orX_r {ρ T : Type} {x : Ex} {f : ρ → Option T} {g : Ex → Option T} {r : Option T} (h : orX (.inr x : ρ ⊕ Ex) f g = r) : g x = r := h
end Kx
end
section
set_option maxHeartbeats 2000000
namespace Kx
open PySem PySem.Spec PyProof.Rows L2
/-! ### defs called with the exception that is handled -/
/-- the promise of a def whose first argument is the handled exception: its class and its own dict are known -/
structure FnE (P : Program) (w : World) (K : PySem.W.Frag) (mg : Str → Option Value) (base : Heap) (CX : CXT) (k : Nat) (f : Addr) (fd : FuncData) (ps : List Str) (sp : Addr → Value → Option Addr → Sp) : Prop where
  len : ∀ e cls d vs H Q E, sp e cls d vs H Q E → vs.length = ps.length
  run : ∀ (A : Around) (outer : List Env) (s : Shared) (H : Hp) (args : Args) (us : List Value) (vs : List V) (Q : VK) (E : XK) (p : Addr × Obj) (cls : Value) (d : Option Addr), A.guards = some [] → L2H.RoomH k A → L2H.Hot1 A p → Zc cls d p.2 → L2H.PinOk outer H s p → Env0 P w K mg base A outer s H → BindsTo s fd args (ps.zip us) → Vals vs us → sp p.1 cls d vs H Q E →
    codeAny (model P w) A (.call (.ref f) args) (CR CX outer P w H s Q E) s
theorem fn_ofE {CX : CXT} {P : Program} {w : World} {K : PySem.W.Frag} {mg : Str → Option Value} {base : Heap} {k : Nat} {f : Addr} {name qual : Str} {params : Arguments} {body : List Stmt} {scope : Scope} {dV kV doc pm cdv ct oc : Value} {an od : Option Addr}
    {osl : Array (Option Value)} {N ps : List Str} {sp : Addr → Value → Option Addr → Sp} (lk : K.lookup f = some ⟨oc, od, .func (PySem.W.fnOf name qual params body scope dV kV doc pm an cdv ct), osl⟩) (hcd : PySem.W.codeIn K cdv qual = true) (S : FnScope N ps scope)
    (len : ∀ e cls d vs H Q E, sp e cls d vs H Q E → vs.length = ps.length)
    (hbody : ∀ (A : Around) (outer : List Env) (s : Shared) (H : Hp) (vs : List V) (Q : VK) (E : XK) (p : Addr × Obj) (cls : Value) (d : Option Addr), (A.deeper (envOfC qual scope s.heap.objs.size f cdv)).guards = some [] → L2H.Hot1 A p → Zc cls d p.2 → L2H.RoomH k (A.deeper (envOfC qual scope s.heap.objs.size f cdv)) → sp p.1 cls d vs H Q E →
      ∃ t, PSs (L2H.cxH CX P w K mg base N qual scope f cdv A outer s H E p) body t ∧ t { nx := fun _ H' => Q .non H', rt := Q } (L2.start N vs) H) :
    FnE P w K mg base CX (k + 1) f (PySem.W.fnOf name qual params body scope dV kV doc pm an cdv ct) ps sp := by
  refine ⟨len, fun A outer s H args us vs Q E p cls d hgd hr hot hz hpin e0 hb r hsp => ?_⟩
  have hl := len _ _ _ _ _ _ _ hsp
  have KX : K.In s.heap := e0.mod.kin.keeps fun b o e => (e0.bs b o e).1
  have lim : s.heap.NoLimit := e0.mod.nolimit.keeps fun b o e => (e0.bs b o e).1
  have hkind : ∀ y ∈ ps.zip us, scope.names.lookup y.1 = some .local ∨ (scope.names.lookup y.1 = some .cell ∧ ((cellsFrom (s.heap.objs.size + 1) scope.names []).lookup y.1).isSome = true) := fun ⟨n, v⟩ hy => by
    rcases S.par n (List.of_mem_zip hy).1 with q | q
    · exact .inl q
    · exact .inr ⟨q, PySem.W.cellsFrom_some _ _ _ (.inl q)⟩
  refine codeAny_call_function hr.depth (KX _ _ lk) rfl S.co S.gen rfl (PySem.W.codeRec_of KX hcd) (hb _ _ _ _ ?_)
  refine wpAny_newFunctionEnv_cells S.kind hkind fun env he s1 x => ?_
  subst he
  refine ⟨lim.keeps x.toInCall.keep, codeAny_func ?_⟩
  obtain ⟨t, ht, hq⟩ := hbody A outer s H vs Q E p cls d (by show A.guards = some []; exact hgd) hot hz (hr.deeper _) hsp
  have I : Inv (L2H.cxH CX P w K mg base N qual scope f cdv A outer s H E p) [] (L2.start N vs) H s1 := L2H.inv_startH S hpin e0 hl r x
  refine wpAny_mono (ht.run [] s1 (L2.start N vs) H _ I hq) (fun fl s' hs => ?_) fun e s' hs => hs
  have fin : ∀ {σ' : L2.St} {H' : Hp} {v : V} {u : Value}, Inv (L2H.cxH CX P w K mg base N qual scope f cdv A outer s H E p) [] σ' H' s' → RelV v u → Q v H' → CE outer P w H s Q u s' :=
    fun {σ' H' v u} J rv q => ⟨v, H', J.os, J.bare, J.base, J.hok, rv, q⟩
  cases fl with
  | ret u =>
    obtain ⟨v, σ', H', J, rv, q⟩ := hs
    exact fin J rv q
  | next =>
    obtain ⟨σ', H', J, q⟩ := hs
    exact fin (v := V.non) (u := Value.none) J rfl q
  | brk =>
    obtain ⟨_, _, _, q⟩ := hs
    exact False.elim q
  | cont =>
    obtain ⟨_, _, _, q⟩ := hs
    exact False.elim q
section
variable {X : Cx} {CX : CXT} {k : Nat} {f C : Addr} {fd : FuncData} {ps : List Str} {sp : Addr → Value → Option Addr → Sp} {E : L2.St → XK} {x m : Str} {q pos apos : Pos} {e o : Expr} {es : List Expr} {ta : TE} {t : TA} {p : Addr × Obj} {cls : Value} {d : Option Addr}
theorem run_fnE {pins : List (Addr × Obj)} {σ : L2.St} {H : Hp} {s : Shared} {Q : VK} {us : List Value} {vs : List V} (F : FnE X.prog X.w X.K X.mg X.base CX k f fd ps sp) (hgd : X.A.guards = some []) (hr : L2H.RoomH k X.A) (hot : L2H.Hot1 X.A p) (hz : Zc cls d p.2) (hp : p ∈ X.pn) (hb : Binds X.K fd ps []) (hx : PassesAt CX X σ (E σ))
    (I : Inv X pins σ H s) (r : Vals vs us) (h : sp p.1 cls d vs H Q (E σ)) : wpAny (model X.prog X.w) X.A (call (.ref f) us) (EP X pins σ Q) X.xe s := by
  have hl : us.length = ps.length := by rw [← r.length]; exact F.len _ _ _ _ _ _ _ h
  have b := hb s us I.kIn (by rw [List.append_nil]; exact hl)
  rw [List.append_nil] at b
  have P1 := I.pin p (List.mem_append_left _ hp)
  have hpin : L2H.PinOk X.stack H s p := ⟨P1.1, P1.2.1, fun hm => (List.mem_cons.mp (I.stkSub p.1 hm)).elim P1.2.2.1 P1.2.2.2.1, P1.2.2.2.2⟩
  refine wpAny_call (codeAny_mono (F.run X.A X.stack s H ⟨us, []⟩ us vs Q (E σ) p cls d hgd hr hot hz hpin I.env0 b r h) fun r s' hq => ?_)
  cases r with
  | error e => exact hx pins H s e s' I hq
  | ok fl =>
    cases fl with
    | ret u => exact I.after hq
    | next => exact False.elim hq
    | brk => exact False.elim hq
    | cont => exact False.elim hq
theorem pe_callE (F : FnE X.prog X.w X.K X.mg X.base CX k f fd ps sp) (hgd : X.A.guards = some []) (hr : L2H.RoomH k X.A) (hot : L2H.Hot1 X.A p) (hz : Zc cls d p.2) (hp : p ∈ X.pn) (hg : Gl X x) (hm : X.mg x = some (.ref f)) (hk : PySem.W.keepIn X.K (.ref f) = true) (hb : Binds X.K fd ps []) (hx : ∀ σ, PassesAt CX X σ (E σ))
    (ha : PA X (e :: es) t) (hdb : (x == ("__debug__" : Str)) = false := by decide) (he : starEach (e :: es) X.env = (false, eval e X.env) :: starEach es X.env := by rfl) (hpl : (backTo pos (starEach es X.env)).any (·.1) = false := by rfl) :
    PE X (.Call (.Name x q) (e :: es) [] pos) (tCallS (sp p.1 cls d) E t) := by
  refine ⟨fun pins s σ H Q I h => ?_⟩
  refine wpAny_Call_Name_kw (ld_glob I hg hm ?_ hdb)
  refine PySem.W.callWith_K (h₀ := X.base) I.ok.mod.kin hk (thn (ha.run pos pins s σ H _ I h) fun us s1 ⟨vs, H1, I1, r, q⟩ => ⟨I1.kIn, ?_⟩) he hpl
  exact run_fnE F hgd hr hot hz hp hb (hx σ) I1 r q
/-! isinstance(e, c), e.f: e an exception that is pinned -/
/-- its own dict, if it has one, is tracked -/
def DictAt (H : Hp) (d : Option Addr) : Prop := d = none ∨ ∃ (dd : Addr) (fs : List (Str × V)), d = some dd ∧ H dd = some (.xd fs)
def rIsP (K : PySem.W.Frag) (D a : Addr) (d : Option Addr) : List V → Hp → VK → Prop := fun xs H Q => ∃ (c : V) (cv : Value) (b : Bool), xs = [.ref a, c] ∧ DictAt H d ∧ (∀ u, RelV c u → u = cv) ∧ PySem.W.kitOne K (.ref D) cv = some b ∧ Q (.bl b) H
theorem call_isP {D : Addr} (hp : p ∈ X.pn) (T : ExcC X.K D) (hz : Zc (.ref D) d p.2) (hf : ∃ vs, p.2.data = .fields vs) : CallR X (.builtin "isinstance") (rIsP X.K D p.1 d) := by
  intro pins s σ H xs us Q I r h
  obtain ⟨c, cv, b, rfl, hD, hcv, e, q⟩ := h
  cases r with
  | cons rx rr =>
    cases rr with
    | cons rt rr =>
      cases rr
      cases rx
      have ec := hcv _ rt
      subst ec
      obtain ⟨hget, _⟩ := I.pin p (List.mem_append.mpr (.inl hp))
      obtain ⟨vs, hv⟩ := hf
      obtain ⟨cd, hcl, _⟩ := PySem.W.any_some T.hd
      have hcl' : (PySem.W.clsIn X.K D).isSome = true := by rw [hcl]; rfl
      have go : ∀ {od : Option Obj}, PySem.W.InstAt s.heap p.1 p.2 D od → _ := fun {od} J =>
        PySem.W.kia_one (prog := X.prog) (w := X.w) (A := X.A) (E := X.xe) (Q := EP X pins σ Q) (PySem.W.kitx_exc (x := p.1) (ox := p.2) (od := od) hcl' T.hg T.hk T.hs T.ha T.hn T.ht T.hm) I.kIn J e (fun z => nomatch z) fun tk => ⟨.bl b, H, I.kept (t' := tk) fun _ _ z => z, rfl, q⟩
      rcases hD with rfl | ⟨dd, fs, rfl, hH⟩
      · refine go (od := none) ?_
        obtain ⟨a, oc, od, oda, osl⟩ := p
        obtain ⟨h1, h2⟩ := hz
        dsimp only at h1 h2 hv
        subst h1 h2 hv
        exact ⟨hget, rfl, rfl, trivial⟩
      · have hx : ObjOk X.prog X.w H s.heap dd (.xd fs) := I.hok dd _ hH
        obtain ⟨mA, hns, hr⟩ := hx
        obtain ⟨od, ho, hl⟩ := lookIn_ns hns
        exact go (od := some od) ⟨hget, hz.1, by unfold PySem.W.notCls; rw [hv] <;> rfl, by rw [hz.2]; exact ho⟩
/-- e.f -/
def tXP (a : Addr) (d : Option Addr) (f : Str) (te : TE) : TE := fun σ H Q => te σ H fun x H1 => x = .ref a ∧ ∃ (dd : Addr) (fs : List (Str × V)) (v : V), d = some dd ∧ H1 dd = some (.xd fs) ∧ fs.lookup f = some v ∧ Q v H1
theorem pe_xfP {D : Addr} {te : TE} {n : Str} (hp : p ∈ X.pn) (T : XfC X.K D) (hno : PySem.W.findIn X.K (.ref D) n = some none) (hz : Zc (.ref D) d p.2) (hf : ∃ vs, p.2.data = .fields vs) (he : PE X e te)
    (hb : attributeBase e n X.env (eval e X.env) = eval e X.env := by rfl) : PE X (.Attribute e n pos) (tXP p.1 d n te) := by
  refine ⟨fun pins s σ H Q I h => ?_⟩
  refine attr_of hb (thn (he.run pins s σ H _ I h) fun u s1 hh => ?_)
  obtain ⟨x, H1, I1, rx, ex, dd, fs, v, ed, ea, l, q⟩ := hh
  subst ex
  obtain rfl : u = Value.ref p.1 := rx
  subst ed
  obtain ⟨ha, _⟩ := I1.pin p (List.mem_append_left _ hp)
  obtain ⟨vs, hd⟩ := hf
  have hx : ObjOk X.prog X.w H1 s1.heap dd (.xd fs) := I1.hok dd _ ea
  obtain ⟨mA, hns, hr⟩ := hx
  obtain ⟨od, ho, hl⟩ := lookIn_ns hns
  obtain ⟨u, hu, ru⟩ := RelO.some_of (v := v) (o := mA n) (by rw [← l]; exact hr n)
  have J : PySem.W.InstAt s1.heap p.1 p.2 D (some od) := ⟨ha, hz.1, by unfold PySem.W.notCls; rw [hd] <;> rfl, by rw [hz.2]; exact ho⟩
  exact HandSPX.exc_get I1.kIn J T.ga T.gg T.exC (PySem.W.findObj_own T.hdC hno rfl (by rw [hl, hu])) (handed_of ru) ⟨v, H1, I1.tok _, ru, q⟩
end
end Kx
end
section
set_option maxHeartbeats 2000000
namespace Kx
open PySem PySem.Spec PyProof.Rows L2
/-! ### exceptions whose context is None: L2N's air, so that a suite that catches one is hot -/
section
variable {P : Program} {w : World} {K : PySem.W.Frag} {mg : Str → Option Value} {base : Heap}
/-- as Fun.okX, in L2N's air -/
theorem okXN {x qual : Str} {st : Stmt} {f : Addr} {fd : FuncData} {N ps : List Str} {k : Nat} {sp : Sp} (F : L2.Fun K x qual st f fd) (S : FnScope N ps (defScope st)) (len : ∀ vs H Q E, sp vs H Q E → vs.length = ps.length)
    (hbody : ∀ (cdv : Value) (A : Around) (outer : List Env) (s : Shared) (H : Hp) (vs : List V) (Q : VK) (E : XK), Room k (A.deeper (envOfC qual (defScope st) s.heap.objs.size f cdv)) → sp vs H Q E →
      ∃ t, PSs (cxOf (L2N.CX P w) P w K mg base N qual (defScope st) f cdv A outer s H E) (defBody st) t ∧ t { nx := fun _ H' => Q .non H', rt := Q } (start N vs) H) : FnOk P w K mg base (L2N.CX P w) (k + 1) f fd ps sp := by
  obtain ⟨oc, od, kV, doc, pm, an, cdv, ct, osl, rfl, lk, hcd⟩ := F.ex
  exact fn_of lk hcd S len fun A outer s H vs Q E hr hsp => hbody cdv A outer s H vs Q E hr hsp
end
section
variable {X : Cx} {W : WX}
theorem takes0N : L2N.Takes X (fun _ _ _ _ => False) := fun _ _ x => by
  obtain ⟨_, _, _, _, _, _, _, _, _, _, _, _, _, _, _, _, z⟩ := x
  exact z.elim
/-- what a call in a try's body lets out: the suite must do with any slots -/
def wAll (N : List Str) (W : WX) : XK := fun cls d H => ∀ σ : L2.St, σ.length = N.length → W cls d σ H
theorem passAllN (tk : L2N.Takes X W) : Passes (L2N.CX X.prog X.w) X (wAll X.N W) := fun _ σ _ _ e s' I c => tk e s' (L2N.XE.of_call (W := W) I (fun cls d H' h => h σ I.len) c)
end
/-- the suite's exception is hot -/
theorem hot_of {X : Cx} {a : Addr} {oe : Obj} {cls : Value} {d : Option Addr} {pn : List (Addr × Obj)} (hz : L2N.Zn cls d oe) (hv : ∃ vs, oe.data = .fields vs) : L2H.Hot1 (X.suite a ((a, oe) :: pn)).A (a, oe) := by
  obtain ⟨vs, e⟩ := hv
  exact ⟨rfl, vs, e, hz.2.2 vs e⟩
end Kx
end
section
set_option maxHeartbeats 2000000
namespace Kx
open PySem PySem.Spec PyProof.Rows L2 HotX
/-! ### a list comprehension over range within an except suite (follows HandS.Comp lc_core, HandS.HotCalls ps_forH) -/
end Kx
end
section
set_option maxHeartbeats 2000000
namespace Kx
open PySem PySem.Spec PyProof.Rows L2
/-! ### try, the suite by the exception's class -/
section
variable {X : Cx} {st : List Stmt} {t t1 t2 : TS}
theorem pss_if {c : Prop} (h : c → PSs X st t) : PSs X st (fun D σ H => c ∧ t D σ H) := ⟨fun pins s σ H D I q => (h q.1).run pins s σ H D I q.2⟩
end
section
variable {K : PySem.W.Frag} {σ σ' : L2.St} {G G' M M1 M2 M3 : Hp} {ta tb te tc : TE} {P P1 P2 : VP} {D : Ends} {H : Hp} {u : TS} {E : XK}
/-! ### the handled exception as a value: class cn, own field y -/
def XP (K : PySem.W.Frag) (a : Addr) (d : Option Addr) (cn : Str) (y : Option (Str × Dat)) : VP := fun v G => v = .ref a ∧ ExcD K G d (cn, y)
theorem mo_xp {a : Addr} {d : Option Addr} {cn : Str} {y : Option (Str × Dat)} : Mo (XP K a d cn y) := fun _ _ _ s h => ⟨h.1, h.2.up s⟩
theorem ev_x [Tb] {i : Nat} {v : V} {a : Addr} {d : Option Addr} {cn : Str} {y : Option (Str × Dat)} (h : σ[i]? = some (some v)) (hp : XP K a d cn y v G) : Ev (tVar i) σ G M M (XP K a d cn y) := ev_var h mo_xp hp
theorem ExcD.dict {d : Option Addr} {x : Ex} (s : Same G H) (h : ExcD K G d x) : DictAt H d := by
  obtain ⟨c, o⟩ := x
  cases o with
  | none => exact .inl h
  | some y =>
    obtain ⟨f, y⟩ := y
    obtain ⟨dd, v, h1, h2, h3⟩ := h
    exact .inr ⟨dd, _, h1, s _ _ h2⟩
/-- isinstance(e, C) -/
theorem ev_isX [Tb] {cn : Str} {a C : Addr} {d : Option Addr} {y : Option (Str × Dat)} {b : Bool} (hk : PySem.W.kitOne K (.ref (clsAt K cn)) (.ref C) = some b) (ha : EvA (tCons ta (tCons tb tNil)) σ G M M1 (conP (XP K a d cn y) (conP (CLX C) nilP))) :
    Ev (tCB (rIsP K (clsAt K cn) a d) (tCons ta (tCons tb tNil))) σ G M M1 (DD K (.bool b)) := ev_cb ha fun xs G0 H s k hx Q q => by
  obtain ⟨v, w, rfl, hv, hw⟩ := two_of hx
  cases hw
  obtain ⟨rfl, he⟩ := hv
  exact ⟨_, .ref C, b, rfl, he.dict k.g, fun u r => r, hk, q _ G0 H (Same.refl _) k (.bl _)⟩
/-- isinstance(e, T), T built in -/
theorem ev_isXT [Tb] {cn : Str} {a : Addr} {T : String} {d : Option Addr} {y : Option (Str × Dat)} {b : Bool} (hk : PySem.W.kitOne K (.ref (clsAt K cn)) (.type T) = some b) (ha : EvA (tCons ta (tCons tb tNil)) σ G M M1 (conP (XP K a d cn y) (conP (fun v _ => v = .ty T) nilP))) :
    Ev (tCB (rIsP K (clsAt K cn) a d) (tCons ta (tCons tb tNil))) σ G M M1 (DD K (.bool b)) := ev_cb ha fun xs G0 H s k hx Q q => by
  obtain ⟨v, w, rfl, hv, hw⟩ := two_of hx
  cases hw
  obtain ⟨rfl, he⟩ := hv
  exact ⟨_, .type T, b, rfl, he.dict k.g, fun u r => r, hk, q _ G0 H (Same.refl _) k (.bl _)⟩
/-- e.f -/
theorem ev_xf [Tb] {cn f : Str} {a : Addr} {d : Option Addr} {z : Dat} (he : Ev te σ G M M1 (XP K a d cn (some (f, z)))) : Ev (tXP a d f te) σ G M M1 (DD K z) := fun G0 H s k Q q => he G0 H s k _ fun v G1 H1 s1 k1 hv => by
  obtain ⟨rfl, dd, w, h1, h2, h3⟩ := hv
  exact ⟨rfl, dd, _, w, h1, k1.g _ _ h2, by simp [List.lookup], q _ G1 H1 s1 k1 h3⟩
/-- the promise of a def that gets the handled exception first, of class cn -/
def spS [Tb] {α ρ : Type} (K : PySem.W.Frag) (cn : Str) (args : Addr → Option Addr → α → List V → Hp → Prop) (m : α → Option ρ) (res : ρ → VP) : Addr → Value → Option Addr → Sp := fun a cls d vs H Q _ =>
  cls = .ref (clsAt K cn) ∧ ∃ (G M : Hp) (x : α) (r : ρ), Ok G M H ∧ args a d x vs G ∧ m x = some r ∧ ∀ v G' H', Same G G' → Ok G' M H' → res r v G' → Q v H'
theorem ev_callS [Tb] {α ρ : Type} {cn : Str} {args : Addr → Option Addr → α → List V → Hp → Prop} {m : α → Option ρ} {res : ρ → VP} {E : L2.St → XK} {t : TA} {x : α} {r : ρ} {a : Addr} {d : Option Addr} (hm : m x = some r) (ha : EvA t σ G M M1 (args a d x)) :
    Ev (tCallS (spS K cn args m res a (.ref (clsAt K cn)) d) E t) σ G M M1 (res r) := fun G0 H s k Q q =>
  ha G0 H s k _ fun vs G1 H1 s1 k1 hv => ⟨rfl, G1, M1, x, r, k1, hv, hm, fun v G2 H2 s2 k2 hr => q v G2 H2 (s1.trans s2) k2 hr⟩
end
section
variable {P : Program} {w : World} {K : PySem.W.Frag} {mg : Str → Option Value} {base : Heap}
/-- as Fun.ok, for a def that gets the handled exception -/
theorem okE {CX : CXT} {x qual : Str} {st : Stmt} {f : Addr} {fd : FuncData} {N ps : List Str} {k : Nat} {sp : Addr → Value → Option Addr → Sp} (F : L2.Fun K x qual st f fd) (S : FnScope N ps (defScope st)) (len : ∀ e cls d vs H Q E, sp e cls d vs H Q E → vs.length = ps.length)
    (hbody : ∀ (cdv : Value) (A : Around) (outer : List Env) (s : Shared) (H : Hp) (vs : List V) (Q : VK) (E : XK) (p : Addr × Obj) (cls : Value) (d : Option Addr), (A.deeper (envOfC qual (defScope st) s.heap.objs.size f cdv)).guards = some [] → L2H.Hot1 A p → Zc cls d p.2 → L2H.RoomH k (A.deeper (envOfC qual (defScope st) s.heap.objs.size f cdv)) → sp p.1 cls d vs H Q E →
      ∃ t, PSs (L2H.cxH CX P w K mg base N qual (defScope st) f cdv A outer s H E p) (defBody st) t ∧ t { nx := fun _ H' => Q .non H', rt := Q } (L2.start N vs) H) : FnE P w K mg base CX (k + 1) f fd ps sp := by
  obtain ⟨oc, od, kV, doc, pm, an, cdv, ct, osl, rfl, lk, hcd⟩ := F.ex
  exact fn_ofE lk hcd S len fun A outer s H vs Q E p cls d hgd hot hz hr hsp => hbody cdv A outer s H vs Q E p cls d hgd hot hz hr hsp
theorem Hot1.flds {A : Around} {p : Addr × Obj} (h : L2H.Hot1 A p) : ∃ vs, p.2.data = .fields vs := let ⟨_, vs, e, _⟩ := h; ⟨vs, e⟩
end
end Kx
end
section
set_option maxHeartbeats 2000000
namespace Kx
open PySem PySem.Spec PyProof.Rows L2
/-! ### l.count(x) (follows HandS.Deep mt_indexD) -/
def rCountD (K : PySem.W.Frag) : V → List V → Hp → VK → Prop := fun x xs H Q => ∃ (a : Addr) (y : V) (d : PyData) (ds : List PyData), x = V.ref a ∧ xs = [y] ∧ Dp K H (V.ref a) (.list ds) ∧ Dp K H y d ∧
  SeqAt.shaped (.list ds) = true ∧ SeqAt.shaped d = true ∧ Q (.int (ds.countP fun z => PyData.eqv z d : Nat)) H
theorem mt_countD {X : Cx} (hu : X.A.units + 65 < cLine) : MtR X "list.count" (rCountD X.K) := by
  intro pins s σ H x xs v us Q I rx rxs h
  obtain ⟨a, y, d, ds, rfl, rfl, hl, hy, sl, sd, q⟩ := h
  cases rx
  cases rxs with
  | cons ry rt =>
    rename_i uy ut
    cases rt
    obtain ⟨bs, r1⟩ := Dp.reads I d y uy hy ry
    have hxs : PyData.canLayAll0 ds = true := SeqAt.canLay_of_shaped sl
    have hroom : X.A.units + 1 + min (PyData.depthAll ds) d.depth < cLine := room_in_shaped sd hu
    cases hl with
    | lst hs ha =>
      obtain ⟨its, rv, ⟨⟨cls, dd, data, sls⟩, n, ho, hc, hdn, hdt⟩, hlen⟩ := I.list hs
      simp only at hc hdt
      subst hc hdt
      obtain ⟨as, h4⟩ := Dp.readsAll I ds _ its ha rv
      have hmap : its.map (SeqAt.readOf s.heap) = ds := SeqAt.readsAll_map ds its as hxs h4
      have ec : its.countP (fun u => PyData.eqv (SeqAt.readOf s.heap u) d) = ds.countP fun z => PyData.eqv z d := by
        rw [← hmap, List.countP_map]
        rfl
      refine call_meets PySem.F.slot_list_count ⟨_, ho, rfl⟩ PySem.F.entry_list_count (PySem.F.args_list_count_2 _ _)
        (SeqAt.list_countAt a its.toArray n dd sls uy (fun u => PyData.eqv (SeqAt.readOf s.heap u) d)) ⟨ho, SeqAt.items_eqAt (vs := its.toArray) (show ReadsAll s.heap its.toArray.toList ds as from h4) r1 hxs (SeqAt.canLay_of_shaped sd) hroom, ?_⟩
      refine ⟨.int (ds.countP fun z => PyData.eqv z d : Nat), H, I.tok _, ⟨s.toks, ?_⟩, q⟩
      show Value.int ((its.countP (fun u => PyData.eqv (SeqAt.readOf s.heap u) d) : Nat) : Int) s.toks = _
      rw [ec]
section
variable {α : Type} [DecidableEq α] {K : PySem.W.Frag} {σ : L2.St} {G M M1 M2 H : Hp} {ta tb te : TE} {e : α → Dat} {n : Nat}
def cntE (x : α) (xs : List α) : Nat := xs.countP fun y => decide (y = x)
theorem mt_countDK {X : Cx} (hu : X.A.units + 65 < cLine) (h : X.K = K := by rfl) : MtR X "list.count" (rCountD K) := h ▸ mt_countD hu
theorem ev_countD [Tb] {x : α} {xs : List α} (h : EqE e n) (hn : n ≤ 62) (ho : Ev ta σ G M M1 (DD K (eL e xs))) (ha : EvA (tCons tb tNil) σ G M1 M2 (conP (DD K (e x)) nilP)) : Ev (tBM K "list" (rCountD K) ta (tCons tb tNil)) σ G M M2 (DD K (.int (cntE x xs : Int))) := fun G0 H s k Q q =>
  ho G0 H s k _ fun v G1 H1 s1 k1 hx => by
    have hx0 := hx
    cases hx with
    | @lst a vs _ hl hd =>
      refine ⟨.inl ⟨rfl, _, .inl (.inl (k1.g _ _ hl))⟩, ha G1 H1 (s.trans s1) k1 _ fun ws G2 H2 s2 k2 hv => ?_⟩
      obtain ⟨y, rfl, hw⟩ := one_of (R := nilP) hv
      have e0 : toPy (eL e xs) = .list (xs.map fun z => toPy (e z)) := by
        show toPy (.list (xs.map e)) = _
        rw [toPy_list, List.map_map]
        rfl
      have hdp := dq_dp _ ((eqe_L h).pur xs) (dp_up (s2.trans k2.g) _ hx0)
      have hsh := shp_of (n := 0) ((eqe_L h).pur xs) (Nat.le_trans ((eqe_L h).dep xs) (by omega)) hx0
      rw [e0] at hdp hsh
      refine ⟨a, y, toPy (e x), xs.map fun z => toPy (e z), rfl, rfl, hdp, dq_dp _ (h.pur x) (dp_up k2.g _ hw), hsh, shp_of (n := 0) (h.pur x) (Nat.le_trans (h.dep x) (by omega)) hw, ?_⟩
      have ec : (xs.map fun z => toPy (e z)).countP (fun z => PyData.eqv z (toPy (e x))) = cntE x xs := by
        rw [List.countP_map]
        unfold cntE
        congr 1
        funext z
        exact h.eqv z x
      rw [ec]
      exact q _ G2 H2 (s1.trans s2) k2 (.int _)
end
theorem _root_.L2H.RoomH.un65 {k : Nat} {A : Around} (r : L2H.RoomH k A) : A.units + 65 < cLine := by have := r.un; omega
theorem _root_.L2H.RoomH.units {k : Nat} {A : Around} (r : L2H.RoomH k A) : A.units + 64 < cLine := by have := r.un; omega
end Kx
end
section
set_option maxHeartbeats 2000000
namespace Kx
open PySem PySem.Spec PyProof.Rows L2
/-! ### small change for try -/
theorem pass0At {X : Cx} {E : L2.St → XK} (σ : L2.St) : PassesAt CX0 X σ (E σ) := fun _ _ _ _ _ _ c => False.elim c
/-- a call of an own def with the handled exception, in the suite -/
theorem pe_callSu {X : Cx} {k : Nat} {f a : Addr} {fd : FuncData} {ps : List Str} {sp : Addr → Value → Option Addr → Sp} {x : Str} {q pos : Pos} {e : Expr} {es : List Expr} {t : TA} {oe : Obj} {cls : Value} {d : Option Addr} {pn : List (Addr × Obj)}
    (F : FnE X.prog X.w X.K X.mg X.base CX0 k f fd ps sp) (hgd : X.A.guards = some []) (hr : Room k X.A) (hz : L2N.Zn cls d oe) (hv : ∃ vs, oe.data = .fields vs) (hg : Gl X x) (hm : X.mg x = some (.ref f)) (hk : PySem.W.keepIn X.K (.ref f) = true) (hb : Binds X.K fd ps [])
    (ha : PA (X.suite a ((a, oe) :: pn)) (e :: es) t) (hdb : (x == ("__debug__" : Str)) = false := by decide) (he : starEach (e :: es) X.env = (false, eval e X.env) :: starEach es X.env := by rfl) (hpl : (backTo pos (starEach es X.env)).any (·.1) = false := by rfl) :
    PE (X.suite a ((a, oe) :: pn)) (.Call (.Name x q) (e :: es) [] pos) (tCallS (sp a cls d) (fun _ => E0) t) :=
  pe_callE (X := X.suite a ((a, oe) :: pn)) (p := (a, oe)) F (by show X.A.guards = some []; exact hgd) (L2H.roomH_mark hr _) (hot_of hz hv) hz.zc List.mem_cons_self hg hm hk hb (pass0At (E := fun _ => E0)) ha hdb he hpl
/-- by the exception's class -/
def exO {T : Type} (c f : Str) (x : Ex) (g : Dat → Option T) (h : Option T) : Option T := if x.1 = c then (match x.2 with | some q => if q.1 = f then g q.2 else none | none => none) else h
theorem exO_of {T : Type} {c f : Str} {x : Ex} {g : Dat → Option T} {h : Option T} {r : T} (e : exO c f x g h = some r) : (∃ y, x = (c, some (f, y)) ∧ g y = some r) ∨ h = some r := by
  obtain ⟨a, o⟩ := x
  unfold exO at e
  by_cases q : a = c
  · rw [if_pos q] at e
    subst q
    cases o with
    | none => cases e
    | some z =>
      obtain ⟨f', y⟩ := z
      dsimp only at e
      by_cases q : f' = f
      · rw [if_pos q] at e
        subst q
        exact .inl ⟨y, rfl, e⟩
      · rw [if_neg q] at e
        cases e
  · rw [if_neg q] at e
    exact .inr e
theorem len_succ {σ : L2.St} {n : Nat} (h : σ.length = n + 1) : ∃ x τ, σ = x :: τ ∧ τ.length = n := by
  cases σ with
  | nil => cases h
  | cons x τ => exact ⟨x, τ, rfl, by simpa using h⟩
theorem len_zero {σ : L2.St} (h : σ.length = 0) : σ = [] := List.eq_nil_of_length_eq_zero h
end Kx
end
section
set_option maxHeartbeats 2000000
namespace Kx
open PySem PySem.Spec PyProof.Rows L2
/-! ### repr of a thing of any kind: none, a number, a tuple or a list of plain things -/
def rReprD (K : PySem.W.Frag) : List V → Hp → VK → Prop := fun xs H Q => rRepr K xs H Q ∨ (xs = [.non] ∧ Q (.str "None") H) ∨ ∃ i : Int, xs = [.int i] ∧ i.natAbs.log2 < 1920 ∧ Q (.str (toString i)) H
theorem cl_reprD {X : Cx} {K : PySem.W.Frag} (hg : X.A.guards = some []) (hu : X.A.units + 64 < cLine) (hK : X.K = K) : CallR X (.builtin "repr") (rReprD K) := by
  intro pins s σ H xs us Q I r h
  rcases h with h | ⟨rfl, q⟩ | ⟨i, rfl, hz, q⟩
  · exact cl_repr hg hu hK pins s σ H xs us Q I r h
  · cases r with
    | cons r1 r2 =>
      cases r2
      obtain rfl := r1
      exact PySem.P.repr_of_none ⟨.str _, H, I.tok _, ⟨_, rfl⟩, q⟩
  · cases r with
    | cons r1 r2 =>
      cases r2
      obtain ⟨t, rfl⟩ := r1
      exact PySem.P.repr_of_int hz ⟨.str _, H, I.tok _, ⟨_, rfl⟩, q⟩
def reprD : Dat → Option Str
  | .none => some "None"
  | .int i => strIO i
  | d => if pur d && seqB d then reprO (toPy d) else none
section
variable {K : PySem.W.Frag} {σ : L2.St} {G M M1 : Hp} {ta : TE} {d : Dat}
theorem ev_reprD [Tb] {x : Str} (hx : reprD d = some x) (ha : EvA (tCons ta tNil) σ G M M1 (conP (DD K d) nilP)) : Ev (tCB (rReprD K) (tCons ta tNil)) σ G M M1 (DD K (.str x)) := ev_cb ha fun xs G0 H s k hxs Q q => by
  obtain ⟨v, rfl, hv⟩ := one_of (R := nilP) hxs
  have sq : (if pur d && seqB d then reprO (toPy d) else none) = some x → rReprD K [v] H Q := fun h => by
    by_cases e : (pur d && seqB d) = true
    · rw [if_pos e] at h
      obtain ⟨p, hs⟩ := Bool.and_eq_true_iff.mp e
      obtain ⟨a, rfl⟩ := seq_ref hs hv
      obtain ⟨h1, rfl⟩ := reprO_of h
      have hl := dq_lay d p hv
      exact .inl ⟨a, toPy d, rfl, dq_dp d p (dp_up k.g d hv), hl, h1, q _ G0 H (Same.refl _) k (.str (sgn_sok.mp (sgn_shown _ hl)))⟩
    · rw [if_neg e] at h
      cases h
  cases d with
  | none =>
    cases hv
    cases hx
    exact .inr (.inl ⟨rfl, q _ G0 H (Same.refl _) k (.str (by decide +kernel))⟩)
  | int i =>
    cases hv
    obtain ⟨_, h1, h2⟩ := bs (show strIO i = some x from hx)
    cases h2
    have z := grd_of h1
    exact .inr (.inr ⟨i, rfl, z.1, q _ G0 H (Same.refl _) k (.str z.2)⟩)
  | bool b => exact sq hx
  | str b => exact sq hx
  | list b => exact sq hx
  | tuple b => exact sq hx
  | rtup b => exact sq hx
  | dK a b => exact sq hx
  | dT a b => exact sq hx
  | ins a b c => exact sq hx
end
theorem q_try {f u : TS} {D : Ends} {σ : L2.St} {H : Hp} (h : f { D with nx := u D } σ H) : tSeq f u D σ H := h
theorem passAllM {X : Cx} {W : WX} {N : List Str} (h : X.N = N) (tk : L2N.Takes X W) : Passes (L2N.CX X.prog X.w) X (wAll N W) := h ▸ passAllN tk
end Kx
end
section
set_option maxHeartbeats 2000000
namespace Kx
open PySem PySem.Spec PyProof.Rows L2 L2N HandSPX
/-! ### except (A, B, C) as n -/
theorem flyZ_keeps {B h h' : Heap} {l : List Env} {a : Addr} {Z : Obj → Prop} (x : FlyingZ B l a Z h) (k : ∀ b o, h.get? b = some o → h'.get? b = some o) : FlyingZ B l a Z h' := by
  obtain ⟨f1, f2, f3, oe, vs, T, oT, ts, he, hz, hd, h1, hn, hne, hT, hdT, h3⟩ := x
  exact ⟨fun b o q => k b o (f1 b o q), f2, f3.of_keeps fun b o q _ => ⟨o, k b o q, rfl⟩, oe, vs, T, oT, ts, k _ _ he, hz, hd, h1, hn, hne, k _ _ hT, hdT, h3⟩
/-- what the clause wishes of an exception of the body -/
def wAs3 (K : PySem.W.Frag) (cs : List Value) (i : Nat) (ts : Addr → Value → Option Addr → TS) (Wout : WX) (D : Ends) : WX := fun cls d σ H =>
  ∃ b, PySem.W.exmAny K cls cs = some b ∧ (b = true → ∀ a, H a = none → ts a cls d { nx := fun σ' H' => D.nx (σ'.set i none) H', rt := D.rt, bk := fun σ' H' => D.bk (σ'.set i none) H', ct := fun σ' H' => D.ct (σ'.set i none) H' } (σ.set i (some (.ref a))) H) ∧
    (b = false → Wout cls d σ H)
theorem ld_names {X : Cx} {x : Str} {c : Value} {p : Pos} {pins : List (Addr × Obj)} {σ : L2.St} {H : Hp} {s : Shared} {Q E : Value → Shared → Prop} (I : Inv X pins σ H s) (hc : Names X x c) (q : Q c s) : wpAny (model X.prog X.w) X.A (eval (.Name x p) X.env) Q E s := by
  obtain ⟨hg, hdbg, hm | ⟨hm, hv, hnn⟩⟩ := hc
  · exact ld_glob I hg hm q hdbg
  · exact ld_blt I hg hm hv q hnn hdbg
section
variable {X : Cx} {x1 x2 x3 n : Str} {c1 c2 c3 : Value} {i kk : Nat} {body suite : List Stmt} {b₀ : Stmt} {p1 p2 p3 tp pos pos' : Pos} {tb : WX → TS} {ts : Addr → Value → Option Addr → TS} {Wout : WX}
theorem try_as3 (hs : X.stack = X.env :: X.outer) (hf : X.env.frame = some X.env.locals) (hN : X.N.Nodup) (hi : X.N[i]? = some n) (hln : X.env.kindOf n = some .local) (n1 : Names X x1 c1) (n2 : Names X x2 c2) (n3 : Names X x3 c3) (tk : L2N.Takes X Wout)
    (hb : ∀ (W : WX) (pn : List (Addr × Obj)) (xe : Value → Shared → Prop), L2N.Takes (X.tr pn xe) W → PassesOwn (model X.prog X.w) X.A X.env xe → PSs (X.tr pn xe) body (tb W))
    (hsu : ∀ (a : Addr) (oe : Obj) (cls : Value) (d : Option Addr) (pn : List (Addr × Obj)), L2N.Zn cls d oe → (∃ vs, oe.data = .fields vs) → PSs (X.suite a ((a, oe) :: pn)) (b₀ :: suite) (ts a cls d)) :
    PS X (.Try body [.ExceptHandler (some (.Tuple [.Name x1 p1, .Name x2 p2, .Name x3 p3] kk tp)) (some n) (b₀ :: suite) pos'] [] [] pos) (fun D σ H => tb (wAs3 X.K [c1, c2, c3] i ts Wout D) D σ H) := by
  refine ⟨fun pins s σ H D I h => ?_⟩
  have ok := I.ok
  have hfr : X.A.frames = some (X.env :: X.outer) := by rw [ok.frames, hs]
  have hloc : Loc X.env.scope n := .inl hln
  refine wpAny_Try_except ?_
  refine wpAny_mono ((hb (wAs3 X.K [c1, c2, c3] i ts Wout D) (X.pn ++ pins) (fun e s₁ => wpAny (model X.prog X.w) X.A (noteFrame e X.env) (fun _ s₂ => wpAny (model X.prog X.w) X.A (setFlight e none) (fun _ s₃ =>
    wpAny (model X.prog X.w) X.A (handleBy e X.env [.ExceptHandler (some (.Tuple [.Name x1 p1, .Name x2 p2, .Name x3 p3] kk tp)) (some n) (b₀ :: suite) pos']) (SP X pins D) X.xe s₃) X.xe s₂) X.xe s₁) (fun u s' xx => ?_) PassesOwn.looking).run [] s σ H D (I.toTry _) h) (fun f s1 hsp => ?_) (fun e s1 he => he)
  · obtain ⟨a, B, sI, pins', σ', H', cls, d, rfl, J', nb, up, sky, na, os, ag, b, hb1, hyes, hno⟩ := xx
    have J : Inv X pins σ' H' sI := J'.ofTry ok
    have sky' : Sky B (X.env :: X.outer) a (L2N.Zn cls d) X.env.locals s'.heap := by rw [← hs]; exact sky
    show wpAny (model X.prog X.w) X.A (noteFrame (.ref a) X.env) _ _ _
    refine L2N.Sky.land L2N.Zn.steady hfr hf sky' fun h2 fl2 up2 => ?_
    have J2 : Inv X pins σ' H' { s' with heap := h2 } := J.landed nb fl2.1 (up.trans up2) os ag
    have notFr : ∀ {h : Heap} {o : Obj} {vs : Array Value}, h.FunFrames B (X.env :: X.outer) → h.get? a = some o → o.data = .fields vs → a ∉ frs (X.env :: X.outer) := fun {h o vs} ff e dd hm => by
      obtain ⟨_, o', e', hnf⟩ := ff.mem hm
      rw [e] at e'; cases e'
      exact hnf _ dd
    obtain ⟨oe2, vs2, he2, hz2, hd2⟩ := fl2.there
    have nfr := notFr fl2.2.2.1 he2 hd2
    have nL : a ≠ X.env.locals := fun z => nfr (List.mem_filterMap.mpr ⟨X.env, List.mem_cons_self, by rw [hf, z]⟩)
    have nF : a ∉ X.fs := fun hm => by
      obtain ⟨e, he, q⟩ := List.mem_filterMap.mp hm
      exact nfr (List.mem_filterMap.mpr ⟨e, List.mem_cons_of_mem _ he, q⟩)
    have S2 := J2.suite he2 hd2 na nL nF
    refine wpAny_handleBy_cons (codeAny_handlers_test ?_) (by intro q; cases q)
    refine wpAny_Tuple (wpAny_items_cons (ld_names S2 n1 ?_))
    refine wpAny_items_cons (ld_names S2 n2 ?_)
    refine wpAny_items_cons (ld_names S2 n3 ?_)
    refine wpAny_items_nil ⟨by size_fits, ?_⟩
    obtain ⟨h3, eh3⟩ : ∃ h3, h3 = h2.push { cls := .type "tuple", data := .seq [c1, c2, c3].toArray } := ⟨_, rfl⟩
    have kp : ∀ q o, h2.get? q = some o → h3.get? q = some o := fun _ _ z => by rw [eh3]; exact Heap.get?_push_of_some _ z
    have fl3 := flyZ_keeps fl2 kp
    have up3 := up2.trans (Heap.UpToSlots.of_keeps kp)
    have J3 : Inv X pins σ' H' { s' with heap := h3 } := J.landed nb fl3.1 (up.trans up3) os ag
    have hz3 : oe2.cls = cls := hz2.1
    have LT : PySem.W.Looks (model X.prog X.w) h3 (typeOf (.ref a)) cls := fun A Q E s k q => wpAny_typeOf_ref (k _ _ (kp _ _ he2)) (by rw [hz3]; exact q)
    have LM := PySem.W.exm_tup3 (M := model X.prog X.w) (tp := h2.objs.size) (J3.kIn) LT (by rw [eh3]; exact Heap.get?_push_size h2 rfl) hb1
    show wpAny (model X.prog X.w) (X.A.mark (some (.ref a))) (excMatches (.ref a) (.ref h2.objs.size)) _ _ { s' with heap := h2.push { cls := .type "tuple", data := .seq [c1, c2, c3].toArray } }
    rw [← eh3]
    refine LM.here ?_
    cases b with
    | true =>
      refine codeAny_handlers_suite_as ?_
      refine HandSPX.lands_againZ fl3 fun h4 fl4 up4 => ?_
      have J4 : Inv X pins σ' H' { s' with heap := h4 } := J.landed nb fl4.1 ((up.trans up3).trans up4) os ag
      obtain ⟨oe4, vs4, he4, hz4, hd4⟩ := fl4.there
      have S4 := J4.suite he4 hd4 na nL nF
      refine store_ok (X := X.suite a ((a, oe4) :: (X.pn ++ pins))) (v := .ref a) S4 hN hi hloc rfl (fun s5 S5 => ?_) (.inr hln)
      refine wpAny_mono ((hsu a oe4 cls d (X.pn ++ pins) hz4 ⟨_, hd4⟩).run [] s5 _ H' _ S5 (hyes rfl a na)) (fun f s6 hsp => ?_) (fun _ _ z => False.elim z)
      have end_ : ∀ {σ6 : L2.St} {H6 : Hp} {Q : Shared → Prop}, Inv (X.suite a ((a, oe4) :: (X.pn ++ pins))) [] σ6 H6 s6 → (∀ s7, Inv X pins (σ6.set i none) H6 s7 → Q s7) →
          wpAny (model X.prog X.w) X.A (do bindName X.env n .none; unbindBehindTheSuite X.env n pos') (fun _ s7 => Q s7) X.xe s6 := fun {σ6 H6 Q} S6 hq => gone_ok (S6.unsuite ok) hN hi hln hq
      cases f with
      | next =>
        obtain ⟨σ6, H6, S6, q6⟩ := hsp
        exact end_ S6 fun s7 J7 => ⟨_, _, J7, q6⟩
      | brk =>
        obtain ⟨σ6, H6, S6, q6⟩ := hsp
        exact end_ S6 fun s7 J7 => ⟨_, _, J7, q6⟩
      | cont =>
        obtain ⟨σ6, H6, S6, q6⟩ := hsp
        exact end_ S6 fun s7 J7 => ⟨_, _, J7, q6⟩
      | ret u =>
        obtain ⟨v6, σ6, H6, S6, r6, q6⟩ := hsp
        exact end_ S6 fun s7 J7 => ⟨_, _, _, J7, r6, q6⟩
    | false =>
      show wpAny _ X.A (handleBy (.ref a) X.env []) _ _ _
      refine wpAny_handleBy_nil ?_
      obtain ⟨k1, k2, k3, oe, vs, T, oT, ts', he, hz, hd, h1, hr⟩ := id fl3
      unfold PySem.passOn
      refine wpAny_bind (wpAny_field he hd h1 ?_)
      rw [if_neg (show ¬ ((Value.ref T == Value.none) = true) from by simp)]
      have fin : wpAny (model X.prog X.w) X.A (setFlight (.ref a) X.env.frame) (fun _ s4 => wpAny (model X.prog X.w) X.A (throw (.ref a) : Sem Flow) (SP X pins D) X.xe s4) X.xe { s' with heap := h3 } := by
        rw [hf]
        refine HandSPX.setFlight_upZ fl3 fun h4 hh4 up4 => wpAny_throw (tk _ _ ?_)
        exact ⟨a, B, sI, pins, σ', H', cls, d, rfl, J, nb, (up.trans up3).trans up4, .inr (.inr (by rw [hs]; exact hh4)), na, os, ag, hno rfl⟩
      first
        | exact wpAny_bind (wpAny_pure (wpAny_bind fin))
        | exact wpAny_bind fin
  · cases f with
    | next =>
      obtain ⟨σ', H', J', q⟩ := hsp
      exact wpAny_execs_nil ⟨σ', H', J'.ofTry ok, q⟩
    | brk =>
      obtain ⟨σ', H', J', q⟩ := hsp
      exact ⟨σ', H', J'.ofTry ok, q⟩
    | cont =>
      obtain ⟨σ', H', J', q⟩ := hsp
      exact ⟨σ', H', J'.ofTry ok, q⟩
    | ret u =>
      obtain ⟨v, σ', H', J', r, q⟩ := hsp
      exact ⟨v, σ', H', J'.ofTry ok, r, q⟩
end
theorem q_was3 {K : PySem.W.Frag} {H : Hp} {D : Ends} {N : List Str} {cs : List Value} {i : Nat} {ts : Addr → Value → Option Addr → TS} {Wout : WX} {d : Option Addr} {C : Addr} (he : PySem.W.exmAny K (.ref C) cs = some true)
    (h : ∀ (a : Addr) (σ : L2.St), σ.length = N.length → H a = none → ts a (.ref C) d { nx := fun σ' H' => D.nx (σ'.set i none) H', rt := D.rt, bk := fun σ' H' => D.bk (σ'.set i none) H', ct := fun σ' H' => D.ct (σ'.set i none) H' } (σ.set i (some (.ref a))) H) :
    wAll N (wAs3 K cs i ts Wout D) (.ref C) d H := fun σ hl => ⟨true, he, fun _ a ha => h a σ hl ha, fun z => nomatch z⟩
theorem exm3 {K : PySem.W.Frag} {cls a b c : Value} {x y z : Bool} (h1 : PySem.W.exmOne K cls a = some x) (h2 : PySem.W.exmOne K cls b = some y) (h3 : PySem.W.exmOne K cls c = some z) (h : (x || (y || z)) = true) : PySem.W.exmAny K cls [a, b, c] = some true := by
  simp only [PySem.W.exmAny, h1, h2, h3, Bool.or_false]
  rw [h]
end Kx
end
section
set_option maxHeartbeats 2000000
namespace Kx
open PySem PySem.Spec PyProof.Rows L2
/-! ### C(k = v, ..), one default -/
theorem kit_own {K : PySem.W.Frag} {a c : Addr} {b : Bool} (hc : PySem.W.isClsIn K c = true) (ht : PySem.W.typeIn K (.ref c) = some (.type "type")) (ha : PySem.W.subIn K (.ref a) (.ref a) = some true) (hs : PySem.W.subIn K (.ref a) (.ref c) = some b) : PySem.W.kitOne K (.ref a) (.ref c) = some b := by
  by_cases e : a = c
  · subst e
    rw [hs] at ha
    rw [kit_self]
    exact ha.symm
  · unfold PySem.W.kitOne
    rw [if_neg (by simpa using e)]
    have h2 : (PySem.W.clsIn K c).isSome = true := hc
    show (if ((PySem.W.clsIn K c).isSome && PySem.W.typeIn K (.ref c) == some (.type "type")) = true then PySem.W.subIn K (.ref a) (.ref c) else none) = _
    rw [h2, ht, if_pos (by rfl)]
    exact hs
theorem kit_blt {K : PySem.W.Frag} {a : Addr} {T : String} {b : Bool} (hm : PySem.W.kitMeta T = true) (hs : PySem.W.subIn K (.ref a) (.type T) = some b) : PySem.W.kitOne K (.ref a) (.type T) = some b := by
  unfold PySem.W.kitOne
  rw [if_neg (by simp)]
  show (if PySem.W.kitMeta T = true then PySem.W.subIn K (.ref a) (.type T) else none) = _
  rw [if_pos hm]
  exact hs
end Kx
end
section
set_option maxHeartbeats 2000000
namespace Kx
open PySem PySem.Spec PyProof.Rows L2
/-! ### things taken as a Peal, as a STANDING -/
end Kx
end
section
set_option maxHeartbeats 2000000
namespace Kx
open PySem PySem.Spec PyProof.Rows L2
/-! ### lambdas without parameters, handed to a def that calls what it got -/
/-- LamX.lamCx in L2N's air -/
abbrev lamCxN (X : Cx) (A : Around) (out : List Env) (s : Shared) (H : Hp) (E : XK) (scope : Scope) (f c' : Addr) : Cx :=
  { LamX.lamCx X A out s H E scope f c' with xe := fun e s' => wpAny (model X.prog X.w) (A.deeper (LamX.lamEnv X scope s.heap.objs.size f c')) (leaving (LamX.lamEnv X scope s.heap.objs.size f c') e) (fun _ s'' => L2N.CX X.prog X.w out H s E e s'') (fun e' s'' => L2N.CX X.prog X.w out H s E e' s'') s' }
theorem lam_startN {X : Cx} {pins : List (Addr × Obj)} {σ : L2.St} {H HZ : Hp} {s s1 : Shared} {A : Around} {out : List Env} {E : XK} {scope : Scope} {f c' : Addr} {h₁ : Heap} {tk : Nat} (I : Inv X pins σ H s) (L : LamX.LamS X.env.scope scope) (e0 : Env0 X.prog X.w X.K X.mg X.base A out s1 HZ)
    (hd : A.handled = none) (un : Un (frs X.stack) [] H HZ s.heap s1.heap) (hns : h₁.Ns s1.heap.objs.size fun y => ([] : List (Str × Value)).reverse.lookup y) (kp : ∀ b o, s1.heap.get? b = some o → h₁.get? b = some o) :
    Inv (lamCxN X A out s1 HZ E scope f c') [] σ HZ { s1 with heap := h₁, toks := tk } := by
  have J := LamX.lam_start2 (E := E) (f := f) (c' := c') (tk := tk) I L e0 hd un hns kp
  obtain ⟨ok, j1, j2, j3, j4, j5, j6, j7, j8, j9, j10⟩ := J
  exact ⟨⟨ok.mod, ok.kind, ok.glob, ok.blt, ok.above, ok.inj, ok.has, ok.cab, ok.hd, ok.frames, ok.stk, ok.exf, ok.bs, ok.bsz, ok.noex, ok.exfs, ok.funs, ok.frf⟩, j1, j2, j3, j4, j5, j6, j7, j8, j9, j10⟩
/-- what act() is read as -/
def tAct (f c' : Addr) (q : Str) (tl : XK → Hp → VK → Prop) (E : XK) : TE := fun σ H Q => σ[0]? = some (some (.ref f)) ∧ H c' = some (LamX.CodeO c' q) ∧ tl E H Q
/-- the context of the def that got the lambda -/
abbrev gotCx (P : Program) (w : World) (K : PySem.W.Frag) (mg : Str → Option Value) (base : Heap) (Ng : List Str) (x : Str) (sg : Scope) (g : Addr) (cdg : Value) (A : Around) (out : List Env) (s : Shared) (H : Hp) : Cx := cxOf CX0 P w K mg base Ng x sg g cdg A out s H E0
theorem pe_actN {X : Cx} {pins : List (Addr × Obj)} {σ : L2.St} {H : Hp} {s : Shared} {Ng : List Str} {qg : Str} {sg : Scope} {g f c' : Addr} {cdg pm ctv : Value} {params : Arguments} {body : Expr} {scope : Scope} {k : Nat} {a : Str} {pn : List (Addr × Obj)} {xe : Value → Shared → Prop} {E : XK} {t : XK → TE} {p1 p2 : Pos}
    (I : Inv X pins σ H s) (L : LamX.LamS X.env.scope scope) (hf : s.heap.get? f = some (PySem.W.kla_obj "<lambda>" (X.env.qual ++ "<lambda>") params body scope (cloFrom X.env.cells scope.names []) pm c' ctv)) (hfn : H f = none) (hfr : f ∉ frs X.stack)
    (hbind : bindArgs (PySem.W.kla_fn "<lambda>" (X.env.qual ++ "<lambda>") params body scope (cloFrom X.env.cells scope.names []) pm (.ref c') ctv) ⟨[], []⟩ = pure [])
    (hx : Passes (L2N.CX X.prog X.w) ((gotCx X.prog X.w X.K X.mg X.base Ng qg sg g cdg X.A X.stack s H).tr pn xe) E) (hr : Room (k + 1) (X.A.deeper (envOfC qg sg s.heap.objs.size g cdg))) (hgd : X.A.guards = some [])
    (hbody : ∀ (A : Around) (out : List Env) (s : Shared) (H : Hp), Room k (A.deeper (LamX.lamEnv X scope s.heap.objs.size f c')) → (A.deeper (LamX.lamEnv X scope s.heap.objs.size f c')).guards = some [] → PE (lamCxN X A out s H E scope f c') body (t E))
    (hN : Ng[0]? = some a) (hv : Vis sg a) (hd : (a == ("__debug__" : Str)) = false := by decide) (hcd : (a == ("__classdict__" : Str)) = false := by decide) :
    PE ((gotCx X.prog X.w X.K X.mg X.base Ng qg sg g cdg X.A X.stack s H).tr pn xe) (.Call (.Name a p1) [] [] p2) (tAct f c' (X.env.qual ++ "<lambda>") (fun E H' Q' => t E σ H' Q') E) := by
  refine ⟨fun pinsZ sZ σZ HZ Q IZ h => ?_⟩
  obtain ⟨hs, hc, ht⟩ := h
  refine wpAny_Call_Name_kw (thn ((pe_var (pos := p1) (i := 0) hN hv hd hcd).run pinsZ sZ σZ HZ (fun v H1 => v = .ref f ∧ H1 = HZ) IZ ⟨.ref f, hs, rfl, rfl⟩) fun u s1 ⟨v, H1, I1, r1, q1⟩ => ?_)
  obtain ⟨rfl, rfl⟩ := q1
  obtain rfl : u = Value.ref f := r1
  have of1 := I1.base.keep f _ hf hfn hfr (fun z => nomatch (show f ∈ ([] : List Addr) from z))
  refine PySem.W.callWith_F0 ⟨_, _, _, _, of1⟩ ?_
  have un : Un (frs X.stack) [] H H1 s.heap s1.heap := I1.base
  obtain ⟨⟨oc, vs, tk, hoc, hdc, hvc⟩, _, _⟩ := I1.hok c' _ hc
  have rc : codeAny (model X.prog X.w) (X.A.deeper (envOfC qg sg s.heap.objs.size g cdg)) (.call (.ref f) ⟨[], []⟩) (CR (L2N.CX X.prog X.w) (envOfC qg sg s.heap.objs.size g cdg :: X.stack) X.prog X.w H1 s1 Q E) s1 := by
    refine PySem.W.kla_callFunE hr.depth of1 rfl L.co L.gen rfl ⟨c', oc, vs, tk, rfl, hoc, hdc, hvc⟩ ?_
    rw [hbind]
    refine wpAny_pure (wpAny_newFunctionEnv (fun y hy => (L.own y hy).2) (fun y hy => absurd hy (by simp)) (fun h₁ hns hsb => ⟨I1.nolimit.fresh _ hsb, ?_⟩) L.kind)
    have kp : ∀ b o, s1.heap.get? b = some o → h₁.get? b = some o := fun b o e => hsb.extBut b o (Nat.ne_of_lt (Heap.lt_size e)) (Heap.get?_push_of_some _ e)
    have J : Inv (lamCxN X (X.A.deeper (envOfC qg sg s.heap.objs.size g cdg)) (envOfC qg sg s.heap.objs.size g cdg :: X.stack) s1 H1 E scope f c') [] σ H1 { s1 with heap := h₁, toks := s1.toks + ([] : List (Str × Value)).length } :=
      lam_startN I L I1.env0 hr.hd un hns kp
    refine PySem.W.kla_codeExpr (wpAny_mono ((hbody _ _ s1 H1 (hr.deeper _) hgd).run [] _ _ H1 Q J ht) (fun v s' hq => ?_) fun e s' hq => hq)
    obtain ⟨w', H', J', rv, q⟩ := hq
    exact ⟨w', H', J'.os, J'.bare, J'.base, J'.hok, rv, q⟩
  refine wpAny_call (codeAny_mono rc fun r s' hq => ?_)
  cases r with
  | error e => exact hx pinsZ σZ H1 s1 e s' I1 hq
  | ok fl =>
    cases fl with
    | ret u => exact I1.after hq
    | next => exact False.elim hq
    | brk => exact False.elim hq
    | cont => exact False.elim hq
/-- the def that calls what it got, by the name a: TT is what it makes of the lambda's reading -/
def GivesN (P : Program) (w : World) (K : PySem.W.Frag) (mg : Str → Option Value) (base : Heap) (k : Nat) (Ng : List Str) (x : Str) (sg : Scope) (g : Addr) (cdg : Value) (bg : List Stmt) (a : Str) (TT : (XK → Hp → VK → Prop) → Hp → VK → Prop) : Prop :=
  ∀ (A : Around) (out : List Env) (s : Shared) (H : Hp) (Q : VK) (tl : XK → Hp → VK → Prop) (f c' : Addr) (q : Str), Room k (A.deeper (envOfC x sg s.heap.objs.size g cdg)) → (A.deeper (envOfC x sg s.heap.objs.size g cdg)).guards = some [] →
    (∀ (pn : List (Addr × Obj)) (xe : Value → Shared → Prop) (E : XK) (p1 p2 : Pos), Passes (L2N.CX P w) ((gotCx P w K mg base Ng x sg g cdg A out s H).tr pn xe) E → PE ((gotCx P w K mg base Ng x sg g cdg A out s H).tr pn xe) (.Call (.Name a p1) [] [] p2) (tAct f c' q tl E)) →
    H c' = some (LamX.CodeO c' q) → TT tl H Q → ∃ t, PSs (gotCx P w K mg base Ng x sg g cdg A out s H).nox bg t ∧ t { nx := fun _ H' => Q .non H', rt := Q } (L2.start Ng [.ref f]) H
/-- what a caller knows of such a def -/
structure FnLam (P : Program) (w : World) (K : PySem.W.Frag) (mg : Str → Option Value) (base : Heap) (k : Nat) (g : Addr) (fd : FuncData) (x a : Str) (TT : (XK → Hp → VK → Prop) → Hp → VK → Prop) : Prop where
  ex : ∃ (oc : Value) (od : Option Addr) (pg : Arguments) (bg : List Stmt) (sg : Scope) (dV kV doc pm : Value) (an : Option Addr) (cdv ct : Value) (osl : Array (Option Value)) (Ng : List Str), fd = PySem.W.fnOf x x pg bg sg dV kV doc pm an cdv ct ∧ K.lookup g = some ⟨oc, od, .func fd, osl⟩ ∧ PySem.W.codeIn K cdv x = true ∧
    FnScope Ng [a] sg ∧ Ng[0]? = some a ∧ Vis sg a ∧ GivesN P w K mg base k Ng x sg g cdv bg a TT
theorem fnLam {P : Program} {w : World} {K : PySem.W.Frag} {mg : Str → Option Value} {base : Heap} {k : Nat} {g : Addr} {fd : FuncData} {x a : Str} {st : Stmt} {Ng : List Str} {TT : (XK → Hp → VK → Prop) → Hp → VK → Prop} (F : L2.Fun K x x st g fd) (S : FnScope Ng [a] (defScope st)) (hN : Ng[0]? = some a) (hv : Vis (defScope st) a)
    (h : ∀ (cdv : Value), GivesN P w K mg base k Ng x (defScope st) g cdv (defBody st) a TT) : FnLam P w K mg base k g fd x a TT := by
  obtain ⟨oc, od, kV, doc, pm, an, cdv, ct, osl, rfl, lk, hcd⟩ := F.ex
  exact ⟨⟨oc, od, _, _, _, _, kV, doc, pm, an, cdv, ct, osl, Ng, rfl, lk, hcd, S, hN, hv, h cdv⟩⟩
theorem FnLam.up {P : Program} {w : World} {K : PySem.W.Frag} {mg : Str → Option Value} {base : Heap} {k k' : Nat} {g : Addr} {fd : FuncData} {x a : Str} {TT : (XK → Hp → VK → Prop) → Hp → VK → Prop} (F : FnLam P w K mg base k g fd x a TT) (h : k ≤ k') : FnLam P w K mg base k' g fd x a TT := by
  obtain ⟨oc, od, pg, bg, sg, dV, kV, doc, pm, an, cdv, ct, osl, Ng, e1, e2, e3, e4, e5, e6, hG⟩ := F.ex
  exact ⟨⟨oc, od, pg, bg, sg, dV, kV, doc, pm, an, cdv, ct, osl, Ng, e1, e2, e3, e4, e5, e6, fun A out s H Q tl f c' q hr => hG A out s H Q tl f c' q (hr.mono h)⟩⟩
def tLamN [Tb] (TT : (XK → Hp → VK → Prop) → Hp → VK → Prop) (t : XK → TE) : TE := fun σ H Q => LamX.Tabs Tb.t H ∧ ∀ H1, LamX.ExtN H H1 → LamX.Tabs Tb.t H1 → TT (fun E H' Q' => t E σ H' Q') H1 Q
section
variable {X : Cx}
/-- x(lambda: body) -/
theorem pe_lamN [Tb] {TT : (XK → Hp → VK → Prop) → Hp → VK → Prop} {x a : Str} {g c P : Addr} {k : Nat} {fd : FuncData} {params : Arguments} {body : Expr} {scope : Scope} {t : XK → TE} {p lpos pos : Pos} (F : FnLam X.prog X.w X.K X.mg X.base (k + 1) g fd x a TT) (hg : Gl X x) (hm : X.mg x = some (.ref g)) (hk : PySem.W.keepIn X.K (.ref g) = true)
    (hb : L2.Binds X.K fd [a] []) (TB : LamX.TabB X.base X.mg c P) (hcode : X.env.code = .ref c) (hmT : (P, X.env.qual ++ "<lambda>") ∈ Tb.t) (hu : ∀ p ∈ Tb.t, p.1 = P → p.2 = X.env.qual ++ "<lambda>") (hr : Room (k + 2) X.A) (hgd : X.A.guards = some []) (L : LamX.LamS X.env.scope scope) (hdef : defaultsOf params X.env = ([], []))
    (hbind : ∀ (q : Str) (cl : List (Str × Addr)) (pm cv ctv : Value), bindArgs (PySem.W.kla_fn "<lambda>" q params body scope cl pm cv ctv) ⟨[], []⟩ = pure [])
    (hbody : ∀ (A : Around) (out : List Env) (s : Shared) (H : Hp) (E : XK) (f c' : Addr), Room k (A.deeper (LamX.lamEnv X scope s.heap.objs.size f c')) → (A.deeper (LamX.lamEnv X scope s.heap.objs.size f c')).guards = some [] → PE (lamCxN X A out s H E scope f c') body (t E))
    (hdb : (x == ("__debug__" : Str)) = false := by decide) (hd : (a == ("__debug__" : Str)) = false := by decide) (hcd : (a == ("__classdict__" : Str)) = false := by decide) :
    PE X (.Call (.Name x p) [.Lambda params body scope lpos] [] pos) (tLamN TT t) := by
  obtain ⟨oc, od, pg, bg, sg, dV, kV, doc, pm, an, cdv, ct, osl, Ng, rfl, lk, hcg, Sg, hNg, hva, hG⟩ := F.ex
  refine ⟨fun pins s σ H Q I h => ?_⟩
  obtain ⟨hT, h⟩ := h
  refine wpAny_Call_Name_kw (ld_glob I hg hm ?_ hdb)
  refine PySem.W.callWith_K (h₀ := X.base) I.ok.mod.kin hk ?_ (by rfl) (by rfl)
  show wpAny _ _ (spliced ((false, eval (.Lambda params body scope lpos) X.env) :: backTo pos (starEach [] X.env))) _ _ s
  refine Calls.spliced_cons (LamX.lam_make2 I TB hcode hmT hu hT hdef (L.has I.ok) fun f c' pm' ctv H1 s' I1 eN T1 hf hfn hfr hco => ?_)
  refine Calls.spliced_nil ⟨I1.kIn, ?_⟩
  have rc : codeAny (model X.prog X.w) X.A (.call (.ref g) ⟨[.ref f], []⟩) (CR CX0 X.stack X.prog X.w H1 s' Q E0) s' := by
    refine LamX.run_ofS (N := Ng) (ps := [a]) (us := [.ref f]) (vs := [.ref f]) lk hcg Sg hr I1.env0 (hb s' [.ref f] I1.kIn rfl) (.cons rfl .nil) rfl fun hr' => ?_
    obtain ⟨t', ht', hq'⟩ := hG X.A X.stack s' H1 Q (fun E H' Q' => t E σ H' Q') f c' _ hr' hgd (fun pn xe E p1 p2 hx => pe_actN I1 L hf hfn hfr (hbind _ _ _ _ _) hx hr' hgd (fun A out s H hr2 hg2 => hbody A out s H E f c' hr2 hg2) hNg hva hd hcd) hco (h H1 eN T1)
    exact ⟨t', ht'.nox, hq'⟩
  refine wpAny_call (codeAny_mono rc fun r s2 hq => ?_)
  cases r with
  | error e => exact (show False from hq).elim
  | ok fl =>
    cases fl with
    | ret u => exact I1.after hq
    | next => exact False.elim hq
    | brk => exact False.elim hq
    | cont => exact False.elim hq
end
section
variable [Tb] {K : PySem.W.Frag} {σ σ' : L2.St} {G G' M M1 M2 M3 : Hp} {ta tb te tc : TE} {P P1 P2 : VP} {D : Ends} {H : Hp} {u : TS} {E : XK}
/-- the lambda's reading: it tells r -/
def LamR (K : PySem.W.Frag) (tl : XK → Hp → VK → Prop) (G M : Hp) (r : Unit ⊕ Ex) : Prop := ∀ (E : XK) (G0 H : Hp), Same G G0 → Ok G0 M H → ∀ Q : VK, (r = .inl () → ∀ v G1 H1, Same G0 G1 → Ok G1 M H1 → Q v H1) →
  (∀ x, r = .inr x → ∀ d G1 H1, Same G0 G1 → Ok G1 M H1 → ExcD K G1 d x → E (.ref (clsAt K x.1)) d H1) → tl E H Q
theorem LamR.up {tl : XK → Hp → VK → Prop} {r : Unit ⊕ Ex} (h : LamR K tl G M r) (s : Same G G') : LamR K tl G' M r := fun E G0 H s1 => h E G0 H (s.trans s1)
def spL {ρ : Type} (K : PySem.W.Frag) (m : (Unit ⊕ Ex) → Option ρ) (res : ρ → VP) : (XK → Hp → VK → Prop) → Hp → VK → Prop := fun tl H Q =>
  ∃ (G M : Hp) (r : Unit ⊕ Ex) (y : ρ), Ok G M H ∧ LamR K tl G M r ∧ m r = some y ∧ ∀ v G' H', Same G G' → Ok G' M H' → res y v G' → Q v H'
def outU {ρ : Type} : ρ ⊕ Ex → Unit ⊕ Ex
  | .inl _ => .inl ()
  | .inr x => .inr x
theorem ok_ext (k : Ok G M H) {H1 : Hp} (e : LamX.ExtN H H1) (t : LamX.Tabs Tb.t H1) : Ok G M H1 :=
  ⟨fun a o h => e a o (k.g a o h) fun ps z => (by subst z; exact (k.tb.n a _ h).elim), fun a o h => e a o (k.m a o h) fun ps z => (by subst z; exact (k.mu a _ h).elim), k.d, k.mu, ⟨t, k.tb.n⟩⟩
theorem ev_lam {ρ τ : Type} {m : (Unit ⊕ Ex) → Option ρ} {res : ρ → VP} {res0 : τ → VP} {t : XK → TE} {r : τ ⊕ Ex} {y : ρ} (hm : m (outU r) = some y) (h : ∀ E, EvR K (t E) σ G M M E r res0) : Ev (tLamN (spL K m res) t) σ G M M (res y) := fun G0 H s k Q q =>
  ⟨k.tb.t, fun H1 e T1 => ⟨G0, M, outU r, y, ok_ext k e T1, fun E G2 H2 s2 k2 Q2 q1 q2 => h E G2 H2 (s.trans s2) k2 Q2 (fun z ez v G3 H3 s3 k3 _ => q1 (by rw [ez]; rfl) v G3 H3 s3 k3) fun x ex d G3 H3 s3 k3 hd => q2 x (by rw [ex]; rfl) d G3 H3 s3 k3 hd, hm, fun v G2 H2 s2 k2 hv => q v G2 H2 s2 k2 hv⟩⟩
theorem codeO_no {c : Addr} {q : Str} : NoTbl (LamX.CodeO c q) := by unfold LamX.CodeO; exact trivial
theorem adoptC {c : Addr} {q : Str} (hc : H c = some (LamX.CodeO c q)) (k : Ok G M H) : ∃ G', Same G G' ∧ Ok G' M H ∧ G' c = some (LamX.CodeO c q) := by
  have hM : M c = none := by
    cases e : M c with
    | none => rfl
    | some o =>
      have h1 := k.m _ _ e
      rw [hc] at h1
      have h2 := k.mu _ _ e
      rw [← Option.some.inj h1] at h2
      unfold LamX.CodeO at h2
      exact h2.elim
  refine ⟨upd G c (LamX.CodeO c q), fun a o e => ?_, ⟨fun a o e => ?_, k.m, fun a o e => ?_, k.mu, tb_G k.tb codeO_no⟩, upd_same⟩
  · by_cases h : a = c
    · subst h
      rw [upd_same, ← hc]
      exact k.g _ _ e
    · rw [upd_ne h]; exact e
  · by_cases h : a = c
    · subst h
      rw [upd_same] at e
      rw [hc]
      exact e
    · rw [upd_ne h] at e; exact k.g _ _ e
  · have h : a ≠ c := fun z => by subst z; rw [hM] at e; cases e
    rw [upd_ne h]
    exact k.d _ _ e
/-- act() -/
theorem evr_act {f c : Addr} {q : Str} {tl : XK → Hp → VK → Prop} {r : Unit ⊕ Ex} (hl : LamR K tl G M r) (h0 : σ[0]? = some (some (.ref f))) (hc : G c = some (LamX.CodeO c q)) : EvR K (tAct f c q tl E) σ G M M E r (fun _ _ _ => True) := fun G0 H s k Q q1 q2 =>
  ⟨h0, k.g _ _ (s _ _ hc), hl E G0 H s k Q (fun e v G1 H1 s1 k1 => q1 () e v G1 H1 s1 k1 trivial) q2⟩
end
end Kx
end
section
set_option maxHeartbeats 2000000
namespace Kx
open PySem PySem.Spec PyProof.Rows L2
/-- the rule for a def of the text whose code object is told: it makes lambdas -/
theorem okGc {P : Program} {w : World} {K : PySem.W.Frag} {mg : Str → Option Value} {base : Heap} {k : Nat} {f c : Addr} {fd : FuncData} {ps : List Str} {sp : Sp} {x qual : Str} {st : Stmt} {N : List Str} (F : L2.Fun K x qual st f fd) (hc : fd.code = .ref c) (S : FnScope N ps (defScope st)) (len : ∀ vs H Q E, sp vs H Q E → vs.length = ps.length)
    (hb : ∀ (A : Around) (out : List Env) (s : Shared) (H : Hp) (vs : List V) (Q : VK) (E : XK), Room k (A.deeper (envOfC qual (defScope st) s.heap.objs.size f (.ref c))) → (A.deeper (envOfC qual (defScope st) s.heap.objs.size f (.ref c))).guards = some [] → sp vs H Q E →
      ∃ t, PSs (cxOf CX0 P w K mg base N qual (defScope st) f (.ref c) A out s H E).nox (defBody st) t ∧ t { nx := fun _ H' => Q .non H', rt := Q } (start N vs) H) : FnOkG P w K mg base CX0 (k + 1) f fd ps sp := by
  obtain ⟨oc, od, kV, doc, pm, an, cdv, ct, osl, rfl, lk, hcd⟩ := F.ex
  have hc : cdv = .ref c := hc
  subst hc
  refine ⟨len, fun A out s H ar us vs Q E hgd hr en hbt rel hsp => ?_⟩
  have old : ∀ b o, base.get? b = some o → s.heap.get? b = some o := fun b o e => (en.bs b o e).1
  have kin : K.In s.heap := en.mod.kin.keeps old
  obtain ⟨t, ht, hq⟩ := hb A out s H vs Q E (hr.deeper _) (by show A.guards = some []; exact hgd) hsp
  refine codeAny_call_function hr.depth (kin _ _ lk) rfl S.co S.gen rfl (PySem.W.codeRec_of kin hcd) (hbt _ _ _ _ (wpAny_newFunctionEnv_cells S.kind (fun ⟨n, v⟩ hy => ?_) fun env he s1 x => ?_))
  · rcases S.par n (List.of_mem_zip hy).1 with c | c
    · exact .inl c
    · exact .inr ⟨c, PySem.W.cellsFrom_some _ _ _ (.inl c)⟩
  · subst he
    refine ⟨(en.mod.nolimit.keeps old).keeps x.toInCall.keep, codeAny_func ?_⟩
    refine wpAny_mono (ht.nox.run [] s1 (start N vs) H _ (inv_start S hr.hd en (len _ _ _ _ hsp) rel x) hq) (fun fl s' hs => ?_) fun _ _ hs => hs
    cases fl with
    | ret u => exact (fun ⟨v, _, H', J, rv, q⟩ => ⟨v, H', J.os, J.bare, J.base, J.hok, rv, q⟩) hs
    | next => exact (fun ⟨_, H', J, q⟩ => ⟨V.non, H', J.os, J.bare, J.base, J.hok, rfl, q⟩) hs
    | brk => exact (fun ⟨_, _, _, q⟩ => q.elim) hs
    | cont => exact (fun ⟨_, _, _, q⟩ => q.elim) hs
/-- the start: the script, the empty tables -/
theorem start_ok [Tb] {K : PySem.W.Frag} {H : Hp} {a : Addr} {xs : List V} (hT : ∀ p ∈ Tb.t, H p.1 = some (.tbl #[])) (hS : SqL K H a xs) : ∃ G, Ok G (fun _ => none) H ∧ SqL K G a xs := by
  refine ⟨fun b => match H b with | some (.tbl _) => none | o => o, ⟨fun b o e => ?_, fun _ _ h => (by cases h), fun _ _ h => (by cases h), fun _ _ h => (by cases h), ⟨fun p hp => LamX.TabS.nil (hT p hp), fun b o e => ?_⟩⟩, ?_⟩
  · split at e
    · cases e
    · exact e
  · split at e
    · cases e
    · next h => cases o <;> first | exact trivial | exact (h _ e).elim
  · rcases hS with (h | ⟨o, h⟩) | h
    · refine .inl (.inl ?_)
      show (match H a with | some (.tbl _) => none | o => o) = _
      rw [h]
    · refine .inl (.inr ⟨o, ?_⟩)
      show (match H a with | some (.tbl _) => none | o => o) = _
      rw [h]
    · exact .inr h
/-! ### the law's end, with tables of code objects, from a promise that asks for no guards -/
theorem caller_runT {P : Program} {w : World} {K : PySem.W.Frag} {mg mb : Str → Option Value} {CX : CXT} {k : Nat} {fa a : Addr} {fd : FuncData} {x : Str} {sp : Sp} {s1 : Shared} {H : Hp} {o : Obj} {its : Array Value} {n0 : Nat} {cs : List (Addr × Addr)}
    (kx : K.In s1.heap) (gl : s1.heap.Ns mainGlobals mg) (bl : s1.heap.Ns builtinsNs mb) (bb : ∀ x : Str, x ≠ "__name__" → mb x = bootBuiltins x) (lim : s1.heap.NoLimit) (gn : s1.gens = #[]) (ha : s1.heap.get? a = some o) (hod : o.data = .seq its n0)
    (hT : ∀ p ∈ cs, s1.heap.get? p.2 = some { cls := .none, data := .fields #[] }) (nT : ∀ p ∈ cs, K.lookup p.2 = none) (hC : ∀ p ∈ cs, PySem.W.CodeHd s1.heap p.1 p.2)
    (hbm : ∃ (bm : Addr) (ob : Obj), mg "__builtins__" = some (.ref bm) ∧ bm ≠ builtinsNs ∧ s1.heap.get? bm = some ob ∧ ob.cls = .type "module" ∧ ob.dict = some builtinsNs ∧ ob.data = .plain)
    (hr : Room k callerA) (F : ∀ base : Heap, K.In base → base.Ns mainGlobals mg → (∀ p ∈ cs, LamX.TabB base mg p.1 p.2) → FnOkG P w K mg base CX k fa fd [x] sp) (bd : ∀ (s : Shared) (u : Value), BindsTo s fd ⟨[u], []⟩ [(x, u)])
    (ok : HOk P w H s1.heap) (onl : ∀ b, H b ≠ none → b = a ∨ b ∈ cs.map (·.2)) (own : H a ≠ none → K.lookup a = none) (q : sp [.ref a] H (fun v _ => v = .bl true) fun _ _ _ => False) :
    codeAny (model P w) callerA (.call (.ref fa) ⟨[.ref a], []⟩) (CR CX [] P w H s1 (fun v _ => v = .bl true) fun _ _ _ => False) s1 := by
  have hid : ∀ {b : Addr} {u : Obj}, s1.heap.get? b = some u → H b = none → (hidT s1.heap H).get? b = some u := fun e n => hidT_get e n
  have tab : ∀ {b : Addr}, b ∈ cs.map (·.2) → s1.heap.get? b = some { cls := .none, data := .fields #[] } := fun {b} hb => by
    obtain ⟨p, hp, rfl⟩ := List.mem_map.mp hb
    exact hT p hp
  have free : ∀ {b : Addr} {u : Obj}, s1.heap.get? b = some u → (∀ its n, u.data ≠ .seq its n) → u.data ≠ .fields #[] → H b = none := fun {b u} e h1 h2 => by
    cases z : H b with
    | none => rfl
    | some v =>
      rcases onl b (by rw [z]; exact Option.some_ne_none v) with y | y
      · subst y
        rw [ha] at e
        cases e
        exact (h1 _ _ hod).elim
      · rw [tab y] at e
        cases e
        exact (h2 rfl).elim
  have dict : ∀ {b : Addr} {u : Obj} {es : Array DictEntry} {m : Nat}, s1.heap.get? b = some u → u.data = .dict es m → H b = none := fun {b u es m} e d => free e (fun _ _ z => by rw [d] at z; cases z) fun z => by rw [d] at z; cases z
  have ns : ∀ {b : Addr} {m : Str → Option Value}, s1.heap.Ns b m → (hidT s1.heap H).Ns b m := fun ⟨u, es, m, e, d, r⟩ => ⟨u, es, m, hid e (dict e d), d, r⟩
  have kb : K.In (hidT s1.heap H) := fun b u e => hid (kx b u e) (by
    cases z : H b with
    | none => rfl
    | some v =>
      rcases onl b (by rw [z]; exact Option.some_ne_none v) with y | y
      · subst y
        rw [own (by rw [z]; exact Option.some_ne_none v)] at e
        cases e
      · obtain ⟨p, hp, rfl⟩ := List.mem_map.mp y
        rw [nT p hp] at e
        cases e)
  have hB : ∀ p ∈ cs, LamX.TabB (hidT s1.heap H) mg p.1 p.2 := fun p hp => by
    refine ⟨?_, ?_, fun z => ?_⟩
    · obtain ⟨u, us, file, tf, flags, tg, inF, text, tt, e1, r1, r2, r3, r4, r5, r6, r7, r8, hne⟩ := hC p hp
      refine ⟨u, us, file, tf, flags, tg, inF, text, tt, hid e1 (free e1 (fun _ _ z => by rw [r2] at z; cases z) fun z => ?_), r1, r2, r3, r4, r5, r6, r7, r8, hne⟩
      rw [r2] at z
      cases z
      simp at r3
    · obtain ⟨bm, ob, b1, b2, b3, b4, b5, b6⟩ := hbm
      refine ⟨bm, ob, b1, b2, fun z => ?_, fun z => ?_, hid b3 (free b3 (fun _ _ z => by rw [b6] at z; cases z) fun z => by rw [b6] at z; cases z), b4, b5, b6⟩
      · obtain ⟨u, es, ep, e, hd, _⟩ := gl
        rw [z, e] at b3
        cases b3
        rw [hd] at b6
        cases b6
      · rw [z, hT p hp] at b3
        cases b3
        cases b6
    · obtain ⟨u, es, ep, e, hd, _⟩ := gl
      rw [z, hT p hp] at e
      cases e
      cases hd
  obtain ⟨mc, l1, l2⟩ := lim
  exact (F _ kb (ns gl) hB).run callerA [] s1 H ⟨[.ref a], []⟩ [.ref a] [.ref a] _ _ rfl hr
    ⟨rfl, ⟨kb, ns gl, ⟨mb, ns bl, bb⟩, ⟨mc, ns l1, l2⟩⟩, fun b u e => of_hidT e, Nat.le_of_eq (hidT_size _ _), trivial, fun b hb => absurd (show b ∈ ([] : List Addr) from hb) (by simp), ok, .of_eq gn⟩ (bd s1 (.ref a)) (.cons rfl .nil) q
/-- what is told of the law's def at the head's heap -/
def LawTab (l : PySem.W.OpenLaw) (w : World) (K : PySem.W.Frag) (k n : Nat) (x : Str) (mg : Str → Option Value) (fa : Addr) (h : Heap) : Prop :=
  ∃ (fd : FuncData) (cs : List (Addr × Addr)) (sp : Sp), (∀ p ∈ cs, h.get? p.2 = some { cls := .none, data := .fields #[] }) ∧ (∀ p ∈ cs, K.lookup p.2 = none) ∧ (∀ p ∈ cs, PySem.W.CodeHd h p.1 p.2) ∧ (∀ (s : Shared) (u : Value), BindsTo s fd ⟨[u], []⟩ [(x, u)]) ∧
    (∀ (H : Hp) (a : Addr) (ns : List Int), ns.length ≤ n → (∀ p ∈ cs, H p.2 = some (.tbl #[])) → SqL K H a (ns.map V.int) → sp [.ref a] H (fun v _ => v = .bl true) fun _ _ _ => False) ∧
    ∀ base : Heap, K.In base → base.Ns mainGlobals mg → (∀ p ∈ cs, LamX.TabB base mg p.1 p.2) → FnOkG l.prog w K mg base CX0 k fa fd [x] sp
theorem walk_ofTX {l : PySem.W.OpenLaw} {n k : Nat} {q : Program} {loose : List Str} {XP : (Str → Option Value) → Heap → Prop} {YP : World → Heap → Prop} {d : DefRec} {x : Str}
    (hn : l.most = some n) (hn2 : n ≤ sizeLine) (hdf : d.params.defaults = []) (hr : Room k callerA)
    (F : ∀ (w : World) (mg : Str → Option Value) (fa : Addr) (h : Heap), YP w h → h.Ns mainGlobals mg → mg d.name = some (.ref fa) → ∃ K : PySem.W.Frag, K.In h ∧ LawTab l w K k n x mg fa h) :
    PySem.W.WalkO q loose XP YP l.row.toRowW d [] (fun f vs => PySem.call f vs) := by
  refine Att.attach_call hn hdf fun w s0 s1 mg mb fa o pm cd doc a vs ns G Y ho hd hcd hmg hobj hints hlen hg => ?_
  obtain ⟨K, kx, fd, cs, sp, hT, nT, hC, hb, hsp, hF⟩ := F w mg fa _ Y G.T.g hmg
  have lv : vs.length = ns.length := hints.length
  have lz : ns.length ≤ sizeLine := Nat.le_trans hlen hn2
  have tab : ∀ {b : Addr}, b ∈ cs.map (·.2) → s1.heap.get? b = some { cls := .none, data := .fields #[] } := fun {b} hb => by
    obtain ⟨p, hp, rfl⟩ := List.mem_map.mp hb
    exact hT p hp
  have aT : a ∉ cs.map (·.2) := fun z => by
    have e := tab z
    rw [hobj] at e
    cases e
  have memT : ∀ p ∈ cs, p.2 ∈ cs.map (·.2) := fun p hp => List.mem_map.mpr ⟨p, hp, rfl⟩
  have fin : ∀ H : Hp, HOk l.prog w H s1.heap → (∀ b, H b ≠ none → b = a ∨ b ∈ cs.map (·.2)) → (H a ≠ none → K.lookup a = none) → SqL K H a (ns.map V.int) → (∀ p ∈ cs, H p.2 = some (.tbl #[])) → (∀ b, H b ≠ none → b ∉ cs.map (·.2) → H b = some (.frz { cls := .type "list", data := .seq vs.toArray } (.lst (ns.map V.int)))) →
      codeAny (model l.prog w) callerA (.call (.ref fa) ⟨[.ref a], []⟩) (fun r s' => r = .ok (.ret (.bool true)) ∧ OldK s1.heap s'.heap ∧ s'.os = s1.os ∧ AllBare s'.gens) s1 := by
    intro H ok onl own hS hH hf
    refine codeAny_mono (caller_runT kx G.T.g G.T.b G.T.builtins G.T.nolimit hg hobj rfl hT nT hC G.T.bmain hr hF hb ok onl own (hsp H a ns hlen hH hS)) fun r s' h => ?_
    rcases r with e | fl
    · exact h.elim
    · cases fl with
      | next => exact h.elim
      | brk => exact h.elim
      | cont => exact h.elim
      | ret u =>
        obtain ⟨v, H2, os, bare, un, ok2, rv, rfl⟩ := h
        have eu : u = Value.bool true := rv
        have key : ∀ b ob, b ∉ cs.map (·.2) → s1.heap.get? b = some ob → s'.heap.get? b = some ob := fun b ob nb e => by
          by_cases hz : H b = none
          · exact un.keep b ob e hz (fun z => absurd (show b ∈ ([] : List Addr) from z) (by simp)) (by simp)
          · have z1 := hf b hz nb
            have z2 := (ok2 b _ (un.frzs b _ _ z1)).1
            have z3 := (ok b _ z1).1
            rw [e] at z3
            cases z3
            exact z2
        have grown : ∀ p ∈ cs, ∃ more : Array Value, s'.heap.get? p.2 = some { cls := .none, data := .fields more } := fun p hp => by
          obtain ⟨more, z⟩ := un.tbls p.2 #[] (hH p hp)
          exact ⟨_, ok2 p.2 _ z⟩
        refine ⟨by rw [eu], ⟨fun b ob e => ?_, fun b ob e => ?_⟩, os, bare⟩
        · by_cases hb : b ∈ cs.map (·.2)
          · obtain ⟨p, hp, rfl⟩ := List.mem_map.mp hb
            obtain ⟨more, hm⟩ := grown p hp
            rw [hT p hp] at e
            cases e
            exact .inr (.inl ⟨((hC p hp).tab (hT p hp)).isCodeTable, rfl, #[], more, rfl, by rw [Array.empty_append]; exact hm⟩)
          · exact .inl (key b ob hb e)
        · by_cases hb : b ∈ cs.map (·.2)
          · obtain ⟨p, hp, rfl⟩ := List.mem_map.mp hb
            obtain ⟨more, hm⟩ := grown p hp
            exact ⟨_, hm⟩
          · exact ⟨ob, key b ob hb e⟩
  by_cases hk : K.lookup a = none
  · refine fin (fun b => if b = a then some (.frz { cls := .type "list", data := .seq vs.toArray } (.lst (ns.map V.int))) else if b ∈ cs.map (·.2) then some (.tbl #[]) else none) (fun b u z => ?_) (fun b z => ?_) (fun _ => hk) (.inl (.inr ⟨_, if_pos rfl⟩)) (fun p hp => (if_neg (fun z => aT (by rw [← z]; exact memT p hp))).trans (if_pos (memT p hp))) fun b z nb => ?_
    · by_cases hb : b = a
      · subst hb
        have z2 := (if_pos rfl).symm.trans z
        cases z2
        exact ⟨hobj, by rw [List.length_map]; exact lz, vs, _, vals_ints hints, hobj⟩
      · have z1 := (if_neg hb).symm.trans z
        by_cases hb2 : b ∈ cs.map (·.2)
        · have z2 := (if_pos hb2).symm.trans z1
          cases z2
          exact tab hb2
        · have z2 := (if_neg hb2).symm.trans z1
          cases z2
    · by_cases hb : b = a
      · exact .inl hb
      · by_cases hb2 : b ∈ cs.map (·.2)
        · exact .inr hb2
        · exact absurd ((if_neg hb).trans (if_neg hb2)) z
    · by_cases hb : b = a
      · exact if_pos hb
      · exact absurd ((if_neg hb).trans (if_neg nb)) z
  · obtain ⟨u, hu⟩ := Option.ne_none_iff_exists'.mp hk
    have e := kx a u hu
    rw [hobj] at e
    cases e
    refine fin (fun b => if b ∈ cs.map (·.2) then some (.tbl #[]) else none) (fun b u z => ?_) (fun b z => ?_) (fun z => absurd (if_neg aT) z) (.inr ⟨_, vs.toArray, _, hu, rfl, rfl, rfl, by rw [List.size_toArray, lv]; exact lz, by simpa using vals_ints hints⟩) (fun p hp => if_pos (memT p hp)) fun b z nb => absurd (if_neg nb) z
    · by_cases hb2 : b ∈ cs.map (·.2)
      · have z2 := (if_pos hb2).symm.trans z
        cases z2
        exact tab hb2
      · have z2 := (if_neg hb2).symm.trans z
        cases z2
    · by_cases hb2 : b ∈ cs.map (·.2)
      · exact .inr hb2
      · exact absurd (if_neg hb2) z
end Kx
end
section
set_option maxHeartbeats 4000000
namespace Kx
open PySem PySem.W PySem.Calls PyProof.Rows PySem.HandSPX
section
open Builtin Builtin.ObjectAttr
variable {prog : Program} {w : World} {A : Around} {E : Value → Shared → Prop} {R : Result → Shared → Prop} {hp : Heap} {g : Array GenState} {d : Drawn} {t : Nat} {os : OsState}
/-- self.name = v on an exception with no dict as yet, whatever built-in class it stands over -/
theorem osa_any {K : W.Frag} {name : Str} {tk : Tok} {v : Value} {x C : Addr} {fv : Array Value} {cd : ClassData}
    (X : K.In hp) (hx : hp.get? x = some { cls := .ref C, data := .fields fv }) (hcd : W.clsIn K C = some cd) (hem : cd.mro.isEmpty = false) (hob : cd.mro.contains (.type "object") = true) (hps : ∀ self, refuseLoop self "__setattr__" cd.mro = pure ()) (hh : cd.hasDict = true) (ha : W.findIn K (.ref C) name = some none)
    (hq : ∀ h' tk' dx, (∀ b o, b ≠ x → hp.get? b = some o → h'.get? b = some o) → hp.objs.size ≤ dx → dx ≠ x → h'.get? x = some { cls := .ref C, dict := some dx, data := .fields fv } →
      h'.Ns1 dx (fun y => if y = name then some v else none) → R (.ok (.ret .none)) ⟨h', g, d, tk', os⟩) :
    codeAny (model prog w) A (.call (.builtin "object.__setattr__") ⟨[.ref x, .str name tk, v], []⟩) R ⟨hp, g, d, t, os⟩ := by
  have I : W.InstAt hp x { cls := .ref C, data := .fields fv } C none := ⟨hx, rfl, rfl, trivial⟩
  have SF := F.store_object
  have hxs : x ≠ hp.objs.size := Nat.ne_of_lt (Heap.lt_size hx)
  have sub : W.Looks (model prog w) hp (isInstance (.ref x) (.type "object")) true := I.type.andThen (W.looks_mroIn X (by unfold W.mroIn; rw [hcd, Option.bind_some, if_neg (by rw [hem]; decide), hob]))
  refine codeAny_call_builtin SF.slot.plain SF.entry (@W.check_slot (model prog w) _ _ ⟨hp, g, d, t, os⟩ "object.__setattr__" "object" "__setattr__" (.ref x) [.str name tk, v] [] _ SF.kind SF.split sub (SF.args (.ref x) (.str name tk) v) ?_)
  have hmr : W.Looks (model prog w) hp (mroOf (.ref C)) cd.mro := (W.looks_clsIn X hcd).andThen .now
  have L3 : W.Looks (model prog w) hp (storeTaker? none) none := .now
  have hcls : W.Looks (model prog w) hp (classData C) cd := W.looks_clsIn X hcd
  rw [W.osa_eq, refuse_eq]
  refine wpAny_bind (wpAny_bind (I.type.at (wpAny_bind (hmr.at ?_))))
  rw [hps]
  refine wpAny_pure (wpAny_bind (I.type.at (wpAny_bind ((W.looks_findIn X ha).at (wpAny_bind (L3.at ?_))))))
  show wpAny _ _ (storeInOwnDict (.ref x) (.ref C) (.str name tk) name v false) _ _ _
  obtain ⟨nm, bs, mro, ns, qn, hd, sn, sb, ab, col, del⟩ := cd
  dsimp only at hh
  subst hh
  unfold storeInOwnDict ownDictForStores
  repeat (first | with_reducible refine store_in_new ?_ ?_ | with_reducible refine wpAny_loadPart_at hx ?_ | with_reducible refine hcls.at ?_ | wp_step)
  · exact ⟨_, #[], _, (Heap.get?_update_ne _ _ _ _ hxs.symm).trans (Heap.get?_push_at rfl rfl), rfl, fun e he => absurd he (by simp), fun _ => rfl⟩
  · intro h' tk' hn' hs
    have hx₁ : (hp.push { cls := .type "dict", data := .dict #[] }).get? x = some { cls := .ref C, data := .fields fv } := Heap.get?_push_of_some _ hx
    refine hq h' tk' hp.objs.size (fun b o hb ho => ?_) (Nat.le_refl _) hxs.symm ?_ hn'
    · exact (hs.2 b (Nat.ne_of_lt (Heap.lt_size ho))).trans ((Heap.get?_update_ne _ _ _ _ hb).trans (Heap.get?_push_of_some _ ho))
    · exact (hs.2 x hxs).trans (Heap.get?_update_self _ hx₁ rfl)
end
end Kx
namespace Kx
open PySem PySem.Spec PyProof.Rows L2
/-- an own exception with an own __init__, over the built-in class whose __init__ is named j -/
structure OexG (K : PySem.W.Frag) (C : Addr) (j : String) : Prop where
  cls : ∃ nm q N bs bm sn sub ab col dd k0 k1 k2 k3 k5 B newId bmB, K.lookup C = some (excClassObj nm q C N bs bm true sn sub ab col dd k0 k1 k2 k3 k5 newId) ∧ ExcBaseFacts B newId j bmB ∧ (∀ X : String, bm.contains (.type X) = bmB.contains (.type X)) ∧ (∀ self, PySem.refuseLoop self "__setattr__" bm = pure ()) ∧ bm.contains (.type "object") = true
  sa : PySem.W.findIn K (.ref C) "__setattr__" = some (some (.builtin "object.__setattr__"))
  exC : PySem.W.subIn K (.ref C) (.type "BaseException") = some true
  tyC : PySem.W.typeIn K (.ref C) = some (.type "type")
  kC : PySem.W.keepIn K (.ref C) = true
theorem OexG.one {K : PySem.W.Frag} {C b : Addr} {B newId j : String} {bmB : List Value} {s1 s2 : String} (F : ExcBaseFacts B newId j bmB) (S : PySem.StoreFacts B bmB s1 s2) (ob : bmB.contains (.type "object") = true) {nm q N bs sn sub ab col dd k0 k1 k2 k3 k5} (e : K.lookup C = some (excClassObj nm q C N bs (.ref b :: bmB) true sn sub ab col dd k0 k1 k2 k3 k5 newId))
    (sa : PySem.W.findIn K (.ref C) "__setattr__" = some (some (.builtin "object.__setattr__"))) (exC : PySem.W.subIn K (.ref C) (.type "BaseException") = some true) (tyC : PySem.W.typeIn K (.ref C) = some (.type "type")) (kC : PySem.W.keepIn K (.ref C) = true) : OexG K C j :=
  ⟨⟨nm, q, N, bs, _, sn, sub, ab, col, dd, k0, k1, k2, k3, k5, B, newId, bmB, e, F, fun X => by rw [List.contains_cons]; rfl, fun self => by rw [PySem.refuseLoop_ref]; exact S.passes self, by rw [List.contains_cons, ob]; rfl⟩, sa, exC, tyC, kC⟩
section
variable {X : Cx} {pins : List (Addr × Obj)} {σ : L2.St} {H : Hp} {s : Shared} {a C dx : Addr} {f : Str} {y : V} {u : Value} {fs : List (Str × V)} {Q : Unit → Shared → Prop} {E : Value → Shared → Prop} {A : Around} {j : String}
/-- self.f = y -/
theorem ost_newG (T : OexG X.K C j) (I : Inv X pins σ H s) (e : H a = some (exo a C none)) (hno : PySem.W.findIn X.K (.ref C) f = some none) (ry : RelV y u)
    (h : ∀ dx s', H dx = none → dx ≠ a → Inv X pins σ (upd (upd H dx (exd dx [(f, y)])) a (exo a C (some dx))) s' → Q () s') : wpAny (model X.prog X.w) A (setAttr (.ref a) f u) Q E s := by
  obtain ⟨nm, q, N, bs, bm, sn, sub, ab, col, dd, k0, k1, k2, k3, k5, B, newId, bmB, hC, F, hT, hP, hO⟩ := T.cls
  have hcl : PySem.W.clsIn X.K C = some { name := nm, bases := bs, mro := .ref C :: bm, ns := N, qualname := q, hasDict := true, slotNames := sn, subclasses := sub, abstract := ab, collection := col, hasDel := false } := by unfold PySem.W.clsIn; rw [hC] <;> rfl
  obtain ⟨t1, ho⟩ := exo_at I.hok e
  obtain ⟨hp, g, d, t, os⟩ := s
  refine PySem.W.set_plain I.kIn (ox := { cls := .ref C, dict := none, data := .fields #[.ref t1, .none, .none, .none, .bool false, .none] }) (od := none) ⟨ho, rfl, rfl, trivial⟩ T.sa ?_
  refine osa_any I.kIn ho hcl rfl (by rw [List.contains_cons, hO, Bool.or_true]) (fun self => by rw [PySem.refuseLoop_ref]; exact hP self) rfl hno (fun h' tk' dx k dn dne hx hn => ?_)
  have hnd : H dx = none := I.hok.fresh dn
  have nd : ∀ {b : Addr} {o : Obj}, hp.get? b = some o → b ≠ dx := fun {b o} q => Nat.ne_of_lt (Nat.lt_of_lt_of_le (Heap.lt_size q) dn)
  have na : ∀ {b : Addr}, H b = none → b ≠ a := fun {b} n z => by
    rw [z, e] at n
    cases n
  have Un1 : Un X.fs [] H (upd (upd H dx (exd dx [(f, y)])) a (exo a C (some dx))) hp h' := {
    keep := fun b o q n _ _ => k b o (na n) q
    slot := fun b o q n _ _ => ⟨o.slots, k b o (na n) q⟩
    free := fun b o q n _ => by rw [upd_ne (na n), upd_ne (nd q)]; exact n
    there := fun b o q _ => by
      by_cases hb : b = a
      · exact ⟨_, by rw [hb]; exact hx⟩
      · exact ⟨o, k b o hb q⟩
    tups := fun b xs q => by rw [upd_ne (at_ne e q exo_tup), upd_ne (ne_of_none q hnd)]; exact q
    frzs := fun b o v q => by rw [upd_ne (at_ne e q exo_frz), upd_ne (ne_of_none q hnd)]; exact q
    tbls := fun b ps q => ⟨#[], by rw [upd_ne (at_ne e q exo_tbl), upd_ne (ne_of_none q hnd), q]; simp⟩ }
  refine h dx _ hnd dne (I.un (t' := tk') Un1 fun b o q => ?_)
  by_cases hb : b = a
  · subst hb
    rw [upd_same] at q
    cases q
    exact exo_ok hx
  · rw [upd_ne hb] at q
    by_cases hd : b = dx
    · subst hd
      rw [upd_same] at q
      cases q
      exact exd_ok hn (relO_put (fs := []) ry fun g => True.intro)
    · rw [upd_ne hd] at q
      exact (I.hok b o q).stay (fun c v hc z => k c v (by
          rcases hc with hc | hc
          · rw [hc]
            exact hb
          · exact at_ne e hc exo_own) z)
        (fun c hc => by rw [upd_ne (at_ne e hc exo_own), upd_ne (ne_of_none hc hnd)]; exact hc) (fun c xs hc => by rw [upd_ne (at_ne e hc exo_tup), upd_ne (ne_of_none hc hnd)]; exact hc)
theorem oinit_okG {us : List Value} {Q : Value → Shared → Prop} (T : OexG X.K C j) (I : Inv X pins σ H s) (e : H a = some (exo a C none)) (hl : us.length ≤ sizeLine) (h : ∀ s', Inv X pins σ H s' → Q .none s') :
    wpAny (model X.prog X.w) A (call (.builtin j) (.ref a :: us)) Q E s := by
  obtain ⟨nm, q, N, bs, bm, sn, sub, ab, col, dd, k0, k1, k2, k3, k5, B, newId, bmB, hC, F, hT, hP, hO⟩ := T.cls
  obtain ⟨t1, ho⟩ := exo_at I.hok e
  obtain ⟨hp, g, d, t, os⟩ := s
  refine wpAny_call (PySem.HandSPX.init_base F hT (I.kIn _ _ hC) ho hl fun h' t2 k hx => ?_)
  have J := I.write (t' := t) (x := a) (e := a) (o := exo a C none) (by rw [e]; exact True.intro) (.inl rfl) k ⟨_, hx⟩ (exo_ok hx)
  have eu : upd H a (exo a C none) = H := by
    funext b
    by_cases hb : b = a
    · rw [hb, upd_same, e]
    · rw [upd_ne hb]
  rw [eu] at J
  exact h _ J
end
/-- B.__init__(self, ..) -/
def tVeG (K : PySem.W.Frag) (j : String) (ta : TA) : TE := fun σ H Q => ta σ H fun vs H1 => ∃ (a C : Addr) (ws : List V), vs = .ref a :: ws ∧ ws.length ≤ 1000 ∧ OexG K C j ∧ H1 a = some (exo a C none) ∧ Q .non H1
/-- self.f = e -/
def tOsG (K : PySem.W.Frag) (j : String) (f : Str) (to te : TE) : TS := fun D σ H => te σ H fun y H1 => to σ H1 fun x H2 => ∃ a C : Addr, x = .ref a ∧ OexG K C j ∧ PySem.W.findIn K (.ref C) f = some none ∧
  H2 a = some (exo a C none) ∧ ∀ dx, H2 dx = none → dx ≠ a → D.nx σ (upd (upd H2 dx (exd dx [(f, y)])) a (exo a C (some dx)))
structure BaseG (K : PySem.W.Frag) (B : Addr) (j : String) : Prop where
  sp : PySem.W.specialIn K (.ref B) "__getattribute__" = some (some (.builtin "type.__getattribute__"))
  rd : PySem.W.readsIn K B (.type "type") = true
  fi : PySem.W.findCls K (.ref B) (.type "type") "__init__" = some (.val (.builtin j))
  hn : PySem.W.handedIn (.builtin j) = true
section
variable {X : Cx} {o e : Expr} {es : List Expr} {to te : TE} {ta : TA} {f : Str} {p p' p1 p2 pos : Pos} {j : String} {x : Str} {B : Addr}
theorem pe_beinitG {pl : Sem Bool} (hg : Gl X x) (hm : X.mg x = some (.ref B)) (b : BaseG X.K B j) (ha : PA X (e :: es) ta)
    (hc : eval (.Call (.Attribute (.Name x p1) "__init__" p2) (e :: es) [] pos) X.env = (do
      let ov ← eval (.Name x p1) X.env
      standAt p2.atName
      let (f, first) ← holding [ov] (getMethod ov "__init__" pl)
      callWith pos f first (backTo pos (starEach (e :: es) X.env)) (backToKw pos (keywordEach [] X.env))) := by rfl)
    (hdb : (x == ("__debug__" : Str)) = false := by decide) (he : starEach (e :: es) X.env = (false, eval e X.env) :: starEach es X.env := by rfl) (hpl : (backTo pos (starEach es X.env)).any (·.1) = false := by rfl) :
    PE X (.Call (.Attribute (.Name x p1) "__init__" p2) (e :: es) [] pos) (tVeG X.K j ta) := by
  refine ⟨fun pins s σ H Q I h => ?_⟩
  refine PySem.W.methodCall_KW (ld_glob I hg hm ?_ hdb) hc
  refine PySem.W.method_cls I.kIn b.sp (PySem.W.cls_value I.kIn b.rd b.fi b.hn ?_)
  show wpAny _ _ (callWith pos (Value.builtin j) [] (backTo pos (starEach (e :: es) X.env)) []) _ _ _
  refine PyProof.Rows.callWith_method1 (thn (ha.run pos pins _ σ H _ (I.tok _) h) fun us s1 ⟨vs, H1, I1, r1, a, C, ws, ev, hl, T, ea, q⟩ => ?_) he hpl
  subst ev
  cases r1 with
  | @cons _ u0 _ ur ra rw' =>
    obtain rfl : u0 = Value.ref a := ra
    have hlen : ur.length ≤ sizeLine := by
      rw [← Paired.length rw', sizeLine_eq]
      omega
    exact oinit_okG T I1 ea hlen fun s' J => ⟨.non, H1, J, rfl, q⟩
theorem ps_ostG (ho : PE X o to) (he : PE X e te) (hs : swapsWith e (some (.Attribute o f p')) pos.line X.env = pure false := by rfl) : PS X (.Assign [.Attribute o f p'] e pos) (tOsG X.K j f to te) := by
  refine ⟨fun pins s σ H D I h => ?_⟩
  refine plainObj_wpAny_Assign_Attribute (thn (he.run pins s σ H _ I h) fun v s1 ⟨y, H1, I1, r1, q1⟩ => thn (ho.run pins s1 σ H1 _ I1 q1) fun u s2 ⟨x, H2, I2, r2, a, C, ex, T, hno, ea, q⟩ => ?_) hs
  subst ex
  obtain rfl : u = Value.ref a := r2
  exact ost_newG T I2 ea hno r1 fun dx s' n ne J => ⟨σ, _, J, q dx n ne⟩
end
section
variable {K : PySem.W.Frag}
theorem init_readG {C : Addr} {f m : Str} {a : Addr} {y : V} {H1 : Hp} {Q : VK} {j : String} (T : OexG K C j) (hno : PySem.W.findIn K (.ref C) f = some none) (ha : H1 a = none)
    (q : ∀ d, H1 d = none → d ≠ a → Q .non (upd (upd (upd H1 a (exo a C none)) d (exd d [(f, y)])) a (exo a C (some d)))) :
    tSeq (tDrop (tVeG K j (tCons (tVar 0) (tCons (tC (.str m)) tNil)))) (tSeq (tOsG K j f (tVar 0) (tVar 1)) tNext) { nx := fun _ H' => Q .non H', rt := Q } [some (.ref a), some y] (upd H1 a (exo a C none)) := by
  refine ⟨_, rfl, a, C, _, rfl, by simp, T, upd_same, ?_⟩
  refine ⟨_, rfl, _, rfl, a, C, rfl, T, hno, upd_same, fun d hd hne => q d ?_ hne⟩
  rw [upd_ne hne] at hd
  exact hd
end
/-- C(e, ..), C with an own __init__ over any built-in class -/
theorem pmk_oexG {X : Cx} {CX : CXT} {j : String} {x : Str} {C fI : Addr} {k : Nat} {fd : FuncData} {ps : List Str} {sp : Sp} {ds : List Value} {dvs : List V} {e : Expr} {es : List Expr} {ta : TA} {p pos : Pos} (T : OexG X.K C j) (iC : PySem.W.findIn X.K (.ref C) "__init__" = some (some (.ref fI))) (tI : PySem.W.typeIn X.K (.ref fI) = some (.type "function"))
    (F1 : FnOk X.prog X.w X.K X.mg X.base CX k fI fd ps sp) (hr : Room (k + 1) X.A) (hb : Binds X.K fd ps ds) (hd : Vals dvs ds) (hx : Passes CX X (fun _ _ _ => False)) (hg : Gl X x) (hm : X.mg x = some (.ref C)) (ha : PA X (e :: es) ta)
    (hdb : (x == ("__debug__" : Str)) = false := by decide) (he : starEach (e :: es) X.env = (false, eval e X.env) :: starEach es X.env := by rfl) (hpl : (backTo pos (starEach es X.env)).any (·.1) = false := by rfl) :
    L2N.PMk X (.Call (.Name x p) (e :: es) [] pos) (tMkO C sp dvs ta) := by
  intro pins s σ H Q I h
  obtain ⟨nm, q, N, bs, bm, sn, sub, ab, col, dd, k0, k1, k2, k3, k5, B, newId, bmB, hC, F, hT, hP, hO⟩ := T.cls
  refine wpAny_Call_Name_kw (ld_glob I hg hm ?_ hdb)
  refine PySem.W.callWith_K (h₀ := X.base) I.ok.mod.kin T.kC (thn (ha.run pos pins s σ H _ I h) fun us s1 ⟨vs, H1, I1, r1, hz, q1⟩ => ⟨I1.kIn, ?_⟩) he hpl
  show wpAny _ _ (call (.ref C) us) _ _ _
  obtain ⟨hp, g, dr, tk, os⟩ := s1
  have hsz : hp.objs.size ≤ hp.objs.size + 1 := Nat.le_succ _
  have hn : H1 (hp.objs.size + 1) = none := I1.hok.fresh hsz
  have hq := q1 (hp.objs.size + 1) hn
  have kk : ∀ b o, hp.get? b = some o → ((hp.push (PySem.W.kdv_tup us)).push (PySem.HandSPX.excO C hp.objs.size)).get? b = some o := fun b o e => Heap.get?_push_of_some _ (Heap.get?_push_of_some _ e)
  have hget : ((hp.push (PySem.W.kdv_tup us)).push (PySem.HandSPX.excO C hp.objs.size)).get? (hp.objs.size + 1) = some (PySem.HandSPX.excO C hp.objs.size) := by heap_get
  have I2 : Inv X pins σ (upd H1 (hp.objs.size + 1) (exo (hp.objs.size + 1) C none)) ⟨(hp.push (PySem.W.kdv_tup us)).push (PySem.HandSPX.excO C hp.objs.size), g, dr, tk, os⟩ :=
    I1.laid (t' := tk) (a := hp.objs.size + 1) (o := exo (hp.objs.size + 1) C none) (h' := (hp.push (PySem.W.kdv_tup us)).push (PySem.HandSPX.excO C hp.objs.size)) kk hsz (exo_ok hget)
  have r2 : Vals (V.ref (hp.objs.size + 1) :: (vs ++ dvs)) (Value.ref (hp.objs.size + 1) :: (us ++ ds)) := .cons rfl (r1.append hd)
  have hl : (Value.ref (hp.objs.size + 1) :: us ++ ds).length = ps.length := by
    have e := r2.length
    rw [F1.len _ _ _ _ hq] at e
    exact e.symm
  have hus : us.length ≤ sizeLine := by
    rw [← Paired.length r1, sizeLine_eq]
    omega
  refine wpAny_call (PySem.HandSPX.call_own F hT (I1.kIn _ _ hC) (PySem.W.looks_findIn I1.kIn iC) (fun self => PySem.W.bind_fn I1.kIn self tI) hus
    (codeAny_mono (F1.run _ X.stack _ _ ⟨Value.ref (hp.objs.size + 1) :: us, []⟩ (Value.ref (hp.objs.size + 1) :: (us ++ ds)) _ _ (fun _ _ _ => False) (hr.make C us []) (I2.env0.make C us []) (hb _ (Value.ref (hp.objs.size + 1) :: us) I2.kIn hl) r2 hq) fun r s' hq' => ?_))
  cases r with
  | error er => exact hx pins σ _ _ er s' I2 hq'
  | ok fl =>
    cases fl with
    | ret u =>
      obtain ⟨v, H2, os2, bare2, un2, hok2, rv, ev, d, fs, ea, ed, hd1, q2⟩ := hq'
      subst ev
      obtain ⟨h2, g2, d2, t2, os'⟩ := s'
      refine ⟨rv, ?_⟩
      obtain ⟨t0, G, J, kG, ge, hoe, na⟩ := mk_end0 (d2 := d2) (t2 := t2) I1 hsz kk un2 hok2 os2 bare2 ea ed hd1
      exact ⟨_, _, _, ⟨G, g2, d2, t2, os'⟩, _, .ref C, some d, rfl, J, kG, ge, hoe, ⟨rfl, rfl, fun vs e => by cases e; rfl⟩, rfl, rfl, na, rfl, bare2, raises_own T.exC T.tyC, q2⟩
    | next => exact False.elim hq'
    | brk => exact False.elim hq'
    | cont => exact False.elim hq'
end Kx
end
section
set_option maxHeartbeats 2000000
namespace Kx
open PySem PySem.Spec PyProof.Rows L2
/-- what is never come to -/
theorem pe_never {X : Cx} {e : Expr} : PE X e (fun _ _ _ => False) := ⟨fun _ _ _ _ _ _ h => h.elim⟩
section
variable [Tb] {K : PySem.W.Frag} {σ σ' : L2.St} {G G' M M1 M2 M3 : Hp} {ta tb te tc : TE} {P P1 P2 : VP} {D : Ends} {H : Hp} {u : TS} {E : XK}
theorem ev_never {α : Type} {y : α} (h : (none : Option α) = some y) : Ev (fun _ _ _ => False) σ G M M P := by cases h
/-- text.split(sep) -/
def splitO (a b : Str) : Option (List Str) := (grd ((b.length == 0) = false ∧ a.length + 2 ≤ sizeLine ∧ (Txt.split a b).all sok = true)).bind fun _ => some (Txt.split a b)
abbrev rSplitS : V → List V → Hp → VK → Prop := fun x xs H Q => ∃ a b, x = .str a ∧ xs = [.str b] ∧ (b.length == 0) = false ∧ a.length + 2 ≤ sizeLine ∧ rNewStrs (Txt.split a b) H Q
theorem ev_split {a b : Str} {ys : List Str} (h : splitO a b = some ys) (ha : Ev ta σ G M M1 (DD K (.str a))) (hb : Ev tb σ G M1 M2 (DD K (.str b))) : Ev (tM1 rSplitS ta tb) σ G M M2 (DD K (eL Dat.str ys)) := EvL.ev fun G0 H s k Q q => ha G0 H s k _ fun v G1 H1 s1 k1 hv => by
  obtain ⟨rfl, _⟩ := dq_str hv
  refine ⟨⟨a, rfl⟩, hb G1 H1 (s.trans s1) k1 _ fun w G2 H2 s2 k2 hw => ?_⟩
  obtain ⟨rfl, _⟩ := dq_str hw
  obtain ⟨_, h1, h2⟩ := bs h
  cases h2
  have z := grd_of h1
  refine ⟨a, b, rfl, rfl, z.1, z.2.1, fun p hp => ?_⟩
  exact newL (s1.trans s2) k2 (dqAll_strs fun x hx => List.all_eq_true.mp z.2.2 x hx) q p hp
end
end Kx
end
section
set_option maxHeartbeats 2000000
namespace Kx
open PySem PySem.Spec PyProof.Rows L2
/-! ### a while loop that may return -/
def whileR {S R : Type} (c : S → Option Bool) (f : S → Option (S ⊕ R)) : Nat → S → Option (S ⊕ R)
  | 0, _ => none
  | n + 1, s => (c s).bind fun b => cond b ((f s).bind fun s' => orR s' (fun s2 => whileR c f n s2) (fun r => some (.inr r))) (some (.inl s))
/-- x or y, of texts -/
def orSO (x y : Str) : Option Str := (grd (x.length ≤ 16777216)).bind fun _ => some (if x.length = 0 then y else x)
/-- int(text) -/
def intSO (x : Str) : Option Int := (grd (x.length ≤ 640)).bind fun _ => PySem.intText? x
section
variable [Tb] {K : PySem.W.Frag} {σ σ' : L2.St} {G G' M M1 M2 M3 : Hp} {ta tb te tc : TE} {P P1 P2 : VP} {D : Ends} {H : Hp} {u : TS} {E : XK}
theorem q_whileR {S R : Type} {c : S → Option Bool} {f : S → Option (S ⊕ R)} {st : S} {fin : S ⊕ R} {n : Nat} {tc : TT} {tb : TS} (ok : Ok G M H) (J : S → L2.St → Hp → Hp → Prop) (hf : whileR c f n st = some fin) (h0 : J st σ G M)
    (hc : ∀ s b σ1 G1 M2 H1, c s = some b → J s σ1 G1 M2 → Same G G1 → Ok G1 M2 H1 → EvT tc σ1 G1 M2 M2 b)
    (hJ : ∀ s σ1 G1 G2 M2, J s σ1 G1 M2 → Same G1 G2 → J s σ1 G2 M2)
    (hs : ∀ s s' σ1 G1 M2 H1 (N : L2.St → Hp → Prop), c s = some true → f s = some s' → (∀ r, s' = .inr r → fin = .inr r) → J s σ1 G1 M2 → Same G G1 → Ok G1 M2 H1 → (∀ s2 σ2 G2 M3 H2, s' = .inl s2 → Same G1 G2 → Ok G2 M3 H2 → J s2 σ2 G2 M3 → N σ2 H2) → tb { D with nx := N, ct := N, bk := u D } σ1 H1)
    (hd : ∀ s σ1 G1 M2 H1, fin = .inl s → c s = some false → Same G G1 → Ok G1 M2 H1 → J s σ1 G1 M2 → u D σ1 H1) : tSeq (tWhile tc tb) u D σ H := by
  refine q_while ok (fun m σ1 G1 M2 => ∃ s, J s σ1 G1 M2 ∧ whileR c f m s = some fin) n ⟨st, h0, hf⟩ ?_
  rintro m σ1 G1 M2 H1 ⟨s, j, e⟩ s1 k1
  cases m with
  | zero => cases e
  | succ m =>
    obtain ⟨b, e1, e2⟩ := bs e
    refine ⟨M2, b, hc s b σ1 G1 M2 H1 e1 j s1 k1, fun eb G2 H2 N s2 k2 hN => ?_, fun eb G2 H2 s2 k2 => ?_⟩
    · subst eb
      obtain ⟨s', e3, e4⟩ := bs e2
      refine hs s s' σ1 G2 M2 H2 N e1 e3 (fun r er => ?_) (hJ s σ1 G1 G2 M2 j s2) (s1.trans s2) k2 fun s2' σ2 G3 M3 H3 es s3 k3 j3 => ?_
      · subst er
        exact (Option.some.inj e4).symm
      · subst es
        exact hN m σ2 G3 M3 H3 (Nat.lt_succ_self m) s3 k3 ⟨s2', j3, e4⟩
    · subst eb
      exact hd s σ1 G2 M2 H2 (Option.some.inj e2).symm e1 (s1.trans s2) k2 (hJ _ σ1 G1 G2 M2 j s2)
theorem ev_orS {x y z : Str} (h : orSO x y = some z) (ha : Ev ta σ G M M1 (DD K (.str x))) (hb : Ev tb σ G M1 M1 (DD K (.str y))) : Ev (tOrT K ta tb) σ G M M1 (DD K (.str z)) := fun G0 H s k Q q => ha G0 H s k _ fun v G1 H1 s1 k1 hv => by
  obtain ⟨rfl, so⟩ := dq_str hv
  obtain ⟨_, h1, h2⟩ := bs h
  have g := grd_of h1
  by_cases e : x.length = 0
  · rw [if_pos e] at h2
    cases h2
    refine ⟨false, ⟨by rw [sizeLine_eq]; exact g, by rw [e]; rfl⟩, ?_⟩
    show tb σ H1 Q
    exact hb G1 H1 (s.trans s1) k1 Q fun v G2 H2 s2 k2 hv => q v G2 H2 (s1.trans s2) k2 hv
  · rw [if_neg e] at h2
    cases h2
    refine ⟨true, ⟨by rw [sizeLine_eq]; exact g, ?_⟩, ?_⟩
    · refine (bne_iff_ne.mpr fun z => e ?_).symm
      omega
    · show Q _ H1
      exact q _ G1 H1 s1 k1 (.str so)
theorem ev_joinL {a y : Str} {ys : List Str} (h : joinO a ys = some y) (ha : Ev ta σ G M M1 (DD K (.str a))) (hb : Ev tb σ G M1 M2 (DD K (eL Dat.str ys))) : Ev (tM1 (rJoinS K) ta tb) σ G M M2 (DD K (.str y)) := fun G0 H s k Q q => ha G0 H s k _ fun v G1 H1 s1 k1 hv => by
  obtain ⟨rfl, _⟩ := dq_str hv
  refine ⟨⟨a, rfl⟩, hb G1 H1 (s.trans s1) k1 _ fun w G2 H2 s2 k2 hw => ?_⟩
  obtain ⟨_, h1, h2⟩ := bs h
  cases h2
  have z := grd_of h1
  obtain ⟨p, vs, rfl, h3, h4⟩ := dp_list hw
  have e := dpAll_strs h4
  subst e
  exact ⟨a, p, ys, rfl, rfl, .inl (.inl (.inl (k2.g _ _ h3))), z.1, q _ G2 H2 (s1.trans s2) k2 (.str z.2)⟩
theorem ev_intS {x : Str} {i : Int} (h : intSO x = some i) (ha : EvA (tCons ta tNil) σ G M M1 (conP (DD K (.str x)) nilP)) : Ev (tCB (fun xs H Q => ∃ a n, xs = [.str a] ∧ PySem.intText? a = some n ∧ a.length ≤ 640 ∧ Q (.int n) H) (tCons ta tNil)) σ G M M1 (DD K (.int i)) := ev_cb ha fun xs G0 H s k hx Q q => by
  obtain ⟨v, rfl, hv⟩ := one_of (R := nilP) hx
  obtain ⟨rfl, _⟩ := dq_str hv
  obtain ⟨_, h1, h2⟩ := bs h
  exact ⟨x, i, rfl, h2, grd_of h1, q _ G0 H (Same.refl _) k (.int _)⟩
end
end Kx
end
section
set_option maxHeartbeats 2000000
namespace Kx
open PySem PySem.Spec PyProof.Rows L2
end Kx
end
section
set_option maxHeartbeats 2000000
namespace PySem.W
open PySem PySem.Spec PySem.Calls PyProof.Rows
end PySem.W
namespace Kx
open PySem PySem.Spec PyProof.Rows L2
/-! ### f-strings -/
/-! ### str(o), repr(o) by own methods -/
/-! ### repr of a thing of any kind, texts, truths, the empty dict too -/
end Kx
end
section
set_option maxHeartbeats 4000000
namespace K16
open PySem L2 Kx
def topS (i : Nat) : Stmt := PySem.Challenge.pw_sincerung_k16_courses_as_texts.main.body.getD i (.Pass ⟨0, 0, 0, 0⟩)
abbrev s_NoText___init__ : Stmt := inClass (topS 18) 0
abbrev s_is_whole : Stmt := topS 39
abbrev s_is_within : Stmt := topS 40
abbrev s_is_name : Stmt := topS 41
abbrev s_is_bell : Stmt := topS 43
abbrev s_check_bells : Stmt := topS 44
abbrev s_is_notch : Stmt := topS 45
abbrev s_check_notches : Stmt := topS 46
abbrev s_Peal___init__ : Stmt := inClass (topS 47) 0
abbrev s_check_peal : Stmt := topS 48
abbrev s_parts_in : Stmt := topS 52
abbrev s_fits_course : Stmt := topS 53
abbrev s_check_course : Stmt := topS 54
abbrev s_part_text : Stmt := topS 58
abbrev s_course_text : Stmt := topS 59
abbrev s_show_course : Stmt := topS 60
abbrev s_end_of : Stmt := topS 61
abbrev s_part_read : Stmt := topS 62
abbrev s_course_read : Stmt := topS 63
abbrev s_read_course : Stmt := topS 64
abbrev s__law_sort : Stmt := topS 66
abbrev s__law_caught : Stmt := topS 67
abbrev s__law_opened : Stmt := topS 68
abbrev s__law_pull : Stmt := topS 69
abbrev s__law_spelt : Stmt := topS 70
abbrev s__law_calls : Stmt := topS 71
abbrev s__law_figure : Stmt := topS 72
abbrev s__law_kit : Stmt := topS 73
abbrev s__law_tune : Stmt := topS 74
abbrev s__law_same : Stmt := topS 75
abbrev s__law_text_of : Stmt := topS 76
abbrev s__law_one_right : Stmt := topS 77
abbrev s__law_deep : Stmt := topS 78
abbrev s__law_right : Stmt := topS 79
abbrev s_law : Stmt := topS 80
abbrev eX_Peal (r : ((List (Str × Int)) × (List (Str × Str × Int)) × (List (Str × Int)) × (List ((Str × Str) × Int)))) : Dat := .ins "Peal" ["bells", "notches", "sizes", "turning"] [(eT (eP2 Dat.str Dat.int)) r.1, (eT (eP3 Dat.str Dat.str Dat.int)) r.2.1, (eDS Dat.int) r.2.2.1, (eDP Dat.int) r.2.2.2]
def kw_show_course_course_peal {α : Type} : List α → List α
  | [x0, x1] => [x1, x0]
  | _ => []
def kw_read_course_text_peal {α : Type} : List α → List α
  | [x0, x1] => [x1, x0]
  | _ => []
structure Txt (K : PySem.W.Frag) (mg : Str → Option Value) where
  a_NoText___init__ : Addr
  d_NoText___init__ : FuncData
  F_NoText___init__ : Fun K "__init__" "NoText.__init__" s_NoText___init__ a_NoText___init__ d_NoText___init__
  b_NoText___init__ : Binds K d_NoText___init__ ["self", "row"] []
  a_is_whole : Addr
  d_is_whole : FuncData
  F_is_whole : Fun K "is_whole" "is_whole" s_is_whole a_is_whole d_is_whole
  b_is_whole : Binds K d_is_whole ["thing"] []
  g_is_whole : mg "is_whole" = some (.ref a_is_whole)
  a_is_within : Addr
  d_is_within : FuncData
  F_is_within : Fun K "is_within" "is_within" s_is_within a_is_within d_is_within
  b_is_within : Binds K d_is_within ["thing", "low", "high"] []
  g_is_within : mg "is_within" = some (.ref a_is_within)
  a_is_name : Addr
  d_is_name : FuncData
  F_is_name : Fun K "is_name" "is_name" s_is_name a_is_name d_is_name
  b_is_name : Binds K d_is_name ["thing"] []
  g_is_name : mg "is_name" = some (.ref a_is_name)
  a_is_bell : Addr
  d_is_bell : FuncData
  F_is_bell : Fun K "is_bell" "is_bell" s_is_bell a_is_bell d_is_bell
  b_is_bell : Binds K d_is_bell ["thing"] []
  g_is_bell : mg "is_bell" = some (.ref a_is_bell)
  a_check_bells : Addr
  d_check_bells : FuncData
  F_check_bells : Fun K "check_bells" "check_bells" s_check_bells a_check_bells d_check_bells
  b_check_bells : Binds K d_check_bells ["bells"] []
  g_check_bells : mg "check_bells" = some (.ref a_check_bells)
  a_is_notch : Addr
  d_is_notch : FuncData
  F_is_notch : Fun K "is_notch" "is_notch" s_is_notch a_is_notch d_is_notch
  b_is_notch : Binds K d_is_notch ["thing", "names"] []
  g_is_notch : mg "is_notch" = some (.ref a_is_notch)
  a_check_notches : Addr
  d_check_notches : FuncData
  F_check_notches : Fun K "check_notches" "check_notches" s_check_notches a_check_notches d_check_notches
  b_check_notches : Binds K d_check_notches ["notches", "names"] []
  g_check_notches : mg "check_notches" = some (.ref a_check_notches)
  a_Peal___init__ : Addr
  d_Peal___init__ : FuncData
  e_Peal___init__ : Addr
  F_Peal___init__ : FunT K "__init__" "Peal.__init__" s_Peal___init__ e_Peal___init__ a_Peal___init__ d_Peal___init__
  b_Peal___init__ : Binds K d_Peal___init__ ["self", "bells", "notches"] []
  bd_Peal___init__ : Binds K d_Peal___init__ ["self", "bells", "notches"] [.ref e_Peal___init__]
  nt_Peal___init__ : NilT K e_Peal___init__
  mk_Peal : Mk K (clsAt K "Peal") a_Peal___init__
  a_check_peal : Addr
  d_check_peal : FuncData
  F_check_peal : Fun K "check_peal" "check_peal" s_check_peal a_check_peal d_check_peal
  b_check_peal : Binds K d_check_peal ["thing"] []
  g_check_peal : mg "check_peal" = some (.ref a_check_peal)
  a_parts_in : Addr
  d_parts_in : FuncData
  F_parts_in : Fun K "parts_in" "parts_in" s_parts_in a_parts_in d_parts_in
  b_parts_in : Binds K d_parts_in ["peal", "thing", "within"] []
  g_parts_in : mg "parts_in" = some (.ref a_parts_in)
  a_fits_course : Addr
  d_fits_course : FuncData
  F_fits_course : Fun K "fits_course" "fits_course" s_fits_course a_fits_course d_fits_course
  b_fits_course : Binds K d_fits_course ["peal", "thing"] []
  g_fits_course : mg "fits_course" = some (.ref a_fits_course)
  a_check_course : Addr
  d_check_course : FuncData
  F_check_course : Fun K "check_course" "check_course" s_check_course a_check_course d_check_course
  b_check_course : Binds K d_check_course ["peal", "thing"] []
  g_check_course : mg "check_course" = some (.ref a_check_course)
  a_part_text : Addr
  d_part_text : FuncData
  F_part_text : Fun K "part_text" "part_text" s_part_text a_part_text d_part_text
  b_part_text : Binds K d_part_text ["part"] []
  g_part_text : mg "part_text" = some (.ref a_part_text)
  a_course_text : Addr
  d_course_text : FuncData
  F_course_text : Fun K "course_text" "course_text" s_course_text a_course_text d_course_text
  b_course_text : Binds K d_course_text ["course"] []
  g_course_text : mg "course_text" = some (.ref a_course_text)
  a_show_course : Addr
  d_show_course : FuncData
  F_show_course : Fun K "show_course" "show_course" s_show_course a_show_course d_show_course
  b_show_course : Binds K d_show_course ["peal", "course"] []
  g_show_course : mg "show_course" = some (.ref a_show_course)
  a_end_of : Addr
  d_end_of : FuncData
  F_end_of : Fun K "end_of" "end_of" s_end_of a_end_of d_end_of
  b_end_of : Binds K d_end_of ["text", "at", "signs"] []
  g_end_of : mg "end_of" = some (.ref a_end_of)
  a_part_read : Addr
  d_part_read : FuncData
  F_part_read : Fun K "part_read" "part_read" s_part_read a_part_read d_part_read
  b_part_read : Binds K d_part_read ["text", "at", "within"] []
  g_part_read : mg "part_read" = some (.ref a_part_read)
  a_course_read : Addr
  d_course_read : FuncData
  F_course_read : Fun K "course_read" "course_read" s_course_read a_course_read d_course_read
  b_course_read : Binds K d_course_read ["text", "at", "within"] []
  g_course_read : mg "course_read" = some (.ref a_course_read)
  a_read_course : Addr
  d_read_course : FuncData
  F_read_course : Fun K "read_course" "read_course" s_read_course a_read_course d_read_course
  b_read_course : Binds K d_read_course ["peal", "text"] []
  g_read_course : mg "read_course" = some (.ref a_read_course)
  a__law_sort : Addr
  d__law_sort : FuncData
  F__law_sort : Fun K "_law_sort" "_law_sort" s__law_sort a__law_sort d__law_sort
  b__law_sort : Binds K d__law_sort ["_law_e"] []
  g__law_sort : mg "_law_sort" = some (.ref a__law_sort)
  a__law_caught : Addr
  d__law_caught : FuncData
  F__law_caught : Fun K "_law_caught" "_law_caught" s__law_caught a__law_caught d__law_caught
  b__law_caught : Binds K d__law_caught ["_law_act"] []
  g__law_caught : mg "_law_caught" = some (.ref a__law_caught)
  a__law_opened : Addr
  d__law_opened : FuncData
  F__law_opened : Fun K "_law_opened" "_law_opened" s__law_opened a__law_opened d__law_opened
  b__law_opened : Binds K d__law_opened ["_law_script", "_law_k"] []
  g__law_opened : mg "_law_opened" = some (.ref a__law_opened)
  a__law_pull : Addr
  d__law_pull : FuncData
  F__law_pull : Fun K "_law_pull" "_law_pull" s__law_pull a__law_pull d__law_pull
  b__law_pull : Binds K d__law_pull ["_law_store", "_law_many"] []
  g__law_pull : mg "_law_pull" = some (.ref a__law_pull)
  a__law_spelt : Addr
  d__law_spelt : FuncData
  F__law_spelt : Fun K "_law_spelt" "_law_spelt" s__law_spelt a__law_spelt d__law_spelt
  b__law_spelt : Binds K d__law_spelt ["_law_figure_here", "_law_wide"] []
  g__law_spelt : mg "_law_spelt" = some (.ref a__law_spelt)
  a__law_calls : Addr
  d__law_calls : FuncData
  F__law_calls : Fun K "_law_calls" "_law_calls" s__law_calls a__law_calls d__law_calls
  b__law_calls : Binds K d__law_calls ["_law_store", "_law_many"] []
  g__law_calls : mg "_law_calls" = some (.ref a__law_calls)
  a__law_figure : Addr
  d__law_figure : FuncData
  F__law_figure : Fun K "_law_figure" "_law_figure" s__law_figure a__law_figure d__law_figure
  b__law_figure : Binds K d__law_figure ["_law_store", "_law_mode", "_law_size"] []
  g__law_figure : mg "_law_figure" = some (.ref a__law_figure)
  a__law_kit : Addr
  d__law_kit : FuncData
  F__law_kit : Fun K "_law_kit" "_law_kit" s__law_kit a__law_kit d__law_kit
  b__law_kit : Binds K d__law_kit ["_law_store", "_law_upto", "_law_most"] []
  g__law_kit : mg "_law_kit" = some (.ref a__law_kit)
  a__law_tune : Addr
  d__law_tune : FuncData
  F__law_tune : Fun K "_law_tune" "_law_tune" s__law_tune a__law_tune d__law_tune
  b__law_tune : Binds K d__law_tune ["_law_store", "_law_kit_here", "_law_deep_here", "_law_wide", "_law_often"] []
  g__law_tune : mg "_law_tune" = some (.ref a__law_tune)
  a__law_same : Addr
  d__law_same : FuncData
  F__law_same : Fun K "_law_same" "_law_same" s__law_same a__law_same d__law_same
  b__law_same : Binds K d__law_same ["_law_found", "_law_due"] []
  g__law_same : mg "_law_same" = some (.ref a__law_same)
  a__law_text_of : Addr
  d__law_text_of : FuncData
  F__law_text_of : Fun K "_law_text_of" "_law_text_of" s__law_text_of a__law_text_of d__law_text_of
  b__law_text_of : Binds K d__law_text_of ["_law_tune_here"] []
  g__law_text_of : mg "_law_text_of" = some (.ref a__law_text_of)
  a__law_one_right : Addr
  d__law_one_right : FuncData
  F__law_one_right : Fun K "_law_one_right" "_law_one_right" s__law_one_right a__law_one_right d__law_one_right
  b__law_one_right : Binds K d__law_one_right ["_law_tower", "_law_tune_here"] []
  lc__law_one_right : Addr
  lp__law_one_right : Addr
  ld__law_one_right : d__law_one_right.code = .ref lc__law_one_right
  g__law_one_right : mg "_law_one_right" = some (.ref a__law_one_right)
  a__law_deep : Addr
  d__law_deep : FuncData
  F__law_deep : Fun K "_law_deep" "_law_deep" s__law_deep a__law_deep d__law_deep
  b__law_deep : Binds K d__law_deep ["_law_call"] []
  g__law_deep : mg "_law_deep" = some (.ref a__law_deep)
  a__law_right : Addr
  d__law_right : FuncData
  F__law_right : Fun K "_law_right" "_law_right" s__law_right a__law_right d__law_right
  b__law_right : Binds K d__law_right ["_law_store"] []
  g__law_right : mg "_law_right" = some (.ref a__law_right)
  a_law : Addr
  d_law : FuncData
  F_law : Fun K "law" "law" s_law a_law d_law
  b_law : Binds K d_law ["_law_script"] []
  g_law : mg "law" = some (.ref a_law)
  cl_Peal : Cls K (clsAt K "Peal")
  co_Peal : ClsOk K (clsAt K "Peal")
  ki_Peal : PySem.W.kitOne K (.ref (clsAt K "Peal")) (.ref (clsAt K "Peal")) = some true
  mg_Peal : mg "Peal" = some (.ref (clsAt K "Peal"))
  na_Peal_bells : NoAttr K (clsAt K "Peal") "bells"
  na_Peal_notches : NoAttr K (clsAt K "Peal") "notches"
  na_Peal_sizes : NoAttr K (clsAt K "Peal") "sizes"
  na_Peal_turning : NoAttr K (clsAt K "Peal") "turning"
  mc_NoPeal : mg "NoPeal" = some (.ref (clsAt K "NoPeal"))
  mc_NoBells : mg "NoBells" = some (.ref (clsAt K "NoBells"))
  mc_NoNotches : mg "NoNotches" = some (.ref (clsAt K "NoNotches"))
  mc_NoText : mg "NoText" = some (.ref (clsAt K "NoText"))
  mc_NoStanding : mg "NoStanding" = some (.ref (clsAt K "NoStanding"))
  mc_NoRow : mg "NoRow" = some (.ref (clsAt K "NoRow"))
  mc_NoDials : mg "NoDials" = some (.ref (clsAt K "NoDials"))
  mc_NoRings : mg "NoRings" = some (.ref (clsAt K "NoRings"))
  mc_NoCourse : mg "NoCourse" = some (.ref (clsAt K "NoCourse"))
  mc_NoNumber : mg "NoNumber" = some (.ref (clsAt K "NoNumber"))
  mc_NoModuli : mg "NoModuli" = some (.ref (clsAt K "NoModuli"))
  mc_NoVectors : mg "NoVectors" = some (.ref (clsAt K "NoVectors"))
  mc_NoVector : mg "NoVector" = some (.ref (clsAt K "NoVector"))
  mc_NoWeights : mg "NoWeights" = some (.ref (clsAt K "NoWeights"))
  mc_NoTruth : mg "NoTruth" = some (.ref (clsAt K "NoTruth"))
  mc_NoHistories : mg "NoHistories" = some (.ref (clsAt K "NoHistories"))
  mc_NoDeed : mg "NoDeed" = some (.ref (clsAt K "NoDeed"))
  mc_NoLog : mg "NoLog" = some (.ref (clsAt K "NoLog"))
  mc_NoSay : mg "NoSay" = some (.ref (clsAt K "NoSay"))
  mc_NoName : mg "NoName" = some (.ref (clsAt K "NoName"))
  mc_NoPlace : mg "NoPlace" = some (.ref (clsAt K "NoPlace"))
  mc_NoBack : mg "NoBack" = some (.ref (clsAt K "NoBack"))
  mc_TooMany : mg "TooMany" = some (.ref (clsAt K "TooMany"))
  mc_BellError : mg "BellError" = some (.ref (clsAt K "BellError"))
  mc_LostError : mg "LostError" = some (.ref (clsAt K "LostError"))
  mc_GreatError : mg "GreatError" = some (.ref (clsAt K "GreatError"))
  em_NoText_BellError : PySem.W.exmOne K (.ref (clsAt K "NoText")) (.ref (clsAt K "BellError")) = some true
  em_NoText_LostError : PySem.W.exmOne K (.ref (clsAt K "NoText")) (.ref (clsAt K "LostError")) = some false
  em_NoText_GreatError : PySem.W.exmOne K (.ref (clsAt K "NoText")) (.ref (clsAt K "GreatError")) = some false
  ec_NoText : L2.ExcC K (clsAt K "NoText")
  kx_NoText_NoPeal : PySem.W.kitOne K (.ref (clsAt K "NoText")) (.ref (clsAt K "NoPeal")) = some false
  kx_NoText_NoBells : PySem.W.kitOne K (.ref (clsAt K "NoText")) (.ref (clsAt K "NoBells")) = some false
  kx_NoText_NoNotches : PySem.W.kitOne K (.ref (clsAt K "NoText")) (.ref (clsAt K "NoNotches")) = some false
  kx_NoText_NoText : PySem.W.kitOne K (.ref (clsAt K "NoText")) (.ref (clsAt K "NoText")) = some true
  kx_NoText_NoStanding : PySem.W.kitOne K (.ref (clsAt K "NoText")) (.ref (clsAt K "NoStanding")) = some false
  kx_NoText_NoRow : PySem.W.kitOne K (.ref (clsAt K "NoText")) (.ref (clsAt K "NoRow")) = some false
  kx_NoText_NoDials : PySem.W.kitOne K (.ref (clsAt K "NoText")) (.ref (clsAt K "NoDials")) = some false
  kx_NoText_NoRings : PySem.W.kitOne K (.ref (clsAt K "NoText")) (.ref (clsAt K "NoRings")) = some false
  kx_NoText_NoCourse : PySem.W.kitOne K (.ref (clsAt K "NoText")) (.ref (clsAt K "NoCourse")) = some false
  kx_NoText_NoNumber : PySem.W.kitOne K (.ref (clsAt K "NoText")) (.ref (clsAt K "NoNumber")) = some false
  kx_NoText_NoModuli : PySem.W.kitOne K (.ref (clsAt K "NoText")) (.ref (clsAt K "NoModuli")) = some false
  kx_NoText_NoVectors : PySem.W.kitOne K (.ref (clsAt K "NoText")) (.ref (clsAt K "NoVectors")) = some false
  kx_NoText_NoVector : PySem.W.kitOne K (.ref (clsAt K "NoText")) (.ref (clsAt K "NoVector")) = some false
  kx_NoText_NoWeights : PySem.W.kitOne K (.ref (clsAt K "NoText")) (.ref (clsAt K "NoWeights")) = some false
  kx_NoText_NoTruth : PySem.W.kitOne K (.ref (clsAt K "NoText")) (.ref (clsAt K "NoTruth")) = some false
  kx_NoText_NoHistories : PySem.W.kitOne K (.ref (clsAt K "NoText")) (.ref (clsAt K "NoHistories")) = some false
  kx_NoText_NoDeed : PySem.W.kitOne K (.ref (clsAt K "NoText")) (.ref (clsAt K "NoDeed")) = some false
  kx_NoText_NoLog : PySem.W.kitOne K (.ref (clsAt K "NoText")) (.ref (clsAt K "NoLog")) = some false
  kx_NoText_NoSay : PySem.W.kitOne K (.ref (clsAt K "NoText")) (.ref (clsAt K "NoSay")) = some false
  kx_NoText_NoName : PySem.W.kitOne K (.ref (clsAt K "NoText")) (.ref (clsAt K "NoName")) = some false
  kx_NoText_NoPlace : PySem.W.kitOne K (.ref (clsAt K "NoText")) (.ref (clsAt K "NoPlace")) = some false
  kx_NoText_NoBack : PySem.W.kitOne K (.ref (clsAt K "NoText")) (.ref (clsAt K "NoBack")) = some false
  kx_NoText_TooMany : PySem.W.kitOne K (.ref (clsAt K "NoText")) (.ref (clsAt K "TooMany")) = some false
  kx_NoText_BellError : PySem.W.kitOne K (.ref (clsAt K "NoText")) (.ref (clsAt K "BellError")) = some true
  kx_NoText_LostError : PySem.W.kitOne K (.ref (clsAt K "NoText")) (.ref (clsAt K "LostError")) = some false
  kx_NoText_GreatError : PySem.W.kitOne K (.ref (clsAt K "NoText")) (.ref (clsAt K "GreatError")) = some false
  kx_NoText_ValueError : PySem.W.kitOne K (.ref (clsAt K "NoText")) (.type "ValueError") = some true
  kx_NoText_LookupError : PySem.W.kitOne K (.ref (clsAt K "NoText")) (.type "LookupError") = some false
  kx_NoText_ArithmeticError : PySem.W.kitOne K (.ref (clsAt K "NoText")) (.type "ArithmeticError") = some false
  xc_NoText : L2.XfC K (clsAt K "NoText")
  xn0_NoText : PySem.W.findIn K (.ref (clsAt K "NoText")) "row" = some none
  mx_NoText : mg "NoText" = some (.ref (clsAt K "NoText"))
  ox_NoText : OexG K (clsAt K "NoText") "ValueError.__init__"
  xn_NoText : PySem.W.findIn K (.ref (clsAt K "NoText")) "__init__" = some (some (.ref a_NoText___init__))
  xf_NoText : PySem.W.typeIn K (.ref a_NoText___init__) = some (.type "function")
  no_NoText : PySem.W.findIn K (.ref (clsAt K "NoText")) "row" = some none
  be_BellError : BaseG K (clsAt K "BellError") "ValueError.__init__"
  mx_BellError : mg "BellError" = some (.ref (clsAt K "BellError"))
  kb_show_course_course_peal : KBw K d_show_course ["peal", "course"] ["course", "peal"] @kw_show_course_course_peal
  kb_read_course_text_peal : KBw K d_read_course ["peal", "text"] ["text", "peal"] @kw_read_course_text_peal
  n_int : mg "int" = none
  n_isinstance : mg "isinstance" = none
  n_bool : mg "bool" = none
  n_str : mg "str" = none
  n_len : mg "len" = none
  n_all : mg "all" = none
  n_tuple : mg "tuple" = none
  n_enumerate : mg "enumerate" = none
  n_dict : mg "dict" = none
  n_ValueError : mg "ValueError" = none
  n_LookupError : mg "LookupError" = none
  n_ArithmeticError : mg "ArithmeticError" = none
  n_repr : mg "repr" = none
  n_abs : mg "abs" = none
  n_divmod : mg "divmod" = none
  n_range : mg "range" = none
  n_sorted : mg "sorted" = none
  n_min : mg "min" = none
  n_max : mg "max" = none
  t_MOST_LETTERS : Tok
  c_MOST_LETTERS : mg "MOST_LETTERS" = some (.int 6 t_MOST_LETTERS)
  t_LETTERS : Tok
  c_LETTERS : mg "LETTERS" = some (.str "abcdefghijklmnopqrstuvwxyz" t_LETTERS)
  t_LEAST_MARKS : Tok
  c_LEAST_MARKS : mg "LEAST_MARKS" = some (.int 2 t_LEAST_MARKS)
  t_MOST_MARKS : Tok
  c_MOST_MARKS : mg "MOST_MARKS" = some (.int 24 t_MOST_MARKS)
  t_MOST_BELLS : Tok
  c_MOST_BELLS : mg "MOST_BELLS" = some (.int 8 t_MOST_BELLS)
  t_MOST_NUMBER : Tok
  c_MOST_NUMBER : mg "MOST_NUMBER" = some (.int 99 t_MOST_NUMBER)
  t_MOST_WITHIN : Tok
  c_MOST_WITHIN : mg "MOST_WITHIN" = some (.int 5 t_MOST_WITHIN)
  t_MOST_TIMES : Tok
  c_MOST_TIMES : mg "MOST_TIMES" = some (.int 1000000000000000000000000000000 t_MOST_TIMES)
  t_MOST_PARTS : Tok
  c_MOST_PARTS : mg "MOST_PARTS" = some (.int 120 t_MOST_PARTS)
  t_NOTHING : Tok
  c_NOTHING : mg "NOTHING" = some (.str "-" t_NOTHING)
  t_FIGURES : Tok
  c_FIGURES : mg "FIGURES" = some (.str "0123456789" t_FIGURES)
  t_MOST_TIMES_FIGURES : Tok
  c_MOST_TIMES_FIGURES : mg "MOST_TIMES_FIGURES" = some (.int 31 t_MOST_TIMES_FIGURES)
/-! ### NoText___init__ -/
theorem sc_NoText___init__ : FnScope ["self", "row"] ["self", "row"] (defScope s_NoText___init__) := ⟨rfl, rfl, rfl, by decide +kernel, rfl, by decide +kernel, by decide +kernel⟩
abbrev sp_NoText___init__ [Tb] (K : PySem.W.Frag) : Sp := spE (clsAt K "NoText") "row"
theorem ok_NoText___init__ [Tb] {P : Program} {w : World} {K : PySem.W.Frag} {mg : Str → Option Value} {base : Heap} (T : Txt K mg) : FnOk P w K mg base CX0 (1) T.a_NoText___init__ T.d_NoText___init__ ["self", "row"] (sp_NoText___init__ K) := by
  refine T.F_NoText___init__.ok sc_NoText___init__ (fun vs H Q E h => ?_) (fun cdv A outer s0 H vs Q E hr h => ?_)
  · obtain ⟨H1, a, y, rfl, rfl, ha, q⟩ := h
    rfl
  · obtain ⟨H1, a, y, rfl, rfl, ha, q⟩ := h
    exact ⟨_, (pss_cons (ps_expr (pe_beinitG (by rfl) T.mx_BellError T.be_BellError (pa_cons (pv 0) (pa_cons pe_str pa_nil)))) (pss_cons (ps_ostG (j := "ValueError.__init__") (pv 0) (pv 1)) pss_nil)), init_readG T.ox_NoText T.no_NoText ha q⟩
/-! ### is_whole -/
theorem sc_is_whole : FnScope ["thing"] ["thing"] (defScope s_is_whole) := ⟨rfl, rfl, rfl, by decide +kernel, rfl, by decide +kernel, by decide +kernel⟩
def a_is_whole (K : PySem.W.Frag) (a : Int) : List V → Hp → Prop := conP (DD K (Dat.int a)) (nilP)
def m_is_whole (a : Int) : Option Bool :=
  some (true && (!false))
abbrev sp_is_whole [Tb] (K : PySem.W.Frag) : Sp := spP (a_is_whole K) (m_is_whole) fun r => DD K (Dat.bool r)
theorem ok_is_whole [Tb] {P : Program} {w : World} {K : PySem.W.Frag} {mg : Str → Option Value} {base : Heap} (T : Txt K mg) : FnOk P w K mg base CX0 (1) T.a_is_whole T.d_is_whole ["thing"] (sp_is_whole K) := by
  refine T.F_is_whole.ok sc_is_whole (fun vs H Q E h => ?_) (fun cdv A outer s0 H vs Q E hr h => ?_)
  · obtain ⟨G, M0, a, r, ok, ⟨v_thing, _, rfl, h_thing, rfl⟩, hm, q⟩ := h
    rfl
  · obtain ⟨G, M0, a, r, ok, ⟨v_thing, _, rfl, h_thing, rfl⟩, hm, q⟩ := h
    unfold m_is_whole at hm
    have sg := Same.refl G
    have hB := Same.refl M0
    refine ⟨_, (pss_cons (ps_ret (pe_and (pe_callB (call_isiKK (K := K)) (by rfl) T.n_isinstance (by decide +kernel) (pa_cons (pv 0) (pa_cons (pe_bltn (v := .ty "int") (by rfl) T.n_int (by decide +kernel) rfl) pa_nil))) (pe_one (pe_not (pe_callB (call_isiKK (K := K)) (by rfl) T.n_isinstance (by decide +kernel) (pa_cons (pv 0) (pa_cons (pe_bltn (v := .ty "bool") (by rfl) T.n_bool (by decide +kernel) rfl) pa_nil))))))) pss_nil), ?_⟩
    cases h_thing
    refine nrm (σ' := [some (.int a)]) rfl ?_
    refine q_ret (ev_and (ev_isi (d := Dat.int a) (n := "int") (b := true) rfl (show kitB "int" "int" = some true by decide +kernel) (ea_d (ev_d (K := K) rfl (.int _)) (ea_cons mo_cls ev_cls ea_nil))) fun _ => (ev_not (ev_isi (d := Dat.int a) (n := "bool") (b := false) rfl (show kitB "int" "bool" = some false by decide +kernel) (ea_d (ev_d (K := K) rfl (.int _)) (ea_cons mo_cls ev_cls ea_nil))))) ok (fun v G H s1 ok hv => ?_)
    have sg := sg.trans s1
    cases hm
    exact q v G H sg (ok.less hB) hv
/-! ### is_within -/
theorem sc_is_within : FnScope ["thing", "low", "high"] ["thing", "low", "high"] (defScope s_is_within) := ⟨rfl, rfl, rfl, by decide +kernel, rfl, by decide +kernel, by decide +kernel⟩
def a_is_within (K : PySem.W.Frag) (a : Int × Int × Int) : List V → Hp → Prop := conP (DD K (Dat.int a.1)) (conP (DD K (Dat.int a.2.1)) (conP (DD K (Dat.int a.2.2)) (nilP)))
def m_is_within (a : Int × Int × Int) : Option Bool :=
  (m_is_whole a.1).bind fun t1 => some (t1 && ((decide (a.2.1 ≤ a.1)) && (decide (a.1 ≤ a.2.2))))
abbrev sp_is_within [Tb] (K : PySem.W.Frag) : Sp := spP (a_is_within K) (m_is_within) fun r => DD K (Dat.bool r)
theorem ok_is_within [Tb] {P : Program} {w : World} {K : PySem.W.Frag} {mg : Str → Option Value} {base : Heap} (T : Txt K mg) (O_is_whole : FnOk P w K mg base CX0 1 T.a_is_whole T.d_is_whole ["thing"] (sp_is_whole K)) : FnOk P w K mg base CX0 (2) T.a_is_within T.d_is_within ["thing", "low", "high"] (sp_is_within K) := by
  refine T.F_is_within.ok sc_is_within (fun vs H Q E h => ?_) (fun cdv A outer s0 H vs Q E hr h => ?_)
  · obtain ⟨G, M0, a, r, ok, ⟨v_thing, _, rfl, h_thing, v_low, _, rfl, h_low, v_high, _, rfl, h_high, rfl⟩, hm, q⟩ := h
    rfl
  · obtain ⟨G, M0, a, r, ok, ⟨v_thing, _, rfl, h_thing, v_low, _, rfl, h_low, v_high, _, rfl, h_high, rfl⟩, hm, q⟩ := h
    unfold m_is_within at hm
    have sg := Same.refl G
    have hB := Same.refl M0
    refine ⟨_, (pss_cons (ps_ret (pe_and (pe_call O_is_whole (hr.mono (by decide)) (by rfl) T.g_is_whole T.F_is_whole.kp T.b_is_whole .nil pass0 (pa_cons (pv 0) pa_nil)) (pe_one (pe_chain op_le op_le (pv 1) (pv 0) (pv 2))))) pss_nil), ?_⟩
    cases h_thing
    cases h_low
    cases h_high
    refine nrm (σ' := [some (.int a.1), some (.int a.2.1), some (.int a.2.2)]) rfl ?_
    obtain ⟨t1, e_t1, hm⟩ := bs hm
    refine q_ret (ev_and (ev_callP (res := fun r => DD K (Dat.bool r)) (a := a.1) e_t1 (ea_d (ev_d (K := K) rfl (.int _)) ea_nil)) fun _ => (ev_chainI (ev_d (K := K) rfl (.int _)) (ev_d (K := K) rfl (.int _)) (ev_d (K := K) rfl (.int _)))) ok (fun v G H s1 ok hv => ?_)
    have sg := sg.trans s1
    cases hm
    exact q v G H sg (ok.less hB) hv
/-! ### is_name -/
theorem sc_is_name : FnScope ["thing", "sign"] ["thing"] (defScope s_is_name) := ⟨rfl, rfl, rfl, by decide +kernel, rfl, by decide +kernel, by decide +kernel⟩
def a_is_name (K : PySem.W.Frag) (a : Str) : List V → Hp → Prop := conP (DD K (Dat.str a)) (nilP)
def m_is_name (a : Str) : Option Bool :=
  (cond (!true) (some true) ((lenS a).bind fun t1 => some (!((decide ((1 : Int) ≤ t1)) && (decide (t1 ≤ (6 : Int))))))).bind fun t2 => cond t2 (some false) ((lcO (fun x3 : Str => (inSign x3 (Str.ofString "abcdefghijklmnopqrstuvwxyz")).bind fun t9 => some t9) (signs a)).bind fun t10 => some (t10.all id))
abbrev sp_is_name [Tb] (K : PySem.W.Frag) : Sp := spP (a_is_name K) (m_is_name) fun r => DD K (Dat.bool r)
theorem ok_is_name [Tb] {P : Program} {w : World} {K : PySem.W.Frag} {mg : Str → Option Value} {base : Heap} (T : Txt K mg) : FnOk P w K mg base CX0 (1) T.a_is_name T.d_is_name ["thing"] (sp_is_name K) := by
  refine T.F_is_name.ok sc_is_name (fun vs H Q E h => ?_) (fun cdv A outer s0 H vs Q E hr h => ?_)
  · obtain ⟨G, M0, a, r, ok, ⟨v_thing, _, rfl, h_thing, rfl⟩, hm, q⟩ := h
    rfl
  · obtain ⟨G, M0, a, r, ok, ⟨v_thing, _, rfl, h_thing, rfl⟩, hm, q⟩ := h
    unfold m_is_name at hm
    have sg := Same.refl G
    have hB := Same.refl M0
    refine ⟨_, (pss_cons (ps_if (PW.pt (pw_or (pt_not (pt_val (pe_callB (call_isiKK (K := K)) (by rfl) T.n_isinstance (by decide +kernel) (pa_cons (pv 0) (pa_cons (pe_bltn (v := .ty "str") (by rfl) T.n_str (by decide +kernel) rfl) pa_nil))))) (pw_or1 (pt_not (pt_chain op_le op_le pe_int (pe_callB cl_lenS (by rfl) T.n_len (by decide +kernel) (pa_cons (pv 0) pa_nil)) (pe_glob (v := .int 6) (by rfl) T.c_MOST_LETTERS ⟨_, rfl⟩)))))) (pss_cons (ps_ret pe_bl) pss_nil) pss_nil) (pss_cons (ps_ret (pe_callB (cr_allK (K := K) rfl) (by rfl) T.n_all (by decide +kernel) (pa_cons (pe_lc (own := [("sign", 1)]) (g := (gName 1)) (tt := tYes) rfl sc_is_name.nd (pi_str (pv 0)) (blkOk_by (own := [("sign", 1)]) (N := ["thing", "sign"]) (sc := defScope s_is_name) (by decide +kernel)) (fun _ _ _ _ _ => (pg_name (i := 1) sc_is_name.nd rfl (by first | exact .inl rfl | exact .inr rfl))) (fun _ _ _ _ _ => pts_nil) (fun _ _ _ _ _ => (pe_cmpR op_in_sign (pv 1) (pe_glob (v := .str "abcdefghijklmnopqrstuvwxyz") (by rfl) T.c_LETTERS ⟨_, rfl⟩) (by rfl)))) pa_nil))) pss_nil)), ?_⟩
    refine nrm (σ' := [some v_thing, none]) rfl ?_
    obtain ⟨t2, e_t2, hm⟩ := bs hm
    refine q_if (et_orG (c := t2) (et_not (et_B (ev_isi (d := Dat.str a) (n := "str") (b := true) rfl (show kitB "str" "str" = some true by decide +kernel) (ea_d (ev_d (K := K) rfl h_thing) (ea_cons mo_cls ev_cls ea_nil))))) (fun eb => by have e1 := cond_f eb e_t2; (obtain ⟨t1, e_t1, e1⟩ := bs e1); (have e1 := Option.some.inj e1); subst e1; exact (et_not (et_test (ev_chainI (ev_int (K := K)) (ev_lenS e_t1 (ea_d (ev_d (K := K) rfl h_thing) ea_nil)) (ev_int (K := K)))))) (fun eb => by have e1 := cond_t eb e_t2; cases e1; exact ⟨rfl, rfl⟩)) ok (fun hb G H s1 ok => ?_) (fun hb G H s1 ok => ?_)
    · have hm := cond_t hb hm
      have h_thing := dp_up s1 _ h_thing
      have sg := sg.trans s1
      refine q_ret (ev_bl (K := K)) ok (fun v G H s1 ok hv => ?_)
      have sg := sg.trans s1
      cases hm
      exact q v G H sg (ok.less hB) hv
    · have hm := cond_f hb hm
      have h_thing := dp_up s1 _ h_thing
      have sg := sg.trans s1
      refine q_nilU ?_
      obtain ⟨t10, e_t10, hm⟩ := bs hm
      refine q_ret (ev_allL (ea_d (EvL.ev (el_lcM (ea := Dat.str) (eb := Dat.bool) (xs := (signs a)) (ys := t10) (hf := e_t10) (Src.is (src_str (ev_d (K := K) rfl h_thing)) signs_map) (fun x3 _ Mx7 _ _ he8 sM6 sG5 hv4 => by (obtain ⟨t9, e_t9, he8⟩ := bs he8); (have he8 := Option.some.inj he8); subst he8; exact (tg_name ⟨rfl, (ev_inSign e_t9 (ev_d (K := K) rfl hv4) (ev_str (K := K) (by decide +kernel)))⟩)))) ea_nil)) ok (fun v G H s1 ok hv => ?_)
      have sg := sg.trans s1
      cases hm
      exact q v G H sg (ok.less hB) hv
/-! ### is_bell -/
theorem sc_is_bell : FnScope ["thing"] ["thing"] (defScope s_is_bell) := ⟨rfl, rfl, rfl, by decide +kernel, rfl, by decide +kernel, by decide +kernel⟩
def a_is_bell (K : PySem.W.Frag) (a : (Str × Int)) : List V → Hp → Prop := conP (DD K ((eP2 Dat.str Dat.int) a)) (nilP)
def m_is_bell (a : (Str × Int)) : Option Bool :=
  cond ((!true) || (!decide ((2 : Int) = (2 : Int)))) (some false) ((m_is_name a.1).bind fun t1 => (cond t1 ((m_is_within (a.2, (2 : Int), (24 : Int))).bind fun t2 => some t2) (some false)).bind fun t3 => some t3)
abbrev sp_is_bell [Tb] (K : PySem.W.Frag) : Sp := spP (a_is_bell K) (m_is_bell) fun r => DD K (Dat.bool r)
theorem ok_is_bell [Tb] {P : Program} {w : World} {K : PySem.W.Frag} {mg : Str → Option Value} {base : Heap} (T : Txt K mg) (O_is_name : FnOk P w K mg base CX0 1 T.a_is_name T.d_is_name ["thing"] (sp_is_name K)) (O_is_within : FnOk P w K mg base CX0 2 T.a_is_within T.d_is_within ["thing", "low", "high"] (sp_is_within K)) : FnOk P w K mg base CX0 (3) T.a_is_bell T.d_is_bell ["thing"] (sp_is_bell K) := by
  refine T.F_is_bell.ok sc_is_bell (fun vs H Q E h => ?_) (fun cdv A outer s0 H vs Q E hr h => ?_)
  · obtain ⟨G, M0, a, r, ok, ⟨v_thing, _, rfl, h_thing, rfl⟩, hm, q⟩ := h
    rfl
  · obtain ⟨G, M0, a, r, ok, ⟨v_thing, _, rfl, h_thing, rfl⟩, hm, q⟩ := h
    unfold m_is_bell at hm
    have sg := Same.refl G
    have hB := Same.refl M0
    refine ⟨_, (pss_cons (ps_if (PW.pt (pw_or (pt_not (pt_val (pe_callB (call_isiKK (K := K)) (by rfl) T.n_isinstance (by decide +kernel) (pa_cons (pv 0) (pa_cons (pe_bltn (v := .ty "tuple") (by rfl) T.n_tuple (by decide +kernel) rfl) pa_nil))))) (pw_or1 (pt_cmpR op_ne (pe_callB (cl_lenK (K := K)) (by rfl) T.n_len (by decide +kernel) (pa_cons (pv 0) pa_nil)) pe_int (nomark _))))) (pss_cons (ps_ret pe_bl) pss_nil) pss_nil) (pss_cons (ps_ret (pe_and (pe_call O_is_name (hr.mono (by decide)) (by rfl) T.g_is_name T.F_is_name.kp T.b_is_name .nil pass0 (pa_cons (pe_ix (ix_tupK (K := K)) (pv 0) pe_int (fun _ _ => rfl)) pa_nil)) (pe_one (pe_call O_is_within (hr.mono (by decide)) (by rfl) T.g_is_within T.F_is_within.kp T.b_is_within .nil pass0 (pa_cons (pe_ix (ix_tupK (K := K)) (pv 0) pe_int (fun _ _ => rfl)) (pa_cons (pe_glob (v := .int 2) (by rfl) T.c_LEAST_MARKS ⟨_, rfl⟩) (pa_cons (pe_glob (v := .int 24) (by rfl) T.c_MOST_MARKS ⟨_, rfl⟩) pa_nil))))))) pss_nil)), ?_⟩
    refine nrm (σ' := [some v_thing]) rfl ?_
    refine q_if (et_or (et_not (et_B (ev_isi (d := (eP2 Dat.str Dat.int) a) (n := "tuple") (b := true) rfl (show kitB "tuple" "tuple" = some true by decide +kernel) (ea_d (ev_d (K := K) rfl h_thing) (ea_cons mo_cls ev_cls ea_nil))))) fun _ => (et_test (ev_neI (ev_lenT (ea_d (ev_d (K := K) rfl h_thing) ea_nil)) (ev_int (K := K))))) ok (fun hb G H s1 ok => ?_) (fun hb G H s1 ok => ?_)
    · have hm := cond_t hb hm
      have h_thing := dp_up s1 _ h_thing
      have sg := sg.trans s1
      refine q_ret (ev_bl (K := K)) ok (fun v G H s1 ok hv => ?_)
      have sg := sg.trans s1
      cases hm
      exact q v G H sg (ok.less hB) hv
    · have hm := cond_f hb hm
      have h_thing := dp_up s1 _ h_thing
      have sg := sg.trans s1
      refine q_nilU ?_
      obtain ⟨t1, e_t1, hm⟩ := bs hm
      obtain ⟨t3, e_t3, hm⟩ := bs hm
      refine q_ret (ev_andG (c := t3) (ev_callP (res := fun r => DD K (Dat.bool r)) (a := a.1) e_t1 (ea_d (ev_ixT (d := Dat.str a.1) rfl (ev_d (K := K) rfl h_thing) ev_int) ea_nil)) (fun eb => by have e1 := cond_t eb e_t3; (obtain ⟨t2, e_t2, e1⟩ := bs e1); (have e1 := Option.some.inj e1); subst e1; exact (ev_callP (res := fun r => DD K (Dat.bool r)) (a := (a.2, (2 : Int), (24 : Int))) e_t2 (ea_d (ev_ixT (d := Dat.int a.2) rfl (ev_d (K := K) rfl h_thing) ev_int) (ea_d (ev_int (K := K)) (ea_d (ev_int (K := K)) ea_nil))))) (fun eb => by have e1 := cond_f eb e_t3; cases e1; exact ⟨rfl, rfl⟩)) ok (fun v G H s1 ok hv => ?_)
      have sg := sg.trans s1
      cases hm
      exact q v G H sg (ok.less hB) hv
/-! ### check_bells -/
theorem sc_check_bells : FnScope ["bells", "place", "bell"] ["bells"] (defScope s_check_bells) := ⟨rfl, rfl, rfl, by decide +kernel, rfl, by decide +kernel, by decide +kernel⟩
def a_check_bells (K : PySem.W.Frag) (a : (List (Str × Int))) : List V → Hp → Prop := conP (DD K ((eT (eP2 Dat.str Dat.int)) a)) (nilP)
def m_check_bells (a : (List (Str × Int))) : Option Unit :=
  cond ((!true) || (!((decide ((1 : Int) ≤ (a.length : Int))) && (decide ((a.length : Int) ≤ (8 : Int)))))) (none) ((forO (fun (st2 : Unit) (x3 : (Int × (Str × Int))) => (m_is_bell x3.2).bind fun t12 => (cond (!t12) (some true) ((cond (decide ((0 : Int) < x3.1)) ((atI a (x3.1 - (1 : Int))).bind fun t13 => some (!sLt t13.1 x3.2.1)) (some false)).bind fun t14 => some t14)).bind fun t15 => cond t15 (none) (some ())) (enum a) ()).bind fun fin1 => some ())
abbrev sp_check_bells [Tb] (K : PySem.W.Frag) : Sp := spP (a_check_bells K) (m_check_bells) fun r => DD K (eN r)
theorem ok_check_bells [Tb] {P : Program} {w : World} {K : PySem.W.Frag} {mg : Str → Option Value} {base : Heap} (T : Txt K mg) (O_is_bell : FnOk P w K mg base CX0 3 T.a_is_bell T.d_is_bell ["thing"] (sp_is_bell K)) : FnOk P w K mg base CX0 (4) T.a_check_bells T.d_check_bells ["bells"] (sp_check_bells K) := by
  refine T.F_check_bells.ok sc_check_bells (fun vs H Q E h => ?_) (fun cdv A outer s0 H vs Q E hr h => ?_)
  · obtain ⟨G, M0, a, r, ok, ⟨v_bells, _, rfl, h_bells, rfl⟩, hm, q⟩ := h
    rfl
  · obtain ⟨G, M0, a, r, ok, ⟨v_bells, _, rfl, h_bells, rfl⟩, hm, q⟩ := h
    unfold m_check_bells at hm
    have sg := Same.refl G
    have hB := Same.refl M0
    refine ⟨_, (pss_cons (ps_if (PW.pt (pw_or (pt_not (pt_val (pe_callB (call_isiKK (K := K)) (by rfl) T.n_isinstance (by decide +kernel) (pa_cons (pv 0) (pa_cons (pe_bltn (v := .ty "tuple") (by rfl) T.n_tuple (by decide +kernel) rfl) pa_nil))))) (pw_or1 (pt_not (pt_chain op_le op_le pe_int (pe_callB (cl_lenK (K := K)) (by rfl) T.n_len (by decide +kernel) (pa_cons (pv 0) pa_nil)) (pe_glob (v := .int 8) (by rfl) T.c_MOST_BELLS ⟨_, rfl⟩)))))) (pss_cons ps_never pss_nil) pss_nil) (pss_cons (ps_for PassesOwn.never rfl (pi_enumTK (K := K) (by rfl) T.n_enumerate (pa_cons (pv 0) pa_nil)) (pg_tup rfl (pgs_cons (pg_name (i := 1) sc_check_bells.nd rfl (.inl rfl)) (pgs_cons (pg_name (i := 2) sc_check_bells.nd rfl (.inl rfl)) pgs_nil))) (pss_cons (ps_if (PW.pt (pw_or (pt_not (pt_val (pe_call O_is_bell (hr.mono (by decide)) (by rfl) T.g_is_bell T.F_is_bell.kp T.b_is_bell .nil pass0 (pa_cons (pv 2) pa_nil)))) (pw_or1 (PW.pt (pw_and (pt_cmpR op_gt (pv 1) pe_int (nomark _)) (pw_and1 (pt_cmpR op_le_str (pe_ix (ix_tupK (K := K)) (pv 2) pe_int (fun _ _ => rfl)) (pe_ix (ix_tupK (K := K)) (pe_ix (ix_tupK (K := K)) (pv 0) (pe_op op_sub (pv 1) pe_int) (fun _ _ => rfl)) pe_int (fun _ _ => rfl)) (nomark _)))))))) (pss_cons ps_never pss_nil) pss_nil) pss_nil)) pss_nil)), ?_⟩
    refine nrm (σ' := [some v_bells, none, none]) rfl ?_
    refine q_if (et_or (et_not (et_B (ev_isi (d := (eT (eP2 Dat.str Dat.int)) a) (n := "tuple") (b := true) rfl (show kitB "tuple" "tuple" = some true by decide +kernel) (ea_d (ev_d (K := K) rfl h_bells) (ea_cons mo_cls ev_cls ea_nil))))) fun _ => (et_not (et_test (ev_chainI (ev_int (K := K)) (ev_lenTM (e := (eP2 Dat.str Dat.int)) (ea_d (ev_d (K := K) rfl h_bells) ea_nil)) (ev_int (K := K)))))) ok (fun hb G H s1 ok => ?_) (fun hb G H s1 ok => ?_)
    · have hm := cond_t hb hm
      have h_bells := dp_up s1 _ h_bells
      have sg := sg.trans s1
      cases hm
    · have hm := cond_f hb hm
      have h_bells := dp_up s1 _ h_bells
      have sg := sg.trans s1
      refine q_nilU ?_
      obtain ⟨fin1, e_fin1, hm⟩ := bs hm
      have hmo4 := hm
      refine q_forO (ea := (eR2 Dat.int (eP2 Dat.str Dat.int))) (Src.is (src_enumT (ea_d (ev_d (K := K) rfl h_bells) ea_nil)) enumD_map) ok (fun (st2 : Unit) σ1 G1 M1 => ∃ (y_place : Option V) (y_bell : Option V), σ1 = [some v_bells, y_place, y_bell] ∧ (Same M0 M1)) e_fin1 (fun G1 s1 => ⟨_, _, rfl, hB⟩) (by rintro _ _ _ _ _ ⟨y_place, y_bell, rfl, hB⟩ s2; exact ⟨_, _, rfl, hB⟩) (fun x3 xv6 st2 st' σ1 G M H N hm hj s1 ok hv hN => ?_) (fun σ1 G M H s1 ok hj => ?_)
      · obtain ⟨y_place, y_bell, rfl, hB⟩ := hj
        have h_bells := dp_up s1 _ h_bells
        have sg := sg.trans s1
        have sl7 := Same.refl G
        refine gr2 hv ok.g (fun w8 w9 hw10 hw11 => ?_)
        refine gn ?_
        have h_place := hw10
        cases h_place
        refine gn ?_
        have h_bell := hw11
        refine nrm (σ' := [some v_bells, some (.int x3.1), some w9]) rfl ?_
        obtain ⟨t12, e_t12, hm⟩ := bs hm
        obtain ⟨t15, e_t15, hm⟩ := bs hm
        refine q_if (et_orG (c := t15) (et_not (et_B (ev_callP (res := fun r => DD K (Dat.bool r)) (a := x3.2) e_t12 (ea_d (ev_d (K := K) rfl h_bell) ea_nil)))) (fun eb => by have e1 := cond_f eb e_t15; (obtain ⟨t14, e_t14, e1⟩ := bs e1); (have e1 := Option.some.inj e1); subst e1; exact (et_andG (c := t14) (et_test (ev_gt (ev_d (K := K) rfl (.int _)) (ev_int (K := K)))) (fun eb => by have e1 := cond_t eb e_t14; (obtain ⟨t13, e_t13, e1⟩ := bs e1); (have e1 := Option.some.inj e1); subst e1; exact (et_test (ev_leS (ev_ixT (d := Dat.str x3.2.1) rfl (ev_d (K := K) rfl h_bell) ev_int) (ev_ixT (d := Dat.str t13.1) rfl (ev_ixTM (e := (eP2 Dat.str Dat.int)) e_t13 (ev_d (K := K) rfl h_bells) (ev_sub (ev_d (K := K) rfl (.int _)) (ev_int (K := K)))) ev_int)))) (fun eb => by have e1 := cond_f eb e_t14; cases e1; exact ⟨rfl, rfl⟩))) (fun eb => by have e1 := cond_t eb e_t15; cases e1; exact ⟨rfl, rfl⟩)) ok (fun hb G H s1 ok => ?_) (fun hb G H s1 ok => ?_)
        · have hm := cond_t hb hm
          have h_bells := dp_up s1 _ h_bells
          have h_bell := dp_up s1 _ h_bell
          have sg := sg.trans s1
          have sl7 := sl7.trans s1
          cases hm
        · have hm := cond_f hb hm
          have h_bells := dp_up s1 _ h_bells
          have h_bell := dp_up s1 _ h_bell
          have sg := sg.trans s1
          have sl7 := sl7.trans s1
          refine q_nilU ?_
          refine q_nil ?_
          cases hm
          exact hN _ _ _ _ sl7 ok ⟨_, _, rfl, hB⟩
      · obtain ⟨y_place, y_bell, rfl, hB⟩ := hj
        have h_bells := dp_up s1 _ h_bells
        have sg := sg.trans s1
        refine q_nil ?_
        cases hm
        exact q _ _ _ sg (ok.less hB) .non
/-! ### is_notch -/
theorem sc_is_notch : FnScope ["thing", "names", "part"] ["thing", "names"] (defScope s_is_notch) := ⟨rfl, rfl, rfl, by decide +kernel, rfl, by decide +kernel, by decide +kernel⟩
def a_is_notch (K : PySem.W.Frag) (a : (Str × Str × Int) × (List Str)) : List V → Hp → Prop := conP (DD K ((eP3 Dat.str Dat.str Dat.int) a.1)) (conP (DD K ((eL Dat.str) a.2)) (nilP))
def m_is_notch (a : (Str × Str × Int) × (List Str)) : Option Bool :=
  cond ((!true) || (!decide ((3 : Int) = (3 : Int)))) (some false) ((lcO (fun x1 : Str => (m_is_name x1).bind fun t7 => some (t7 && (memB x1 a.2))) [(a.1.1, a.1.2.1).1, (a.1.1, a.1.2.1).2]).bind fun t8 => cond (!(t8.all id)) (some false) ((cond (!decide (a.1.1 = a.1.2.1)) ((m_is_within (a.1.2.2, (1 : Int), (99 : Int))).bind fun t9 => some t9) (some false)).bind fun t10 => some t10))
abbrev sp_is_notch [Tb] (K : PySem.W.Frag) : Sp := spP (a_is_notch K) (m_is_notch) fun r => DD K (Dat.bool r)
theorem ok_is_notch [Tb] {P : Program} {w : World} {K : PySem.W.Frag} {mg : Str → Option Value} {base : Heap} (T : Txt K mg) (O_is_name : FnOk P w K mg base CX0 1 T.a_is_name T.d_is_name ["thing"] (sp_is_name K)) (O_is_within : FnOk P w K mg base CX0 2 T.a_is_within T.d_is_within ["thing", "low", "high"] (sp_is_within K)) : FnOk P w K mg base CX0 (3) T.a_is_notch T.d_is_notch ["thing", "names"] (sp_is_notch K) := by
  refine T.F_is_notch.ok sc_is_notch (fun vs H Q E h => ?_) (fun cdv A outer s0 H vs Q E hr h => ?_)
  · obtain ⟨G, M0, a, r, ok, ⟨v_thing, _, rfl, h_thing, v_names, _, rfl, h_names, rfl⟩, hm, q⟩ := h
    rfl
  · obtain ⟨G, M0, a, r, ok, ⟨v_thing, _, rfl, h_thing, v_names, _, rfl, h_names, rfl⟩, hm, q⟩ := h
    unfold m_is_notch at hm
    have sg := Same.refl G
    have hB := Same.refl M0
    refine ⟨_, (pss_cons (ps_if (PW.pt (pw_or (pt_not (pt_val (pe_callB (call_isiKK (K := K)) (by rfl) T.n_isinstance (by decide +kernel) (pa_cons (pv 0) (pa_cons (pe_bltn (v := .ty "tuple") (by rfl) T.n_tuple (by decide +kernel) rfl) pa_nil))))) (pw_or1 (pt_cmpR op_ne (pe_callB (cl_lenK (K := K)) (by rfl) T.n_len (by decide +kernel) (pa_cons (pv 0) pa_nil)) pe_int (nomark _))))) (pss_cons (ps_ret pe_bl) pss_nil) pss_nil) (pss_cons (ps_if (pt_not (pt_val (pe_callB (cr_allK (K := K) rfl) (by rfl) T.n_all (by decide +kernel) (pa_cons (pe_lc (own := [("part", 2)]) (g := (gName 2)) (tt := tYes) rfl sc_is_notch.nd (pi_tupK (K := K) (pe_slice (sl_tupK (K := K)) (pv 0) po_none (po_some pe_int))) (blkOk_by (own := [("part", 2)]) (N := ["thing", "names", "part"]) (sc := defScope s_is_notch) (by decide +kernel)) (fun _ _ _ _ _ => (pg_name (i := 2) sc_is_notch.nd rfl (by first | exact .inl rfl | exact .inr rfl))) (fun _ _ _ _ _ => pts_nil) (fun _ _ _ _ _ => (pe_and (pe_call O_is_name (hr.mono (by decide)) (by rfl) T.g_is_name T.F_is_name.kp T.b_is_name .nil pass0 (pa_cons (pv 2) pa_nil)) (pe_one (pe_cmpR (op_inSK (K := K)) (pv 2) (pv 1) (by rfl)))))) pa_nil)))) (pss_cons (ps_ret pe_bl) pss_nil) pss_nil) (pss_cons (ps_ret (pe_and (pe_cmpR op_ne (pe_ix (ix_tupK (K := K)) (pv 0) pe_int (fun _ _ => rfl)) (pe_ix (ix_tupK (K := K)) (pv 0) pe_int (fun _ _ => rfl)) (nomark _)) (pe_one (pe_call O_is_within (hr.mono (by decide)) (by rfl) T.g_is_within T.F_is_within.kp T.b_is_within .nil pass0 (pa_cons (pe_ix (ix_tupK (K := K)) (pv 0) pe_int (fun _ _ => rfl)) (pa_cons pe_int (pa_cons (pe_glob (v := .int 99) (by rfl) T.c_MOST_NUMBER ⟨_, rfl⟩) pa_nil))))))) pss_nil))), ?_⟩
    refine nrm (σ' := [some v_thing, some v_names, none]) rfl ?_
    refine q_if (et_or (et_not (et_B (ev_isi (d := (eP3 Dat.str Dat.str Dat.int) a.1) (n := "tuple") (b := true) rfl (show kitB "tuple" "tuple" = some true by decide +kernel) (ea_d (ev_d (K := K) rfl h_thing) (ea_cons mo_cls ev_cls ea_nil))))) fun _ => (et_test (ev_neI (ev_lenT (ea_d (ev_d (K := K) rfl h_thing) ea_nil)) (ev_int (K := K))))) ok (fun hb G H s1 ok => ?_) (fun hb G H s1 ok => ?_)
    · have hm := cond_t hb hm
      have h_thing := dp_up s1 _ h_thing
      have h_names := dp_up s1 _ h_names
      have sg := sg.trans s1
      refine q_ret (ev_bl (K := K)) ok (fun v G H s1 ok hv => ?_)
      have sg := sg.trans s1
      cases hm
      exact q v G H sg (ok.less hB) hv
    · have hm := cond_f hb hm
      have h_thing := dp_up s1 _ h_thing
      have h_names := dp_up s1 _ h_names
      have sg := sg.trans s1
      refine q_nilU ?_
      obtain ⟨t8, e_t8, hm⟩ := bs hm
      refine q_if (et_not (et_B (ev_allL (ea_d (EvL.ev (el_lcM (ea := Dat.str) (eb := Dat.bool) (xs := [(a.1.1, a.1.2.1).1, (a.1.1, a.1.2.1).2]) (ys := t8) (hf := e_t8) (Src.is (src_tup (ev_is (ev_slT (ev_d (K := K) rfl h_thing) eo_none (eo_some (ev_int (K := K)))) rfl)) rfl) (fun x1 _ Mx5 _ _ he6 sM4 sG3 hv2 => by (obtain ⟨t7, e_t7, he6⟩ := bs he6); cases he6; exact (tg_name ⟨rfl, (ev_and (ev_callP (res := fun r => DD K (Dat.bool r)) (a := x1) e_t7 (ea_d (ev_d (K := K) rfl hv2) ea_nil)) fun _ => (ev_inS (k := false) (xs := a.2) (ev_d (K := K) rfl hv2) (ev_d (K := K) rfl (dp_up sG3 _ h_names))))⟩)))) ea_nil)))) ok (fun hb G H s1 ok => ?_) (fun hb G H s1 ok => ?_)
      · have hm := cond_t hb hm
        have h_thing := dp_up s1 _ h_thing
        have h_names := dp_up s1 _ h_names
        have sg := sg.trans s1
        refine q_ret (ev_bl (K := K)) ok (fun v G H s1 ok hv => ?_)
        have sg := sg.trans s1
        cases hm
        exact q v G H sg (ok.less hB) hv
      · have hm := cond_f hb hm
        have h_thing := dp_up s1 _ h_thing
        have h_names := dp_up s1 _ h_names
        have sg := sg.trans s1
        refine q_nilU ?_
        obtain ⟨t10, e_t10, hm⟩ := bs hm
        refine q_ret (ev_andG (c := t10) (ev_neS (ev_ixT (d := Dat.str a.1.1) rfl (ev_d (K := K) rfl h_thing) ev_int) (ev_ixT (d := Dat.str a.1.2.1) rfl (ev_d (K := K) rfl h_thing) ev_int)) (fun eb => by have e1 := cond_t eb e_t10; (obtain ⟨t9, e_t9, e1⟩ := bs e1); (have e1 := Option.some.inj e1); subst e1; exact (ev_callP (res := fun r => DD K (Dat.bool r)) (a := (a.1.2.2, (1 : Int), (99 : Int))) e_t9 (ea_d (ev_ixT (d := Dat.int a.1.2.2) rfl (ev_d (K := K) rfl h_thing) ev_int) (ea_d (ev_int (K := K)) (ea_d (ev_int (K := K)) ea_nil))))) (fun eb => by have e1 := cond_f eb e_t10; cases e1; exact ⟨rfl, rfl⟩)) ok (fun v G H s1 ok hv => ?_)
        have sg := sg.trans s1
        cases hm
        exact q v G H sg (ok.less hB) hv
/-! ### check_notches -/
theorem sc_check_notches : FnScope ["notches", "names", "place", "notch"] ["notches", "names"] (defScope s_check_notches) := ⟨rfl, rfl, rfl, by decide +kernel, rfl, by decide +kernel, by decide +kernel⟩
def a_check_notches (K : PySem.W.Frag) (a : (List (Str × Str × Int)) × (List Str)) : List V → Hp → Prop := conP (DD K ((eT (eP3 Dat.str Dat.str Dat.int)) a.1)) (conP (DD K ((eL Dat.str) a.2)) (nilP))
def m_check_notches (a : (List (Str × Str × Int)) × (List Str)) : Option Unit :=
  cond (!true) (none) ((forO (fun (st2 : Unit) (x3 : (Int × (Str × Str × Int))) => (m_is_notch (x3.2, a.2)).bind fun t12 => (cond (!t12) (some true) ((cond (decide ((0 : Int) < x3.1)) ((atI a.1 (x3.1 - (1 : Int))).bind fun t13 => some (!ltP (t13.1, t13.2.1) (x3.2.1, x3.2.2.1))) (some false)).bind fun t14 => some t14)).bind fun t15 => cond t15 (none) (some ())) (enum a.1) ()).bind fun fin1 => some ())
abbrev sp_check_notches [Tb] (K : PySem.W.Frag) : Sp := spP (a_check_notches K) (m_check_notches) fun r => DD K (eN r)
theorem ok_check_notches [Tb] {P : Program} {w : World} {K : PySem.W.Frag} {mg : Str → Option Value} {base : Heap} (T : Txt K mg) (O_is_notch : FnOk P w K mg base CX0 3 T.a_is_notch T.d_is_notch ["thing", "names"] (sp_is_notch K)) : FnOk P w K mg base CX0 (4) T.a_check_notches T.d_check_notches ["notches", "names"] (sp_check_notches K) := by
  refine T.F_check_notches.ok sc_check_notches (fun vs H Q E h => ?_) (fun cdv A outer s0 H vs Q E hr h => ?_)
  · obtain ⟨G, M0, a, r, ok, ⟨v_notches, _, rfl, h_notches, v_names, _, rfl, h_names, rfl⟩, hm, q⟩ := h
    rfl
  · obtain ⟨G, M0, a, r, ok, ⟨v_notches, _, rfl, h_notches, v_names, _, rfl, h_names, rfl⟩, hm, q⟩ := h
    unfold m_check_notches at hm
    have sg := Same.refl G
    have hB := Same.refl M0
    refine ⟨_, (pss_cons (ps_if (pt_not (pt_val (pe_callB (call_isiKK (K := K)) (by rfl) T.n_isinstance (by decide +kernel) (pa_cons (pv 0) (pa_cons (pe_bltn (v := .ty "tuple") (by rfl) T.n_tuple (by decide +kernel) rfl) pa_nil))))) (pss_cons ps_never pss_nil) pss_nil) (pss_cons (ps_for PassesOwn.never rfl (pi_enumTK (K := K) (by rfl) T.n_enumerate (pa_cons (pv 0) pa_nil)) (pg_tup rfl (pgs_cons (pg_name (i := 2) sc_check_notches.nd rfl (.inl rfl)) (pgs_cons (pg_name (i := 3) sc_check_notches.nd rfl (.inl rfl)) pgs_nil))) (pss_cons (ps_if (PW.pt (pw_or (pt_not (pt_val (pe_call O_is_notch (hr.mono (by decide)) (by rfl) T.g_is_notch T.F_is_notch.kp T.b_is_notch .nil pass0 (pa_cons (pv 3) (pa_cons (pv 1) pa_nil))))) (pw_or1 (PW.pt (pw_and (pt_cmpR op_gt (pv 2) pe_int (nomark _)) (pw_and1 (pt_cmpR (op_leD (K := K) hr.units) (pe_slice (sl_tupK (K := K)) (pv 3) po_none (po_some pe_int)) (pe_slice (sl_tupK (K := K)) (pe_ix (ix_tupK (K := K)) (pv 0) (pe_op op_sub (pv 2) pe_int) (fun _ _ => rfl)) po_none (po_some pe_int)) (nomark _)))))))) (pss_cons ps_never pss_nil) pss_nil) pss_nil)) pss_nil)), ?_⟩
    refine nrm (σ' := [some v_notches, some v_names, none, none]) rfl ?_
    refine q_if (et_not (et_B (ev_isi (d := (eT (eP3 Dat.str Dat.str Dat.int)) a.1) (n := "tuple") (b := true) rfl (show kitB "tuple" "tuple" = some true by decide +kernel) (ea_d (ev_d (K := K) rfl h_notches) (ea_cons mo_cls ev_cls ea_nil))))) ok (fun hb G H s1 ok => ?_) (fun hb G H s1 ok => ?_)
    · have hm := cond_t hb hm
      have h_notches := dp_up s1 _ h_notches
      have h_names := dp_up s1 _ h_names
      have sg := sg.trans s1
      cases hm
    · have hm := cond_f hb hm
      have h_notches := dp_up s1 _ h_notches
      have h_names := dp_up s1 _ h_names
      have sg := sg.trans s1
      refine q_nilU ?_
      obtain ⟨fin1, e_fin1, hm⟩ := bs hm
      have hmo4 := hm
      refine q_forO (ea := (eR2 Dat.int (eP3 Dat.str Dat.str Dat.int))) (Src.is (src_enumT (ea_d (ev_d (K := K) rfl h_notches) ea_nil)) enumD_map) ok (fun (st2 : Unit) σ1 G1 M1 => ∃ (y_place : Option V) (y_notch : Option V), σ1 = [some v_notches, some v_names, y_place, y_notch] ∧ (Same M0 M1)) e_fin1 (fun G1 s1 => ⟨_, _, rfl, hB⟩) (by rintro _ _ _ _ _ ⟨y_place, y_notch, rfl, hB⟩ s2; exact ⟨_, _, rfl, hB⟩) (fun x3 xv6 st2 st' σ1 G M H N hm hj s1 ok hv hN => ?_) (fun σ1 G M H s1 ok hj => ?_)
      · obtain ⟨y_place, y_notch, rfl, hB⟩ := hj
        have h_notches := dp_up s1 _ h_notches
        have h_names := dp_up s1 _ h_names
        have sg := sg.trans s1
        have sl7 := Same.refl G
        refine gr2 hv ok.g (fun w8 w9 hw10 hw11 => ?_)
        refine gn ?_
        have h_place := hw10
        cases h_place
        refine gn ?_
        have h_notch := hw11
        refine nrm (σ' := [some v_notches, some v_names, some (.int x3.1), some w9]) rfl ?_
        obtain ⟨t12, e_t12, hm⟩ := bs hm
        obtain ⟨t15, e_t15, hm⟩ := bs hm
        refine q_if (et_orG (c := t15) (et_not (et_B (ev_callP (res := fun r => DD K (Dat.bool r)) (a := (x3.2, a.2)) e_t12 (ea_d (ev_d (K := K) rfl h_notch) (ea_d (ev_d (K := K) rfl h_names) ea_nil))))) (fun eb => by have e1 := cond_f eb e_t15; (obtain ⟨t14, e_t14, e1⟩ := bs e1); (have e1 := Option.some.inj e1); subst e1; exact (et_andG (c := t14) (et_test (ev_gt (ev_d (K := K) rfl (.int _)) (ev_int (K := K)))) (fun eb => by have e1 := cond_t eb e_t14; (obtain ⟨t13, e_t13, e1⟩ := bs e1); (have e1 := Option.some.inj e1); subst e1; exact (et_test (ev_leP (a := (x3.2.1, x3.2.2.1)) (b := (t13.1, t13.2.1)) (ev_is (ev_slT (ev_d (K := K) rfl h_notch) eo_none (eo_some (ev_int (K := K)))) rfl) (ev_is (ev_slT (ev_ixTM (e := (eP3 Dat.str Dat.str Dat.int)) e_t13 (ev_d (K := K) rfl h_notches) (ev_sub (ev_d (K := K) rfl (.int _)) (ev_int (K := K)))) eo_none (eo_some (ev_int (K := K)))) rfl)))) (fun eb => by have e1 := cond_f eb e_t14; cases e1; exact ⟨rfl, rfl⟩))) (fun eb => by have e1 := cond_t eb e_t15; cases e1; exact ⟨rfl, rfl⟩)) ok (fun hb G H s1 ok => ?_) (fun hb G H s1 ok => ?_)
        · have hm := cond_t hb hm
          have h_notches := dp_up s1 _ h_notches
          have h_names := dp_up s1 _ h_names
          have h_notch := dp_up s1 _ h_notch
          have sg := sg.trans s1
          have sl7 := sl7.trans s1
          cases hm
        · have hm := cond_f hb hm
          have h_notches := dp_up s1 _ h_notches
          have h_names := dp_up s1 _ h_names
          have h_notch := dp_up s1 _ h_notch
          have sg := sg.trans s1
          have sl7 := sl7.trans s1
          refine q_nilU ?_
          refine q_nil ?_
          cases hm
          exact hN _ _ _ _ sl7 ok ⟨_, _, rfl, hB⟩
      · obtain ⟨y_place, y_notch, rfl, hB⟩ := hj
        have h_notches := dp_up s1 _ h_notches
        have h_names := dp_up s1 _ h_names
        have sg := sg.trans s1
        refine q_nil ?_
        cases hm
        exact q _ _ _ sg (ok.less hB) .non
/-! ### Peal___init__ -/
theorem sc_Peal___init__ : FnScope ["self", "bells", "notches", "name", "other", "number", "bell"] ["self", "bells", "notches"] (defScope s_Peal___init__) := ⟨rfl, rfl, rfl, by decide +kernel, rfl, by decide +kernel, by decide +kernel⟩
def a_Peal___init__ (K : PySem.W.Frag) (a : (List (Str × Int)) × (List (Str × Str × Int))) : List V → Hp → Prop := conP (DD K ((eT (eP2 Dat.str Dat.int)) a.1)) (conP (DD K ((eT (eP3 Dat.str Dat.str Dat.int)) a.2)) (nilP))
def m_Peal___init__ (a : (List (Str × Int)) × (List (Str × Str × Int))) : Option ((List (Str × Int)) × (List (Str × Str × Int)) × (List (Str × Int)) × (List ((Str × Str) × Int))) :=
  (m_check_bells a.1).bind fun t1 => (lcO (fun x2 : (Str × Int) => some x2.1) a.1).bind fun t8 => (m_check_notches (a.2, t8)).bind fun t9 => (dictO a.1).bind fun t10 => (dcO (fun x11 : (Str × Str × Int) => some ((x11.1, x11.2.1), x11.2.2)) a.2).bind fun t20 => some (a.1, a.2, t10, t20)
abbrev sp_Peal___init__ [Tb] (K : PySem.W.Frag) : Sp := spI K (clsAt K "Peal") ["bells", "notches", "sizes", "turning"] (fun r => [(eT (eP2 Dat.str Dat.int)) r.1, (eT (eP3 Dat.str Dat.str Dat.int)) r.2.1, (eDS Dat.int) r.2.2.1, (eDP Dat.int) r.2.2.2]) (a_Peal___init__ K) m_Peal___init__
theorem ok_Peal___init__ [Tb] {P : Program} {w : World} {K : PySem.W.Frag} {mg : Str → Option Value} {base : Heap} (T : Txt K mg) (O_check_bells : FnOk P w K mg base CX0 4 T.a_check_bells T.d_check_bells ["bells"] (sp_check_bells K)) (O_check_notches : FnOk P w K mg base CX0 4 T.a_check_notches T.d_check_notches ["notches", "names"] (sp_check_notches K)) : FnOk P w K mg base CX0 (5) T.a_Peal___init__ T.d_Peal___init__ ["self", "bells", "notches"] (sp_Peal___init__ K) := by
  refine T.F_Peal___init__.ex.ok sc_Peal___init__ (fun vs H Q E h => ?_) (fun cdv A outer s0 H vs Q E hr h => ?_)
  · obtain ⟨G, M0, x, dx, ws, a, r, rfl, ok, hx0, ⟨v_bells, _, rfl, h_bells, v_notches, _, rfl, h_notches, rfl⟩, hm, q⟩ := h
    rfl
  · obtain ⟨G, M0, x, dx, ws, a, r, rfl, ok, hx0, ⟨v_bells, _, rfl, h_bells, v_notches, _, rfl, h_notches, rfl⟩, hm, q⟩ := h
    unfold m_Peal___init__ at hm
    have sg := Same.refl G
    have hB := Same.refl M0
    refine ⟨_, (pss_cons (ps_expr (pe_call O_check_bells (hr.mono (by decide)) (by rfl) T.g_check_bells T.F_check_bells.kp T.b_check_bells .nil pass0 (pa_cons (pv 1) pa_nil))) (pss_cons (ps_expr (pe_call O_check_notches (hr.mono (by decide)) (by rfl) T.g_check_notches T.F_check_notches.kp T.b_check_notches .nil pass0 (pa_cons (pv 2) (pa_cons (pe_lc (own := [("bell", 6)]) (g := (gName 6)) (tt := tYes) rfl sc_Peal___init__.nd (pi_tupK (K := K) (pv 1)) (blkOk_by (own := [("bell", 6)]) (N := ["self", "bells", "notches", "name", "other", "number", "bell"]) (sc := defScope s_Peal___init__) (by decide +kernel)) (fun _ _ _ _ _ => (pg_name (i := 6) sc_Peal___init__.nd rfl (by first | exact .inl rfl | exact .inr rfl))) (fun _ _ _ _ _ => pts_nil) (fun _ _ _ _ _ => (pe_ix (ix_tupK (K := K)) (pv 6) pe_int (fun _ _ => rfl)))) pa_nil)))) (pss_cons (ps_fld (pv 0) (pv 1) rfl) (pss_cons (ps_fld (pv 0) (pv 2) rfl) (pss_cons (ps_fld (pv 0) (pe_callTy (cl_dictTK (K := K) rfl) (by rfl) T.n_dict (by decide +kernel) (pa_cons (pv 1) pa_nil)) rfl) (pss_cons (ps_fld (pv 0) (pe_dcB true (own := [("name", 3), ("other", 4), ("number", 5)]) (g := (gTup K 3 (gCons (gName 3) (gCons (gName 4) (gCons (gName 5) gNil))))) (tt := tYes) (hu_of hr) rfl sc_Peal___init__.nd (pi_tupK (K := K) (pv 2)) (blkOk_by (own := [("name", 3), ("other", 4), ("number", 5)]) (N := ["self", "bells", "notches", "name", "other", "number", "bell"]) (sc := defScope s_Peal___init__) (by decide +kernel)) (fun _ _ _ _ _ => (pg_tup rfl (pgs_cons (pg_name (i := 3) sc_Peal___init__.nd rfl (by first | exact .inl rfl | exact .inr rfl)) (pgs_cons (pg_name (i := 4) sc_Peal___init__.nd rfl (by first | exact .inl rfl | exact .inr rfl)) (pgs_cons (pg_name (i := 5) sc_Peal___init__.nd rfl (by first | exact .inl rfl | exact .inr rfl)) pgs_nil))))) (fun _ _ _ _ _ => pts_nil) (fun _ _ _ _ _ => (pe_tup (pa_cons (pv 3) (pa_cons (pv 4) pa_nil)))) (fun _ _ _ _ _ => (pv 5))) rfl) pss_nil)))))), ?_⟩
    refine nrm (σ' := [some (.ref x), some v_bells, some v_notches, none, none, none, none]) rfl ?_
    obtain ⟨t1, e_t1, hm⟩ := bs hm
    refine q_expr (ev_callP (res := fun r => DD K (eN r)) (a := a.1) e_t1 (ea_d (ev_d (K := K) rfl h_bells) ea_nil)) ok (fun G H s1 ok => ?_)
    have h_bells := dp_up s1 _ h_bells
    have h_notches := dp_up s1 _ h_notches
    have sg := sg.trans s1
    obtain ⟨t8, e_t8, hm⟩ := bs hm
    obtain ⟨t9, e_t9, hm⟩ := bs hm
    refine q_expr (ev_callP (res := fun r => DD K (eN r)) (a := (a.2, t8)) e_t9 (ea_d (ev_d (K := K) rfl h_notches) (ea_d (EvL.ev (el_lcM (ea := (eP2 Dat.str Dat.int)) (eb := Dat.str) (xs := a.1) (ys := t8) (hf := e_t8) (src_tup (ev_d (K := K) rfl h_bells)) (fun x2 _ Mx6 _ _ he7 sM5 sG4 hv3 => by cases he7; exact (tg_name ⟨rfl, (ev_ixT (d := Dat.str x2.1) rfl (ev_d (K := K) rfl hv3) ev_int)⟩)))) ea_nil))) ok (fun G H s1 ok => ?_)
    have h_bells := dp_up s1 _ h_bells
    have h_notches := dp_up s1 _ h_notches
    have sg := sg.trans s1
    refine q_fld (K := K) (ns := []) T.cl_Peal T.na_Peal_bells (ev_d (K := K) rfl h_bells) (ev_own rfl) rfl (by decide +kernel) (by decide) ok (fun vf_bells G H s1 ok hf_bells => ?_)
    have h_bells := dp_up s1 _ h_bells
    have h_notches := dp_up s1 _ h_notches
    have sg := sg.trans s1
    refine q_fld (K := K) (ns := ["bells"]) T.cl_Peal T.na_Peal_notches (ev_d (K := K) rfl h_notches) (ev_own rfl) rfl (by decide +kernel) (by decide) ok (fun vf_notches G H s1 ok hf_notches => ?_)
    have h_bells := dp_up s1 _ h_bells
    have h_notches := dp_up s1 _ h_notches
    have hf_bells := dp_up s1 _ hf_bells
    have sg := sg.trans s1
    obtain ⟨t10, e_t10, hm⟩ := bs hm
    refine q_fld (K := K) (ns := ["bells", "notches"]) T.cl_Peal T.na_Peal_sizes (ev_dictT (e := Dat.int) e_t10 (ea_d (ev_d (K := K) rfl h_bells) ea_nil)) (ev_own rfl) rfl (by decide +kernel) (by decide) ok (fun vf_sizes G H s1 ok hf_sizes => ?_)
    have h_bells := dp_up s1 _ h_bells
    have h_notches := dp_up s1 _ h_notches
    have hf_bells := dp_up s1 _ hf_bells
    have hf_notches := dp_up s1 _ hf_notches
    have sg := sg.trans s1
    obtain ⟨t20, e_t20, hm⟩ := bs hm
    refine q_fld (K := K) (ns := ["bells", "notches", "sizes"]) T.cl_Peal T.na_Peal_turning (ev_dcP (e := Dat.int) (ea := (eP3 Dat.str Dat.str Dat.int)) (xs := a.2) (hf := e_t20) (src_tup (ev_d (K := K) rfl h_notches)) (fun x11 _ Mx15 _ _ he16 sM14 sG13 hv12 => by cases he16; exact (tg_t3 hv12 fun _ _ _ h17 h18 h19 => (tg_name (tg_name (tg_name ⟨rfl, (ev_rtup (ea_consD (ev_d (K := K) rfl h17) (ea_consD (ev_d (K := K) rfl h18) (ea_nilD (K := K))))), (ev_d (K := K) rfl h19)⟩)))))) (ev_own rfl) rfl (by decide +kernel) (by decide) ok (fun vf_turning G H s1 ok hf_turning => ?_)
    have h_bells := dp_up s1 _ h_bells
    have h_notches := dp_up s1 _ h_notches
    have hf_bells := dp_up s1 _ hf_bells
    have hf_notches := dp_up s1 _ hf_notches
    have hf_sizes := dp_up s1 _ hf_sizes
    have sg := sg.trans s1
    refine q_nil ?_
    cases hm
    exact q _ _ _ sg ok rfl (.cons hf_bells (.cons hf_notches (.cons hf_sizes (.cons hf_turning .nil))))
/-! ### check_peal -/
theorem sc_check_peal : FnScope ["thing"] ["thing"] (defScope s_check_peal) := ⟨rfl, rfl, rfl, by decide +kernel, rfl, by decide +kernel, by decide +kernel⟩
def a_check_peal (K : PySem.W.Frag) (a : ((List (Str × Int)) × (List (Str × Str × Int)) × (List (Str × Int)) × (List ((Str × Str) × Int)))) : List V → Hp → Prop := conP (DD K (eX_Peal a)) (nilP)
def m_check_peal (a : ((List (Str × Int)) × (List (Str × Str × Int)) × (List (Str × Int)) × (List ((Str × Str) × Int)))) : Option Unit :=
  cond (!true) (none) (some ())
abbrev sp_check_peal [Tb] (K : PySem.W.Frag) : Sp := spP (a_check_peal K) (m_check_peal) fun r => DD K (eN r)
theorem ok_check_peal [Tb] {P : Program} {w : World} {K : PySem.W.Frag} {mg : Str → Option Value} {base : Heap} (T : Txt K mg) : FnOk P w K mg base CX0 (1) T.a_check_peal T.d_check_peal ["thing"] (sp_check_peal K) := by
  refine T.F_check_peal.ok sc_check_peal (fun vs H Q E h => ?_) (fun cdv A outer s0 H vs Q E hr h => ?_)
  · obtain ⟨G, M0, a, r, ok, ⟨v_thing, _, rfl, h_thing, rfl⟩, hm, q⟩ := h
    rfl
  · obtain ⟨G, M0, a, r, ok, ⟨v_thing, _, rfl, h_thing, rfl⟩, hm, q⟩ := h
    unfold m_check_peal at hm
    have sg := Same.refl G
    have hB := Same.refl M0
    refine ⟨_, (pss_cons (ps_if (pt_not (pt_val (pe_callB (call_isiKK (K := K)) (by rfl) T.n_isinstance (by decide +kernel) (pa_cons (pv 0) (pa_cons (pe_glob (v := .ref (clsAt K "Peal")) (by rfl) T.mg_Peal rfl) pa_nil))))) (pss_cons ps_never pss_nil) pss_nil) pss_nil), ?_⟩
    refine nrm (σ' := [some v_thing]) rfl ?_
    refine q_if (et_not (et_B (ev_isiX (b := true) T.co_Peal T.ki_Peal (ea_d (ev_d (K := K) rfl h_thing) (ea_cons mo_clx ev_clx ea_nil))))) ok (fun hb G H s1 ok => ?_) (fun hb G H s1 ok => ?_)
    · have hm := cond_t hb hm
      have h_thing := dp_up s1 _ h_thing
      have sg := sg.trans s1
      cases hm
    · have hm := cond_f hb hm
      have h_thing := dp_up s1 _ h_thing
      have sg := sg.trans s1
      refine q_nilU ?_
      refine q_nil ?_
      cases hm
      exact q _ _ _ sg (ok.less hB) .non
/-! ### parts_in -/
theorem sc_parts_in : FnScope ["peal", "thing", "within", "many", "part", "inner"] ["peal", "thing", "within"] (defScope s_parts_in) := ⟨rfl, rfl, rfl, by decide +kernel, rfl, by decide +kernel, by decide +kernel⟩
def a_parts_in (K : PySem.W.Frag) (a : ((List (Str × Int)) × (List (Str × Str × Int)) × (List (Str × Int)) × (List ((Str × Str) × Int))) × Dat × Int) : List V → Hp → Prop := conP (DD K (eX_Peal a.1)) (conP (DD K (id a.2.1)) (conP (DD K (Dat.int a.2.2)) (nilP)))
def m_parts_in : Nat → (((List (Str × Int)) × (List (Str × Str × Int)) × (List (Str × Int)) × (List ((Str × Str) × Int))) × Dat × Int) → Option (Option Int)
  | 0, _ => none
  | n + 1, a => (isO isT a.2.1).bind fun t1 => cond ((!t1) || (decide ((5 : Int) < a.2.2))) (some (none : (Option Int))) ((tupD a.2.1).bind fun t2 => (forR (R := (Option Int)) (fun (st4 : Int) (x5 : Dat) => (isO isS x5).bind fun t10 => (cond t10 ((strD x5).bind fun t13 => some (cond (hasA a.1.2.2.1 t13) (some (0 : Int)) (none : (Option Int)))) ((isO isT x5).bind fun t15 => (cond t15 ((lenD x5).bind fun t16 => (cond (decide (t16 = (2 : Int))) ((atD x5 (1 : Int)).bind fun t17 => (intD t17).bind fun t18 => (m_is_within (t18, (1 : Int), (1000000000000000000000000000000 : Int))).bind fun t19 => some t19) (some false)).bind fun t20 => some t20) (some false)).bind fun t21 => cond t21 ((atD x5 (0 : Int)).bind fun t22 => (m_parts_in n (a.1, t22, (a.2.2 + (1 : Int)))).bind fun t23 => some t23) (some (none : (Option Int))))).bind fun j11 => cond (j11).isNone (some (.inr (none : (Option Int)))) ((j11).bind fun t24 => some (.inl (st4 + ((1 : Int) + t24))))) t2 (0 : Int)).bind fun fin3 => orR fin3 (fun fin3s => some (some fin3s)) (fun r => some r))
abbrev sp_parts_in [Tb] (K : PySem.W.Frag) (n : Nat) : Sp := spP (a_parts_in K) (m_parts_in n) fun r => DD K ((eO Dat.int) r)
theorem ok_parts_in [Tb] {P : Program} {w : World} {K : PySem.W.Frag} {mg : Str → Option Value} {base : Heap} (T : Txt K mg) (O_is_within : FnOk P w K mg base CX0 2 T.a_is_within T.d_is_within ["thing", "low", "high"] (sp_is_within K)) : ∀ n : Nat, FnOk P w K mg base CX0 (n + 3) T.a_parts_in T.d_parts_in ["peal", "thing", "within"] (sp_parts_in K n)
  | 0 => by
    refine T.F_parts_in.ok sc_parts_in (fun vs H Q E h => ?_) (fun cdv A outer s0 H vs Q E hr h => ?_)
    · obtain ⟨G, M0, a, r, ok, ⟨v_peal, _, rfl, h_peal, v_thing, _, rfl, h_thing, v_within, _, rfl, h_within, rfl⟩, hm, q⟩ := h
      unfold m_parts_in at hm
      cases hm
    · obtain ⟨G, M0, a, r, ok, ⟨v_peal, _, rfl, h_peal, v_thing, _, rfl, h_thing, v_within, _, rfl, h_within, rfl⟩, hm, q⟩ := h
      unfold m_parts_in at hm
      cases hm
  | n + 1 => by
    have O_parts_in := ok_parts_in (P := P) (w := w) (base := base) T O_is_within n
    refine T.F_parts_in.ok sc_parts_in (fun vs H Q E h => ?_) (fun cdv A outer s0 H vs Q E hr h => ?_)
    · obtain ⟨G, M0, a, r, ok, ⟨v_peal, _, rfl, h_peal, v_thing, _, rfl, h_thing, v_within, _, rfl, h_within, rfl⟩, hm, q⟩ := h
      rfl
    · obtain ⟨G, M0, a, r, ok, ⟨v_peal, _, rfl, h_peal, v_thing, _, rfl, h_thing, v_within, _, rfl, h_within, rfl⟩, hm, q⟩ := h
      unfold m_parts_in at hm
      have sg := Same.refl G
      have hB := Same.refl M0
      refine ⟨_, (pss_cons (ps_if (PW.pt (pw_or (pt_not (pt_val (pe_callB (call_isiKK (K := K)) (by rfl) T.n_isinstance (by decide +kernel) (pa_cons (pv 1) (pa_cons (pe_bltn (v := .ty "tuple") (by rfl) T.n_tuple (by decide +kernel) rfl) pa_nil))))) (pw_or1 (pt_cmpR op_gt (pv 2) (pe_glob (v := .int 5) (by rfl) T.c_MOST_WITHIN ⟨_, rfl⟩) (nomark _))))) (pss_cons (ps_ret pe_non) pss_nil) pss_nil) (pss_cons (ps_set (i := 3) sc_parts_in.nd rfl (.inl rfl) pe_int) (pss_cons (ps_for PassesOwn.never rfl (pi_tupK (K := K) (pv 1)) (pg_name (i := 4) sc_parts_in.nd rfl (.inl rfl)) (pss_cons (ps_if (pt_val (pe_callB (call_isiKK (K := K)) (by rfl) T.n_isinstance (by decide +kernel) (pa_cons (pv 4) (pa_cons (pe_bltn (v := .ty "str") (by rfl) T.n_str (by decide +kernel) rfl) pa_nil)))) (pss_cons (ps_set (i := 5) sc_parts_in.nd rfl (.inl rfl) (pe_ifExp (pt_cmp (pc_din (hu_of hr) (pv 4) (pe_fldK (K := K) (pv 0)))) pe_int pe_non)) pss_nil) (pss_cons (ps_if (PW.pt (pw_and (pt_val (pe_callB (call_isiKK (K := K)) (by rfl) T.n_isinstance (by decide +kernel) (pa_cons (pv 4) (pa_cons (pe_bltn (v := .ty "tuple") (by rfl) T.n_tuple (by decide +kernel) rfl) pa_nil)))) (pw_and (pt_cmpR op_eq (pe_callB (cl_lenK (K := K)) (by rfl) T.n_len (by decide +kernel) (pa_cons (pv 4) pa_nil)) pe_int (nomark _)) (pw_and1 (pt_val (pe_call O_is_within (hr.mono (by omega)) (by rfl) T.g_is_within T.F_is_within.kp T.b_is_within .nil pass0 (pa_cons (pe_ix (ix_seqK (K := K)) (pv 4) pe_int (fun _ _ => rfl)) (pa_cons pe_int (pa_cons (pe_glob (v := .int 1000000000000000000000000000000) (by rfl) T.c_MOST_TIMES ⟨_, rfl⟩) pa_nil))))))))) (pss_cons (ps_set (i := 5) sc_parts_in.nd rfl (.inl rfl) (pe_call O_parts_in (hr.mono (by omega)) (by rfl) T.g_parts_in T.F_parts_in.kp T.b_parts_in .nil pass0 (pa_cons (pv 0) (pa_cons (pe_ix (ix_seqK (K := K)) (pv 4) pe_int (fun _ _ => rfl)) (pa_cons (pe_op op_add (pv 2) pe_int) pa_nil))))) pss_nil) (pss_cons (ps_set (i := 5) sc_parts_in.nd rfl (.inl rfl) pe_non) pss_nil)) pss_nil)) (pss_cons (ps_if (pt_cmpR op_isN (pv 5) pe_non (nomark _)) (pss_cons (ps_ret pe_non) pss_nil) pss_nil) (pss_cons (ps_aug (i := 3) sc_parts_in.nd rfl (.inl rfl) (pe_op op_add pe_int (pv 5)) ip_add) pss_nil)))) (pss_cons (ps_ret (pv 3)) pss_nil)))), ?_⟩
      cases h_within
      refine nrm (σ' := [some v_peal, some v_thing, some (.int a.2.2), none, none, none]) rfl ?_
      obtain ⟨t1, e_t1, hm⟩ := bs hm
      refine q_if (et_or (et_not (et_B (ev_isiD isc_T e_t1 (ea_d (ev_d (K := K) rfl h_thing) (ea_cons mo_cls ev_cls ea_nil))))) fun _ => (et_test (ev_gt (ev_d (K := K) rfl (.int _)) (ev_int (K := K))))) ok (fun hb G H s1 ok => ?_) (fun hb G H s1 ok => ?_)
      · have hm := cond_t hb hm
        have h_peal := dp_up s1 _ h_peal
        have h_thing := dp_up s1 _ h_thing
        have sg := sg.trans s1
        refine q_ret (ev_non (K := K)) ok (fun v G H s1 ok hv => ?_)
        have sg := sg.trans s1
        cases hm
        exact q v G H sg (ok.less hB) hv
      · have hm := cond_f hb hm
        have h_peal := dp_up s1 _ h_peal
        have h_thing := dp_up s1 _ h_thing
        have sg := sg.trans s1
        refine q_nilU ?_
        refine q_set (σ' := fun v => [some v_peal, some v_thing, some (.int a.2.2), some v, none, none]) (ev_int (K := K)) ok (fun _ => rfl) (fun v_many G H s1 ok h_many => ?_)
        have h_peal := dp_up s1 _ h_peal
        have h_thing := dp_up s1 _ h_thing
        have sg := sg.trans s1
        cases h_many
        obtain ⟨t2, e_t2, hm⟩ := bs hm
        obtain ⟨fin3, e_fin3, hm⟩ := bs hm
        have hmo6 := hm
        refine q_forR (ea := id) (src_tup (ev_tupD e_t2 (ev_d (K := K) rfl h_thing))) ok (fun (st4 : Int) σ1 G1 M1 => ∃ (y_inner : Option V) (y_part : Option V), σ1 = [some v_peal, some v_thing, some (.int a.2.2), some (.int st4), y_part, y_inner] ∧ (Same M0 M1)) e_fin3 (fun G1 s1 => ⟨_, _, rfl, hB⟩) (by rintro _ _ _ _ _ ⟨y_inner, y_part, rfl, hB⟩ s2; exact ⟨_, _, rfl, hB⟩) (fun x5 xv8 st4 st' σ1 G M H N hm hret7 hj s1 ok hv hN => ?_) (fun fin3s σ1 G M H hfin s1 ok hj => ?_)
        · obtain ⟨y_inner, y_part, rfl, hB⟩ := hj
          have h_peal := dp_up s1 _ h_peal
          have h_thing := dp_up s1 _ h_thing
          have sg := sg.trans s1
          have sl9 := Same.refl G
          refine gn ?_
          have h_part := hv
          refine nrm (σ' := [some v_peal, some v_thing, some (.int a.2.2), some (.int st4), some xv8, y_inner]) rfl ?_
          obtain ⟨t10, e_t10, hm⟩ := bs hm
          obtain ⟨j11, e_j11, hm⟩ := bs hm
          refine q_ifJ (fun σ1 G1 M1 => ∃ (v_inner : V), σ1 = [some v_peal, some v_thing, some (.int a.2.2), some (.int st4), some xv8, some v_inner] ∧ (Dq K G1 v_inner ((eO Dat.int) j11)) ∧ (Same M0 M1)) (et_B (ev_isiD isc_S e_t10 (ea_d (ev_d (K := K) rfl h_part) (ea_cons mo_cls ev_cls ea_nil)))) ok (fun hb G H D1 s1 ok _ _ _ kD => ?_) (fun hb G H D1 s1 ok _ _ _ kD => ?_) (fun σ1 G M H s1 ok hj => ?_)
          · have hm := cond_t hb e_j11
            have h_peal := dp_up s1 _ h_peal
            have h_thing := dp_up s1 _ h_thing
            have h_part := dp_up s1 _ h_part
            have sg := sg.trans s1
            have sl9 := sl9.trans s1
            have sl12 := Same.refl G
            obtain ⟨t13, e_t13, hm⟩ := bs hm
            refine q_set (σ' := fun v => [some v_peal, some v_thing, some (.int a.2.2), some (.int st4), some xv8, some v]) (ev_ifC (e := (eO Dat.int)) (x := (some (0 : Int))) (y := (none : (Option Int))) (et_B (ev_dinS (e := Dat.int) (xs := a.1.2.2.1) (ev_strD e_t13 (ev_d (K := K) rfl h_part)) (ev_fld (d := (eDS Dat.int) a.1.2.2.1) (i := 2) T.cl_Peal T.na_Peal_sizes (by decide +kernel) rfl (ev_d (K := K) rfl h_peal)))) (fun _ => (ev_int (K := K))) (fun _ => (ev_non (K := K)))) ok (fun _ => rfl) (fun v_inner G H s1 ok h_inner => ?_)
            have h_peal := dp_up s1 _ h_peal
            have h_thing := dp_up s1 _ h_thing
            have h_part := dp_up s1 _ h_part
            have sg := sg.trans s1
            have sl12 := sl12.trans s1
            have sl9 := sl9.trans s1
            refine q_nil ?_
            cases hm
            exact kD _ _ _ _ sl12 ok ⟨_, rfl, h_inner, hB⟩
          · have hm := cond_f hb e_j11
            have h_peal := dp_up s1 _ h_peal
            have h_thing := dp_up s1 _ h_thing
            have h_part := dp_up s1 _ h_part
            have sg := sg.trans s1
            have sl9 := sl9.trans s1
            have sl14 := Same.refl G
            obtain ⟨t15, e_t15, hm⟩ := bs hm
            obtain ⟨t21, e_t21, hm⟩ := bs hm
            refine q_if (et_andG (c := t21) (et_B (ev_isiD isc_T e_t15 (ea_d (ev_d (K := K) rfl h_part) (ea_cons mo_cls ev_cls ea_nil)))) (fun eb => by have e1 := cond_t eb e_t21; (obtain ⟨t16, e_t16, e1⟩ := bs e1); (obtain ⟨t20, e_t20, e1⟩ := bs e1); (have e1 := Option.some.inj e1); subst e1; exact (et_andG (c := t20) (et_test (ev_eqI (ev_lenD e_t16 (ea_d (ev_d (K := K) rfl h_part) ea_nil)) (ev_int (K := K)))) (fun eb => by have e1 := cond_t eb e_t20; (obtain ⟨t17, e_t17, e1⟩ := bs e1); (obtain ⟨t18, e_t18, e1⟩ := bs e1); (obtain ⟨t19, e_t19, e1⟩ := bs e1); (have e1 := Option.some.inj e1); subst e1; exact (et_B (ev_callP (res := fun r => DD K (Dat.bool r)) (a := (t18, (1 : Int), (1000000000000000000000000000000 : Int))) e_t19 (ea_d (ev_intD e_t18 (ev_ixD e_t17 (ev_d (K := K) rfl h_part) (ev_int (K := K)))) (ea_d (ev_int (K := K)) (ea_d (ev_int (K := K)) ea_nil)))))) (fun eb => by have e1 := cond_f eb e_t20; cases e1; exact ⟨rfl, rfl⟩))) (fun eb => by have e1 := cond_f eb e_t21; cases e1; exact ⟨rfl, rfl⟩)) ok (fun hb G H s1 ok => ?_) (fun hb G H s1 ok => ?_)
            · have hm := cond_t hb hm
              have h_peal := dp_up s1 _ h_peal
              have h_thing := dp_up s1 _ h_thing
              have h_part := dp_up s1 _ h_part
              have sg := sg.trans s1
              have sl14 := sl14.trans s1
              have sl9 := sl9.trans s1
              obtain ⟨t22, e_t22, hm⟩ := bs hm
              obtain ⟨t23, e_t23, hm⟩ := bs hm
              refine q_set (σ' := fun v => [some v_peal, some v_thing, some (.int a.2.2), some (.int st4), some xv8, some v]) (ev_callP (res := fun r => DD K ((eO Dat.int) r)) (a := (a.1, t22, (a.2.2 + (1 : Int)))) e_t23 (ea_d (ev_d (K := K) rfl h_peal) (ea_d (ev_ixD e_t22 (ev_d (K := K) rfl h_part) (ev_int (K := K))) (ea_d (ev_add (ev_d (K := K) rfl (.int _)) (ev_int (K := K))) ea_nil)))) ok (fun _ => rfl) (fun v_inner G H s1 ok h_inner => ?_)
              have h_peal := dp_up s1 _ h_peal
              have h_thing := dp_up s1 _ h_thing
              have h_part := dp_up s1 _ h_part
              have sg := sg.trans s1
              have sl14 := sl14.trans s1
              have sl9 := sl9.trans s1
              refine q_nilU ?_
              refine q_nil ?_
              cases hm
              exact kD _ _ _ _ sl14 ok ⟨_, rfl, h_inner, hB⟩
            · have hm := cond_f hb hm
              have h_peal := dp_up s1 _ h_peal
              have h_thing := dp_up s1 _ h_thing
              have h_part := dp_up s1 _ h_part
              have sg := sg.trans s1
              have sl14 := sl14.trans s1
              have sl9 := sl9.trans s1
              refine q_set (σ' := fun v => [some v_peal, some v_thing, some (.int a.2.2), some (.int st4), some xv8, some v]) (ev_non (K := K)) ok (fun _ => rfl) (fun v_inner G H s1 ok h_inner => ?_)
              have h_peal := dp_up s1 _ h_peal
              have h_thing := dp_up s1 _ h_thing
              have h_part := dp_up s1 _ h_part
              have sg := sg.trans s1
              have sl14 := sl14.trans s1
              have sl9 := sl9.trans s1
              refine q_nilU ?_
              refine q_nil ?_
              cases hm
              exact kD _ _ _ _ sl14 ok ⟨_, rfl, h_inner, hB⟩
          · obtain ⟨v_inner, rfl, h_inner, hB⟩ := hj
            have h_peal := dp_up s1 _ h_peal
            have h_thing := dp_up s1 _ h_thing
            have h_part := dp_up s1 _ h_part
            have sg := sg.trans s1
            have sl9 := sl9.trans s1
            refine q_if (et_test (ev_isNO (e := Dat.int) (o := j11) (fun _ h => Dat.noConfusion h) (ev_d (K := K) rfl h_inner) (ev_non (K := K)))) ok (fun hb G H s1 ok => ?_) (fun hb G H s1 ok => ?_)
            · have hm := cond_t hb hm
              have h_peal := dp_up s1 _ h_peal
              have h_thing := dp_up s1 _ h_thing
              have h_part := dp_up s1 _ h_part
              have h_inner := dp_up s1 _ h_inner
              have sg := sg.trans s1
              have sl9 := sl9.trans s1
              refine q_ret (ev_non (K := K)) ok (fun v G H s1 ok hv => ?_)
              have sg := sg.trans s1
              cases hm
              have hf0 := hret7 _ rfl
              rw [hf0] at hmo6
              have hmx0 := hmo6
              cases hmx0
              exact q v G H sg (ok.less hB) hv
            · have hm := cond_f hb hm
              have h_peal := dp_up s1 _ h_peal
              have h_thing := dp_up s1 _ h_thing
              have h_part := dp_up s1 _ h_part
              have h_inner := dp_up s1 _ h_inner
              have sg := sg.trans s1
              have sl9 := sl9.trans s1
              refine q_nilU ?_
              obtain ⟨t24, e_t24, hm⟩ := bs hm
              refine q_augI (σ' := fun v => [some v_peal, some v_thing, some (.int a.2.2), some v, some xv8, some v_inner]) rfl (ev_add (ev_int (K := K)) (ev_unO (e := Dat.int) e_t24 (ev_d (K := K) rfl h_inner))) ok rfl (fun G H s1 ok => ?_)
              have h_peal := dp_up s1 _ h_peal
              have h_thing := dp_up s1 _ h_thing
              have h_part := dp_up s1 _ h_part
              have h_inner := dp_up s1 _ h_inner
              have sg := sg.trans s1
              have sl9 := sl9.trans s1
              refine q_nil ?_
              cases hm
              exact hN _ _ _ _ _ rfl sl9 ok ⟨_, _, rfl, hB⟩
        · obtain ⟨y_inner, y_part, rfl, hB⟩ := hj
          have h_peal := dp_up s1 _ h_peal
          have h_thing := dp_up s1 _ h_thing
          have sg := sg.trans s1
          rw [hfin] at hm
          have hm := orR_l hm
          refine q_ret (ev_d (K := K) rfl (.int _)) ok (fun v G H s1 ok hv => ?_)
          have sg := sg.trans s1
          cases hm
          exact q v G H sg (ok.less hB) hv
/-! ### fits_course -/
theorem sc_fits_course : FnScope ["peal", "thing", "many"] ["peal", "thing"] (defScope s_fits_course) := ⟨rfl, rfl, rfl, by decide +kernel, rfl, by decide +kernel, by decide +kernel⟩
def a_fits_course (K : PySem.W.Frag) (a : ((List (Str × Int)) × (List (Str × Str × Int)) × (List (Str × Int)) × (List ((Str × Str) × Int))) × Dat) : List V → Hp → Prop := conP (DD K (eX_Peal a.1)) (conP (DD K (id a.2)) (nilP))
def m_fits_course (a : ((List (Str × Int)) × (List (Str × Str × Int)) × (List (Str × Int)) × (List ((Str × Str) × Int))) × Dat) : Option Bool :=
  (m_parts_in 8 (a.1, a.2, (1 : Int))).bind fun t1 => (cond (t1).isSome ((t1).bind fun t2 => some (decide (t2 ≤ (120 : Int)))) (some false)).bind fun t3 => some t3
abbrev sp_fits_course [Tb] (K : PySem.W.Frag) : Sp := spP (a_fits_course K) (m_fits_course) fun r => DD K (Dat.bool r)
theorem ok_fits_course [Tb] {P : Program} {w : World} {K : PySem.W.Frag} {mg : Str → Option Value} {base : Heap} (T : Txt K mg) (O_parts_in : FnOk P w K mg base CX0 11 T.a_parts_in T.d_parts_in ["peal", "thing", "within"] (sp_parts_in K 8)) : FnOk P w K mg base CX0 (12) T.a_fits_course T.d_fits_course ["peal", "thing"] (sp_fits_course K) := by
  refine T.F_fits_course.ok sc_fits_course (fun vs H Q E h => ?_) (fun cdv A outer s0 H vs Q E hr h => ?_)
  · obtain ⟨G, M0, a, r, ok, ⟨v_peal, _, rfl, h_peal, v_thing, _, rfl, h_thing, rfl⟩, hm, q⟩ := h
    rfl
  · obtain ⟨G, M0, a, r, ok, ⟨v_peal, _, rfl, h_peal, v_thing, _, rfl, h_thing, rfl⟩, hm, q⟩ := h
    unfold m_fits_course at hm
    have sg := Same.refl G
    have hB := Same.refl M0
    refine ⟨_, (pss_cons (ps_set (i := 2) sc_fits_course.nd rfl (.inl rfl) (pe_call O_parts_in (hr.mono (by decide)) (by rfl) T.g_parts_in T.F_parts_in.kp T.b_parts_in .nil pass0 (pa_cons (pv 0) (pa_cons (pv 1) (pa_cons pe_int pa_nil))))) (pss_cons (ps_ret (pe_and (pe_cmpR op_notN (pv 2) pe_non (nomark _)) (pe_one (pe_cmpR op_le (pv 2) (pe_glob (v := .int 120) (by rfl) T.c_MOST_PARTS ⟨_, rfl⟩) (nomark _))))) pss_nil)), ?_⟩
    refine nrm (σ' := [some v_peal, some v_thing, none]) rfl ?_
    obtain ⟨t1, e_t1, hm⟩ := bs hm
    refine q_set (σ' := fun v => [some v_peal, some v_thing, some v]) (ev_callP (res := fun r => DD K ((eO Dat.int) r)) (a := (a.1, a.2, (1 : Int))) e_t1 (ea_d (ev_d (K := K) rfl h_peal) (ea_d (ev_d (K := K) rfl h_thing) (ea_d (ev_int (K := K)) ea_nil)))) ok (fun _ => rfl) (fun v_many G H s1 ok h_many => ?_)
    have h_peal := dp_up s1 _ h_peal
    have h_thing := dp_up s1 _ h_thing
    have sg := sg.trans s1
    obtain ⟨t3, e_t3, hm⟩ := bs hm
    refine q_ret (ev_andG (c := t3) (ev_notNO (e := Dat.int) (o := t1) (fun _ h => Dat.noConfusion h) (ev_d (K := K) rfl h_many) (ev_non (K := K))) (fun eb => by have e1 := cond_t eb e_t3; (obtain ⟨t2, e_t2, e1⟩ := bs e1); (have e1 := Option.some.inj e1); subst e1; exact (ev_le (ev_unO (e := Dat.int) e_t2 (ev_d (K := K) rfl h_many)) (ev_int (K := K)))) (fun eb => by have e1 := cond_f eb e_t3; cases e1; exact ⟨rfl, rfl⟩)) ok (fun v G H s1 ok hv => ?_)
    have sg := sg.trans s1
    cases hm
    exact q v G H sg (ok.less hB) hv
/-! ### check_course -/
theorem sc_check_course : FnScope ["peal", "thing"] ["peal", "thing"] (defScope s_check_course) := ⟨rfl, rfl, rfl, by decide +kernel, rfl, by decide +kernel, by decide +kernel⟩
def a_check_course (K : PySem.W.Frag) (a : ((List (Str × Int)) × (List (Str × Str × Int)) × (List (Str × Int)) × (List ((Str × Str) × Int))) × Dat) : List V → Hp → Prop := conP (DD K (eX_Peal a.1)) (conP (DD K (id a.2)) (nilP))
def m_check_course (a : ((List (Str × Int)) × (List (Str × Str × Int)) × (List (Str × Int)) × (List ((Str × Str) × Int))) × Dat) : Option Unit :=
  (m_fits_course (a.1, a.2)).bind fun t1 => cond (!t1) (none) (some ())
abbrev sp_check_course [Tb] (K : PySem.W.Frag) : Sp := spP (a_check_course K) (m_check_course) fun r => DD K (eN r)
theorem ok_check_course [Tb] {P : Program} {w : World} {K : PySem.W.Frag} {mg : Str → Option Value} {base : Heap} (T : Txt K mg) (O_fits_course : FnOk P w K mg base CX0 12 T.a_fits_course T.d_fits_course ["peal", "thing"] (sp_fits_course K)) : FnOk P w K mg base CX0 (13) T.a_check_course T.d_check_course ["peal", "thing"] (sp_check_course K) := by
  refine T.F_check_course.ok sc_check_course (fun vs H Q E h => ?_) (fun cdv A outer s0 H vs Q E hr h => ?_)
  · obtain ⟨G, M0, a, r, ok, ⟨v_peal, _, rfl, h_peal, v_thing, _, rfl, h_thing, rfl⟩, hm, q⟩ := h
    rfl
  · obtain ⟨G, M0, a, r, ok, ⟨v_peal, _, rfl, h_peal, v_thing, _, rfl, h_thing, rfl⟩, hm, q⟩ := h
    unfold m_check_course at hm
    have sg := Same.refl G
    have hB := Same.refl M0
    refine ⟨_, (pss_cons (ps_if (pt_not (pt_val (pe_call O_fits_course (hr.mono (by decide)) (by rfl) T.g_fits_course T.F_fits_course.kp T.b_fits_course .nil pass0 (pa_cons (pv 0) (pa_cons (pv 1) pa_nil))))) (pss_cons ps_never pss_nil) pss_nil) pss_nil), ?_⟩
    refine nrm (σ' := [some v_peal, some v_thing]) rfl ?_
    obtain ⟨t1, e_t1, hm⟩ := bs hm
    refine q_if (et_not (et_B (ev_callP (res := fun r => DD K (Dat.bool r)) (a := (a.1, a.2)) e_t1 (ea_d (ev_d (K := K) rfl h_peal) (ea_d (ev_d (K := K) rfl h_thing) ea_nil))))) ok (fun hb G H s1 ok => ?_) (fun hb G H s1 ok => ?_)
    · have hm := cond_t hb hm
      have h_peal := dp_up s1 _ h_peal
      have h_thing := dp_up s1 _ h_thing
      have sg := sg.trans s1
      cases hm
    · have hm := cond_f hb hm
      have h_peal := dp_up s1 _ h_peal
      have h_thing := dp_up s1 _ h_thing
      have sg := sg.trans s1
      refine q_nilU ?_
      refine q_nil ?_
      cases hm
      exact q _ _ _ sg (ok.less hB) .non
/-! ### part_text -/
theorem sc_part_text : FnScope ["part"] ["part"] (defScope s_part_text) := ⟨rfl, rfl, rfl, by decide +kernel, rfl, by decide +kernel, by decide +kernel⟩
def a_part_text (K : PySem.W.Frag) (a : Dat) : List V → Hp → Prop := conP (DD K (id a)) (nilP)
/-! ### course_text -/
theorem sc_course_text : FnScope ["course", "part"] ["course"] (defScope s_course_text) := ⟨rfl, rfl, rfl, by decide +kernel, rfl, by decide +kernel, by decide +kernel⟩
def a_course_text (K : PySem.W.Frag) (a : (List Dat)) : List V → Hp → Prop := conP (DD K ((eT id) a)) (nilP)
mutual
def m_part_text : Nat → (Dat) → Option Str
  | 0, _ => none
  | n + 1, a => (isO isS a).bind fun t1 => cond t1 ((strD a).bind fun t2 => some t2) ((atD a (0 : Int)).bind fun t3 => (tupD t3).bind fun t4 => (m_course_text n t4).bind fun t5 => (addS (Str.ofString "(") t5).bind fun t6 => (addS t6 (Str.ofString ")x")).bind fun t7 => (atD a (1 : Int)).bind fun t8 => (intD t8).bind fun t9 => (strIO t9).bind fun t10 => (addS t7 t10).bind fun t11 => some t11)
def m_course_text : Nat → ((List Dat)) → Option Str
  | 0, _ => none
  | n + 1, a => (lcO (fun x1 : Dat => (m_part_text n x1).bind fun t7 => some t7) a).bind fun t8 => (joinO (Str.ofString " ") t8).bind fun t9 => (orSO t9 (Str.ofString "-")).bind fun t10 => some t10
end
abbrev sp_part_text [Tb] (K : PySem.W.Frag) (n : Nat) : Sp := spP (a_part_text K) (m_part_text n) fun r => DD K (Dat.str r)
abbrev sp_course_text [Tb] (K : PySem.W.Frag) (n : Nat) : Sp := spP (a_course_text K) (m_course_text n) fun r => DD K (Dat.str r)
mutual
theorem ok_part_text [Tb] {P : Program} {w : World} {K : PySem.W.Frag} {mg : Str → Option Value} {base : Heap} (T : Txt K mg) : ∀ n : Nat, FnOk P w K mg base CX0 (n + 1) T.a_part_text T.d_part_text ["part"] (sp_part_text K n)
  | 0 => by
    refine T.F_part_text.ok sc_part_text (fun vs H Q E h => ?_) (fun cdv A outer s0 H vs Q E hr h => ?_)
    · obtain ⟨G, M0, a, r, ok, ⟨v_part, _, rfl, h_part, rfl⟩, hm, q⟩ := h
      unfold m_part_text at hm
      cases hm
    · obtain ⟨G, M0, a, r, ok, ⟨v_part, _, rfl, h_part, rfl⟩, hm, q⟩ := h
      unfold m_part_text at hm
      cases hm
  | n + 1 => by
    have O_part_text := ok_part_text (P := P) (w := w) (base := base) T  n
    have O_course_text := ok_course_text (P := P) (w := w) (base := base) T  n
    refine T.F_part_text.ok sc_part_text (fun vs H Q E h => ?_) (fun cdv A outer s0 H vs Q E hr h => ?_)
    · obtain ⟨G, M0, a, r, ok, ⟨v_part, _, rfl, h_part, rfl⟩, hm, q⟩ := h
      rfl
    · obtain ⟨G, M0, a, r, ok, ⟨v_part, _, rfl, h_part, rfl⟩, hm, q⟩ := h
      unfold m_part_text at hm
      have sg := Same.refl G
      have hB := Same.refl M0
      refine ⟨_, (pss_cons (ps_if (pt_val (pe_callB (call_isiKK (K := K)) (by rfl) T.n_isinstance (by decide +kernel) (pa_cons (pv 0) (pa_cons (pe_bltn (v := .ty "str") (by rfl) T.n_str (by decide +kernel) rfl) pa_nil)))) (pss_cons (ps_ret (pv 0)) pss_nil) pss_nil) (pss_cons (ps_ret (pe_op op_add_str (pe_op op_add_str (pe_op op_add_str pe_str (pe_call O_course_text (hr.mono (by omega)) (by rfl) T.g_course_text T.F_course_text.kp T.b_course_text .nil pass0 (pa_cons (pe_ix (ix_seqK (K := K)) (pv 0) pe_int (fun _ _ => rfl)) pa_nil))) pe_str) (pe_callTy call_str_int (by rfl) T.n_str (by decide +kernel) (pa_cons (pe_ix (ix_seqK (K := K)) (pv 0) pe_int (fun _ _ => rfl)) pa_nil)))) pss_nil)), ?_⟩
      refine nrm (σ' := [some v_part]) rfl ?_
      obtain ⟨t1, e_t1, hm⟩ := bs hm
      refine q_if (et_B (ev_isiD isc_S e_t1 (ea_d (ev_d (K := K) rfl h_part) (ea_cons mo_cls ev_cls ea_nil)))) ok (fun hb G H s1 ok => ?_) (fun hb G H s1 ok => ?_)
      · have hm := cond_t hb hm
        have h_part := dp_up s1 _ h_part
        have sg := sg.trans s1
        obtain ⟨t2, e_t2, hm⟩ := bs hm
        refine q_ret (ev_strD e_t2 (ev_d (K := K) rfl h_part)) ok (fun v G H s1 ok hv => ?_)
        have sg := sg.trans s1
        cases hm
        exact q v G H sg (ok.less hB) hv
      · have hm := cond_f hb hm
        have h_part := dp_up s1 _ h_part
        have sg := sg.trans s1
        refine q_nilU ?_
        obtain ⟨t3, e_t3, hm⟩ := bs hm
        obtain ⟨t4, e_t4, hm⟩ := bs hm
        obtain ⟨t5, e_t5, hm⟩ := bs hm
        obtain ⟨t6, e_t6, hm⟩ := bs hm
        obtain ⟨t7, e_t7, hm⟩ := bs hm
        obtain ⟨t8, e_t8, hm⟩ := bs hm
        obtain ⟨t9, e_t9, hm⟩ := bs hm
        obtain ⟨t10, e_t10, hm⟩ := bs hm
        obtain ⟨t11, e_t11, hm⟩ := bs hm
        refine q_ret (ev_addS e_t11 (ev_addS e_t7 (ev_addS e_t6 (ev_str (K := K) (by decide +kernel)) (ev_callP (res := fun r => DD K (Dat.str r)) (a := t4) e_t5 (ea_d (ev_tupD e_t4 (ev_ixD e_t3 (ev_d (K := K) rfl h_part) (ev_int (K := K)))) ea_nil))) (ev_str (K := K) (by decide +kernel))) (ev_strI e_t10 (ea_d (ev_intD e_t9 (ev_ixD e_t8 (ev_d (K := K) rfl h_part) (ev_int (K := K)))) ea_nil))) ok (fun v G H s1 ok hv => ?_)
        have sg := sg.trans s1
        cases hm
        exact q v G H sg (ok.less hB) hv
theorem ok_course_text [Tb] {P : Program} {w : World} {K : PySem.W.Frag} {mg : Str → Option Value} {base : Heap} (T : Txt K mg) : ∀ n : Nat, FnOk P w K mg base CX0 (n + 1) T.a_course_text T.d_course_text ["course"] (sp_course_text K n)
  | 0 => by
    refine T.F_course_text.ok sc_course_text (fun vs H Q E h => ?_) (fun cdv A outer s0 H vs Q E hr h => ?_)
    · obtain ⟨G, M0, a, r, ok, ⟨v_course, _, rfl, h_course, rfl⟩, hm, q⟩ := h
      unfold m_course_text at hm
      cases hm
    · obtain ⟨G, M0, a, r, ok, ⟨v_course, _, rfl, h_course, rfl⟩, hm, q⟩ := h
      unfold m_course_text at hm
      cases hm
  | n + 1 => by
    have O_part_text := ok_part_text (P := P) (w := w) (base := base) T  n
    have O_course_text := ok_course_text (P := P) (w := w) (base := base) T  n
    refine T.F_course_text.ok sc_course_text (fun vs H Q E h => ?_) (fun cdv A outer s0 H vs Q E hr h => ?_)
    · obtain ⟨G, M0, a, r, ok, ⟨v_course, _, rfl, h_course, rfl⟩, hm, q⟩ := h
      rfl
    · obtain ⟨G, M0, a, r, ok, ⟨v_course, _, rfl, h_course, rfl⟩, hm, q⟩ := h
      unfold m_course_text at hm
      have sg := Same.refl G
      have hB := Same.refl M0
      refine ⟨_, (pss_cons (ps_ret (pe_orT (pe_m1 PySem.F.slot_str_join PySem.F.type_str_join (mt_joinK (K := K) rfl) pe_str (pe_lc (own := [("part", 1)]) (g := (gName 1)) (tt := tYes) rfl sc_course_text.nd (pi_tupK (K := K) (pv 0)) (blkOk_by (own := [("part", 1)]) (N := ["course", "part"]) (sc := defScope s_course_text) (by decide +kernel)) (fun _ _ _ _ _ => (pg_name (i := 1) sc_course_text.nd rfl (by first | exact .inl rfl | exact .inr rfl))) (fun _ _ _ _ _ => pts_nil) (fun _ _ _ _ _ => (pe_call O_part_text (hr.mono (by omega)) (by rfl) T.g_part_text T.F_part_text.kp T.b_part_text .nil pass0 (pa_cons (pv 1) pa_nil))))) (pe_one (pe_glob (v := .str "-") (by rfl) T.c_NOTHING ⟨_, rfl⟩)))) pss_nil), ?_⟩
      refine nrm (σ' := [some v_course, none]) rfl ?_
      obtain ⟨t8, e_t8, hm⟩ := bs hm
      obtain ⟨t9, e_t9, hm⟩ := bs hm
      obtain ⟨t10, e_t10, hm⟩ := bs hm
      refine q_ret (ev_orS e_t10 (ev_joinL e_t9 (ev_str (K := K) (by decide +kernel)) (EvL.ev (el_lcM (ea := id) (eb := Dat.str) (xs := a) (ys := t8) (hf := e_t8) (src_tup (ev_d (K := K) rfl h_course)) (fun x1 _ Mx5 _ _ he6 sM4 sG3 hv2 => by (obtain ⟨t7, e_t7, he6⟩ := bs he6); (have he6 := Option.some.inj he6); subst he6; exact (tg_name ⟨rfl, (ev_callP (res := fun r => DD K (Dat.str r)) (a := x1) e_t7 (ea_d (ev_d (K := K) rfl hv2) ea_nil))⟩))))) (ev_str (K := K) (by decide +kernel))) ok (fun v G H s1 ok hv => ?_)
      have sg := sg.trans s1
      cases hm
      exact q v G H sg (ok.less hB) hv
end
/-! ### show_course -/
theorem sc_show_course : FnScope ["peal", "course"] ["peal", "course"] (defScope s_show_course) := ⟨rfl, rfl, rfl, by decide +kernel, rfl, by decide +kernel, by decide +kernel⟩
def a_show_course (K : PySem.W.Frag) (a : ((List (Str × Int)) × (List (Str × Str × Int)) × (List (Str × Int)) × (List ((Str × Str) × Int))) × (List Dat)) : List V → Hp → Prop := conP (DD K (eX_Peal a.1)) (conP (DD K ((eT id) a.2)) (nilP))
def m_show_course (a : ((List (Str × Int)) × (List (Str × Str × Int)) × (List (Str × Int)) × (List ((Str × Str) × Int))) × (List Dat)) : Option Str :=
  (m_check_peal a.1).bind fun t1 => (m_check_course (a.1, ((eT id) a.2))).bind fun t2 => (m_course_text 16 a.2).bind fun t3 => some t3
abbrev sp_show_course [Tb] (K : PySem.W.Frag) : Sp := spP (a_show_course K) (m_show_course) fun r => DD K (Dat.str r)
theorem ok_show_course [Tb] {P : Program} {w : World} {K : PySem.W.Frag} {mg : Str → Option Value} {base : Heap} (T : Txt K mg) (O_check_peal : FnOk P w K mg base CX0 1 T.a_check_peal T.d_check_peal ["thing"] (sp_check_peal K)) (O_check_course : FnOk P w K mg base CX0 13 T.a_check_course T.d_check_course ["peal", "thing"] (sp_check_course K)) (O_course_text : FnOk P w K mg base CX0 17 T.a_course_text T.d_course_text ["course"] (sp_course_text K 16)) : FnOk P w K mg base CX0 (18) T.a_show_course T.d_show_course ["peal", "course"] (sp_show_course K) := by
  refine T.F_show_course.ok sc_show_course (fun vs H Q E h => ?_) (fun cdv A outer s0 H vs Q E hr h => ?_)
  · obtain ⟨G, M0, a, r, ok, ⟨v_peal, _, rfl, h_peal, v_course, _, rfl, h_course, rfl⟩, hm, q⟩ := h
    rfl
  · obtain ⟨G, M0, a, r, ok, ⟨v_peal, _, rfl, h_peal, v_course, _, rfl, h_course, rfl⟩, hm, q⟩ := h
    unfold m_show_course at hm
    have sg := Same.refl G
    have hB := Same.refl M0
    refine ⟨_, (pss_cons (ps_expr (pe_call O_check_peal (hr.mono (by decide)) (by rfl) T.g_check_peal T.F_check_peal.kp T.b_check_peal .nil pass0 (pa_cons (pv 0) pa_nil))) (pss_cons (ps_expr (pe_call O_check_course (hr.mono (by decide)) (by rfl) T.g_check_course T.F_check_course.kp T.b_check_course .nil pass0 (pa_cons (pv 0) (pa_cons (pv 1) pa_nil)))) (pss_cons (ps_ret (pe_call O_course_text (hr.mono (by decide)) (by rfl) T.g_course_text T.F_course_text.kp T.b_course_text .nil pass0 (pa_cons (pv 1) pa_nil))) pss_nil))), ?_⟩
    refine nrm (σ' := [some v_peal, some v_course]) rfl ?_
    obtain ⟨t1, e_t1, hm⟩ := bs hm
    refine q_expr (ev_callP (res := fun r => DD K (eN r)) (a := a.1) e_t1 (ea_d (ev_d (K := K) rfl h_peal) ea_nil)) ok (fun G H s1 ok => ?_)
    have h_peal := dp_up s1 _ h_peal
    have h_course := dp_up s1 _ h_course
    have sg := sg.trans s1
    obtain ⟨t2, e_t2, hm⟩ := bs hm
    refine q_expr (ev_callP (res := fun r => DD K (eN r)) (a := (a.1, ((eT id) a.2))) e_t2 (ea_d (ev_d (K := K) rfl h_peal) (ea_d (ev_d (K := K) rfl h_course) ea_nil))) ok (fun G H s1 ok => ?_)
    have h_peal := dp_up s1 _ h_peal
    have h_course := dp_up s1 _ h_course
    have sg := sg.trans s1
    obtain ⟨t3, e_t3, hm⟩ := bs hm
    refine q_ret (ev_callP (res := fun r => DD K (Dat.str r)) (a := a.2) e_t3 (ea_d (ev_d (K := K) rfl h_course) ea_nil)) ok (fun v G H s1 ok hv => ?_)
    have sg := sg.trans s1
    cases hm
    exact q v G H sg (ok.less hB) hv
/-! ### end_of -/
theorem sc_end_of : FnScope ["text", "at", "signs"] ["text", "at", "signs"] (defScope s_end_of) := ⟨rfl, rfl, rfl, by decide +kernel, rfl, by decide +kernel, by decide +kernel⟩
def a_end_of (K : PySem.W.Frag) (a : Str × Int × Str) : List V → Hp → Prop := conP (DD K (Dat.str a.1)) (conP (DD K (Dat.int a.2.1)) (conP (DD K (Dat.str a.2.2)) (nilP)))
def m_end_of (a : Str × Int × Str) : Option Int :=
  (whileO (fun (st2 : Int) => (lenS a.1).bind fun t5 => (cond (decide (st2 < t5)) ((atS a.1 st2).bind fun t6 => (inSign t6 a.2.2).bind fun t7 => some t7) (some false)).bind fun t8 => some t8) (fun (st2 : Int) => some (st2 + (1 : Int))) ((a.1).length + 1) a.2.1).bind fun fin1 => some fin1
abbrev sp_end_of [Tb] (K : PySem.W.Frag) : Sp := spP (a_end_of K) (m_end_of) fun r => DD K (Dat.int r)
theorem ok_end_of [Tb] {P : Program} {w : World} {K : PySem.W.Frag} {mg : Str → Option Value} {base : Heap} (T : Txt K mg) : FnOk P w K mg base CX0 (1) T.a_end_of T.d_end_of ["text", "at", "signs"] (sp_end_of K) := by
  refine T.F_end_of.ok sc_end_of (fun vs H Q E h => ?_) (fun cdv A outer s0 H vs Q E hr h => ?_)
  · obtain ⟨G, M0, a, r, ok, ⟨v_text, _, rfl, h_text, v_at_, _, rfl, h_at_, v_signs, _, rfl, h_signs, rfl⟩, hm, q⟩ := h
    rfl
  · obtain ⟨G, M0, a, r, ok, ⟨v_text, _, rfl, h_text, v_at_, _, rfl, h_at_, v_signs, _, rfl, h_signs, rfl⟩, hm, q⟩ := h
    unfold m_end_of at hm
    have sg := Same.refl G
    have hB := Same.refl M0
    refine ⟨_, (pss_cons (ps_while PassesOwn.never (PW.pt (pw_and (pt_cmpR op_lt (pv 1) (pe_callB cl_lenS (by rfl) T.n_len (by decide +kernel) (pa_cons (pv 0) pa_nil)) (nomark _)) (pw_and1 (pt_cmpR op_in_sign (pe_ix ix_str (pv 0) (pv 1) (fun _ _ => rfl)) (pv 2) (by rfl))))) (pss_cons (ps_aug (i := 1) sc_end_of.nd rfl (.inl rfl) pe_int ip_add) pss_nil)) (pss_cons (ps_ret (pv 1)) pss_nil)), ?_⟩
    cases h_at_
    refine nrm (σ' := [some v_text, some (.int a.2.1), some v_signs]) rfl ?_
    obtain ⟨fin1, e_fin1, hm⟩ := bs hm
    refine q_whileO ok (fun (st2 : Int) σ1 G1 M1 => σ1 = [some v_text, some (.int st2), some v_signs] ∧ (Same M0 M1)) e_fin1 ⟨rfl, hB⟩ (fun st2 b σ1 G M H hm hj s1 ok => ?_) (by rintro _ _ _ _ _ ⟨rfl, hB⟩ s2; exact ⟨rfl, hB⟩) (fun st2 st' σ1 G M H N hc hm hj s1 ok hN => ?_) (fun σ1 G M H hc s1 ok hj => ?_)
    · obtain ⟨rfl, hB⟩ := hj
      have h_text := dp_up s1 _ h_text
      have h_signs := dp_up s1 _ h_signs
      have sg := sg.trans s1
      obtain ⟨t5, e_t5, hm⟩ := bs hm
      obtain ⟨t8, e_t8, hm⟩ := bs hm
      rw [← Option.some.inj hm]
      exact (et_andG (c := t8) (et_test (ev_lt (ev_d (K := K) rfl (.int _)) (ev_lenS e_t5 (ea_d (ev_d (K := K) rfl h_text) ea_nil)))) (fun eb => by have e1 := cond_t eb e_t8; (obtain ⟨t6, e_t6, e1⟩ := bs e1); (obtain ⟨t7, e_t7, e1⟩ := bs e1); (have e1 := Option.some.inj e1); subst e1; exact (et_test (ev_inSign e_t7 (ev_ixS e_t6 (ev_d (K := K) rfl h_text) (ev_d (K := K) rfl (.int _))) (ev_d (K := K) rfl h_signs)))) (fun eb => by have e1 := cond_f eb e_t8; cases e1; exact ⟨rfl, rfl⟩))
    · obtain ⟨rfl, hB⟩ := hj
      have h_text := dp_up s1 _ h_text
      have h_signs := dp_up s1 _ h_signs
      have sg := sg.trans s1
      have sl9 := Same.refl G
      refine q_augI (σ' := fun v => [some v_text, some v, some v_signs]) rfl (ev_int (K := K)) ok rfl (fun G H s1 ok => ?_)
      have h_text := dp_up s1 _ h_text
      have h_signs := dp_up s1 _ h_signs
      have sg := sg.trans s1
      have sl9 := sl9.trans s1
      refine q_nil ?_
      cases hm
      exact hN _ _ _ _ sl9 ok ⟨rfl, hB⟩
    · obtain ⟨rfl, hB⟩ := hj
      have h_text := dp_up s1 _ h_text
      have h_signs := dp_up s1 _ h_signs
      have sg := sg.trans s1
      refine q_ret (ev_d (K := K) rfl (.int _)) ok (fun v G H s1 ok hv => ?_)
      have sg := sg.trans s1
      cases hm
      exact q v G H sg (ok.less hB) hv
/-! ### part_read -/
theorem sc_part_read : FnScope ["text", "at", "within", "end", "inner", "begin"] ["text", "at", "within"] (defScope s_part_read) := ⟨rfl, rfl, rfl, by decide +kernel, rfl, by decide +kernel, by decide +kernel⟩
def a_part_read (K : PySem.W.Frag) (a : Str × Int × Int) : List V → Hp → Prop := conP (DD K (Dat.str a.1)) (conP (DD K (Dat.int a.2.1)) (conP (DD K (Dat.int a.2.2)) (nilP)))
/-! ### course_read -/
theorem sc_course_read : FnScope ["text", "at", "within", "found", "told"] ["text", "at", "within"] (defScope s_course_read) := ⟨rfl, rfl, rfl, by decide +kernel, rfl, by decide +kernel, by decide +kernel⟩
def a_course_read (K : PySem.W.Frag) (a : Str × Int × Int) : List V → Hp → Prop := conP (DD K (Dat.str a.1)) (conP (DD K (Dat.int a.2.1)) (conP (DD K (Dat.int a.2.2)) (nilP)))
mutual
def m_part_read : Nat → (Str × Int × Int) → Option (Option (Dat × Int))
  | 0, _ => none
  | n + 1, a => (cutSO a.1 (some a.2.1) (some (a.2.1 + (1 : Int)))).bind fun t1 => cond (!decide (t1 = (Str.ofString "("))) ((m_end_of (a.1, a.2.1, (Str.ofString "abcdefghijklmnopqrstuvwxyz"))).bind fun t2 => (cond (decide (t2 = a.2.1)) (some (none : (Option (Dat × Int)))) ((cutSO a.1 (some a.2.1) (some t2)).bind fun t3 => some (some ((Dat.str t3), t2)))).bind fun t4 => some t4) ((m_course_read n (a.1, (a.2.1 + (1 : Int)), (a.2.2 + (1 : Int)))).bind fun t5 => (cond (t5).isNone (some true) ((t5).bind fun t6 => (t5).bind fun t7 => (cutSO a.1 (some t6.2) (some (t7.2 + (2 : Int)))).bind fun t8 => some (!decide (t8 = (Str.ofString ")x"))))).bind fun t9 => cond t9 (some (none : (Option (Dat × Int)))) ((t5).bind fun t10 => (m_end_of (a.1, (t10.2 + (2 : Int)), (Str.ofString "0123456789"))).bind fun t11 => (cond (!((decide ((1 : Int) ≤ (t11 - (t10.2 + (2 : Int))))) && (decide ((t11 - (t10.2 + (2 : Int))) ≤ (31 : Int))))) (some true) ((atS a.1 (t10.2 + (2 : Int))).bind fun t12 => some (decide (t12 = (Str.ofString "0"))))).bind fun t13 => cond t13 (some (none : (Option (Dat × Int)))) ((t5).bind fun t14 => (cutSO a.1 (some (t10.2 + (2 : Int))) (some t11)).bind fun t15 => (intSO t15).bind fun t16 => some (some (((eP2 (eT id) Dat.int) (t14.1, t16)), t11)))))
def m_course_read : Nat → (Str × Int × Int) → Option (Option ((List Dat) × Int))
  | 0, _ => none
  | n + 1, a => cond (decide ((5 : Int) < a.2.2)) (some (none : (Option ((List Dat) × Int)))) ((cutSO a.1 (some a.2.1) (some (a.2.1 + (1 : Int)))).bind fun t1 => cond (decide (t1 = (Str.ofString "-"))) (some (some (([] : (List Dat)), (a.2.1 + (1 : Int))))) ((whileR (R := (Option ((List Dat) × Int))) (fun (st3 : Int × (List Dat)) => some true) (fun (st3 : Int × (List Dat)) => (m_part_read n (a.1, st3.1, a.2.2)).bind fun t7 => cond (t7).isNone (some (.inr (none : (Option ((List Dat) × Int))))) ((t7).bind fun t8 => (appO st3.2 t8.1).bind fun t9 => (t7).bind fun t10 => (cutSO a.1 (some t10.2) (some (t10.2 + (1 : Int)))).bind fun t11 => cond (!decide (t11 = (Str.ofString " "))) (some (.inr (some (t9, t10.2)))) (some (.inl ((t10.2 + (1 : Int)), t9))))) ((a.1).length + 1) (a.2.1, ([] : (List Dat)))).bind fun fin2 => orR fin2 (fun fin2s => none) (fun r => some r)))
end
abbrev sp_part_read [Tb] (K : PySem.W.Frag) (n : Nat) : Sp := spP (a_part_read K) (m_part_read n) fun r => DD K ((eO (eP2 id Dat.int)) r)
abbrev sp_course_read [Tb] (K : PySem.W.Frag) (n : Nat) : Sp := spP (a_course_read K) (m_course_read n) fun r => DD K ((eO (eP2 (eT id) Dat.int)) r)
mutual
theorem ok_part_read [Tb] {P : Program} {w : World} {K : PySem.W.Frag} {mg : Str → Option Value} {base : Heap} (T : Txt K mg) (O_end_of : FnOk P w K mg base CX0 1 T.a_end_of T.d_end_of ["text", "at", "signs"] (sp_end_of K)) : ∀ n : Nat, FnOk P w K mg base CX0 (n + 2) T.a_part_read T.d_part_read ["text", "at", "within"] (sp_part_read K n)
  | 0 => by
    refine T.F_part_read.ok sc_part_read (fun vs H Q E h => ?_) (fun cdv A outer s0 H vs Q E hr h => ?_)
    · obtain ⟨G, M0, a, r, ok, ⟨v_text, _, rfl, h_text, v_at_, _, rfl, h_at_, v_within, _, rfl, h_within, rfl⟩, hm, q⟩ := h
      unfold m_part_read at hm
      cases hm
    · obtain ⟨G, M0, a, r, ok, ⟨v_text, _, rfl, h_text, v_at_, _, rfl, h_at_, v_within, _, rfl, h_within, rfl⟩, hm, q⟩ := h
      unfold m_part_read at hm
      cases hm
  | n + 1 => by
    have O_part_read := ok_part_read (P := P) (w := w) (base := base) T O_end_of n
    have O_course_read := ok_course_read (P := P) (w := w) (base := base) T O_end_of n
    refine T.F_part_read.ok sc_part_read (fun vs H Q E h => ?_) (fun cdv A outer s0 H vs Q E hr h => ?_)
    · obtain ⟨G, M0, a, r, ok, ⟨v_text, _, rfl, h_text, v_at_, _, rfl, h_at_, v_within, _, rfl, h_within, rfl⟩, hm, q⟩ := h
      rfl
    · obtain ⟨G, M0, a, r, ok, ⟨v_text, _, rfl, h_text, v_at_, _, rfl, h_at_, v_within, _, rfl, h_within, rfl⟩, hm, q⟩ := h
      unfold m_part_read at hm
      have sg := Same.refl G
      have hB := Same.refl M0
      refine ⟨_, (pss_cons (ps_if (pt_cmpR op_ne (pe_slice sl_str (pv 0) (po_some (pv 1)) (po_some (pe_op op_add (pv 1) pe_int))) pe_str (nomark _)) (pss_cons (ps_set (i := 3) sc_part_read.nd rfl (.inl rfl) (pe_call O_end_of (hr.mono (by omega)) (by rfl) T.g_end_of T.F_end_of.kp T.b_end_of .nil pass0 (pa_cons (pv 0) (pa_cons (pv 1) (pa_cons (pe_glob (v := .str "abcdefghijklmnopqrstuvwxyz") (by rfl) T.c_LETTERS ⟨_, rfl⟩) pa_nil))))) (pss_cons (ps_ret (pe_ifExp (pt_cmpR op_eq (pv 3) (pv 1) (nomark _)) pe_non (pe_tupF (pa_cons (pe_slice sl_str (pv 0) (po_some (pv 1)) (po_some (pv 3))) (pa_cons (pv 3) pa_nil))))) pss_nil)) pss_nil) (pss_cons (ps_set (i := 4) sc_part_read.nd rfl (.inl rfl) (pe_call O_course_read (hr.mono (by omega)) (by rfl) T.g_course_read T.F_course_read.kp T.b_course_read .nil pass0 (pa_cons (pv 0) (pa_cons (pe_op op_add (pv 1) pe_int) (pa_cons (pe_op op_add (pv 2) pe_int) pa_nil))))) (pss_cons (ps_if (PW.pt (pw_or (pt_cmpR op_isN (pv 4) pe_non (nomark _)) (pw_or1 (pt_cmpR op_ne (pe_slice sl_str (pv 0) (po_some (pe_ix (ix_tupK (K := K)) (pv 4) pe_int (fun _ _ => rfl))) (po_some (pe_op op_add (pe_ix (ix_tupK (K := K)) (pv 4) pe_int (fun _ _ => rfl)) pe_int))) pe_str (nomark _))))) (pss_cons (ps_ret pe_non) pss_nil) pss_nil) (pss_cons (ps_set (i := 5) sc_part_read.nd rfl (.inl rfl) (pe_op op_add (pe_ix (ix_tupK (K := K)) (pv 4) pe_int (fun _ _ => rfl)) pe_int)) (pss_cons (ps_set (i := 3) sc_part_read.nd rfl (.inl rfl) (pe_call O_end_of (hr.mono (by omega)) (by rfl) T.g_end_of T.F_end_of.kp T.b_end_of .nil pass0 (pa_cons (pv 0) (pa_cons (pv 5) (pa_cons (pe_glob (v := .str "0123456789") (by rfl) T.c_FIGURES ⟨_, rfl⟩) pa_nil))))) (pss_cons (ps_if (PW.pt (pw_or (pt_not (pt_chain op_le op_le pe_int (pe_op op_sub (pv 3) (pv 5)) (pe_glob (v := .int 31) (by rfl) T.c_MOST_TIMES_FIGURES ⟨_, rfl⟩))) (pw_or1 (pt_cmpR op_eq (pe_ix ix_str (pv 0) (pv 5) (fun _ _ => rfl)) pe_str (nomark _))))) (pss_cons (ps_ret pe_non) pss_nil) pss_nil) (pss_cons (ps_ret (pe_tupF (pa_cons (pe_tupF (pa_cons (pe_ix (ix_tupK (K := K)) (pv 4) pe_int (fun _ _ => rfl)) (pa_cons (pe_callTy call_int_str (by rfl) T.n_int (by decide +kernel) (pa_cons (pe_slice sl_str (pv 0) (po_some (pv 5)) (po_some (pv 3))) pa_nil)) pa_nil))) (pa_cons (pv 3) pa_nil)))) pss_nil))))))), ?_⟩
      cases h_at_
      cases h_within
      refine nrm (σ' := [some v_text, some (.int a.2.1), some (.int a.2.2), none, none, none]) rfl ?_
      obtain ⟨t1, e_t1, hm⟩ := bs hm
      refine q_if (et_test (ev_neS (ev_slS e_t1 (ev_d (K := K) rfl h_text) (eo_some (ev_d (K := K) rfl (.int _))) (eo_some (ev_add (ev_d (K := K) rfl (.int _)) (ev_int (K := K))))) (ev_str (K := K) (by decide +kernel)))) ok (fun hb G H s1 ok => ?_) (fun hb G H s1 ok => ?_)
      · have hm := cond_t hb hm
        have h_text := dp_up s1 _ h_text
        have sg := sg.trans s1
        obtain ⟨t2, e_t2, hm⟩ := bs hm
        refine q_set (σ' := fun v => [some v_text, some (.int a.2.1), some (.int a.2.2), some v, none, none]) (ev_callP (res := fun r => DD K (Dat.int r)) (a := (a.1, a.2.1, (Str.ofString "abcdefghijklmnopqrstuvwxyz"))) e_t2 (ea_d (ev_d (K := K) rfl h_text) (ea_d (ev_d (K := K) rfl (.int _)) (ea_d (ev_str (K := K) (by decide +kernel)) ea_nil)))) ok (fun _ => rfl) (fun v_end_ G H s1 ok h_end_ => ?_)
        have h_text := dp_up s1 _ h_text
        have sg := sg.trans s1
        cases h_end_
        obtain ⟨t4, e_t4, hm⟩ := bs hm
        refine q_ret (ev_if (P := DD K ((eO (eP2 id Dat.int)) t4)) (et_test (ev_eqI (ev_d (K := K) rfl (.int _)) (ev_d (K := K) rfl (.int _)))) (fun eb => by have e1 := cond_t eb e_t4; cases e1; exact (ev_non (K := K))) (fun eb => by have e1 := cond_f eb e_t4; (obtain ⟨t3, e_t3, e1⟩ := bs e1); cases e1; exact (ev_tup (ea_consD (ev_slS e_t3 (ev_d (K := K) rfl h_text) (eo_some (ev_d (K := K) rfl (.int _))) (eo_some (ev_d (K := K) rfl (.int _)))) (ea_consD (ev_d (K := K) rfl (.int _)) (ea_nilD (K := K))))))) ok (fun v G H s1 ok hv => ?_)
        have sg := sg.trans s1
        cases hm
        exact q v G H sg (ok.less hB) hv
      · have hm := cond_f hb hm
        have h_text := dp_up s1 _ h_text
        have sg := sg.trans s1
        refine q_nilU ?_
        obtain ⟨t5, e_t5, hm⟩ := bs hm
        refine q_set (σ' := fun v => [some v_text, some (.int a.2.1), some (.int a.2.2), none, some v, none]) (ev_callP (res := fun r => DD K ((eO (eP2 (eT id) Dat.int)) r)) (a := (a.1, (a.2.1 + (1 : Int)), (a.2.2 + (1 : Int)))) e_t5 (ea_d (ev_d (K := K) rfl h_text) (ea_d (ev_add (ev_d (K := K) rfl (.int _)) (ev_int (K := K))) (ea_d (ev_add (ev_d (K := K) rfl (.int _)) (ev_int (K := K))) ea_nil)))) ok (fun _ => rfl) (fun v_inner G H s1 ok h_inner => ?_)
        have h_text := dp_up s1 _ h_text
        have sg := sg.trans s1
        obtain ⟨t9, e_t9, hm⟩ := bs hm
        refine q_if (et_orG (c := t9) (et_test (ev_isNO (e := (eP2 (eT id) Dat.int)) (o := t5) (fun _ h => Dat.noConfusion h) (ev_d (K := K) rfl h_inner) (ev_non (K := K)))) (fun eb => by have e1 := cond_f eb e_t9; (obtain ⟨t6, e_t6, e1⟩ := bs e1); (obtain ⟨t7, e_t7, e1⟩ := bs e1); (obtain ⟨t8, e_t8, e1⟩ := bs e1); (have e1 := Option.some.inj e1); subst e1; exact (et_test (ev_neS (ev_slS e_t8 (ev_d (K := K) rfl h_text) (eo_some (ev_ixT (d := Dat.int t6.2) rfl (ev_unO (e := (eP2 (eT id) Dat.int)) e_t6 (ev_d (K := K) rfl h_inner)) ev_int)) (eo_some (ev_add (ev_ixT (d := Dat.int t7.2) rfl (ev_unO (e := (eP2 (eT id) Dat.int)) e_t7 (ev_d (K := K) rfl h_inner)) ev_int) (ev_int (K := K))))) (ev_str (K := K) (by decide +kernel))))) (fun eb => by have e1 := cond_t eb e_t9; cases e1; exact ⟨rfl, rfl⟩)) ok (fun hb G H s1 ok => ?_) (fun hb G H s1 ok => ?_)
        · have hm := cond_t hb hm
          have h_text := dp_up s1 _ h_text
          have h_inner := dp_up s1 _ h_inner
          have sg := sg.trans s1
          refine q_ret (ev_non (K := K)) ok (fun v G H s1 ok hv => ?_)
          have sg := sg.trans s1
          cases hm
          exact q v G H sg (ok.less hB) hv
        · have hm := cond_f hb hm
          have h_text := dp_up s1 _ h_text
          have h_inner := dp_up s1 _ h_inner
          have sg := sg.trans s1
          refine q_nilU ?_
          obtain ⟨t10, e_t10, hm⟩ := bs hm
          refine q_set (σ' := fun v => [some v_text, some (.int a.2.1), some (.int a.2.2), none, some v_inner, some v]) (ev_add (ev_ixT (d := Dat.int t10.2) rfl (ev_unO (e := (eP2 (eT id) Dat.int)) e_t10 (ev_d (K := K) rfl h_inner)) ev_int) (ev_int (K := K))) ok (fun _ => rfl) (fun v_begin G H s1 ok h_begin => ?_)
          have h_text := dp_up s1 _ h_text
          have h_inner := dp_up s1 _ h_inner
          have sg := sg.trans s1
          cases h_begin
          obtain ⟨t11, e_t11, hm⟩ := bs hm
          refine q_set (σ' := fun v => [some v_text, some (.int a.2.1), some (.int a.2.2), some v, some v_inner, some (.int (t10.2 + (2 : Int)))]) (ev_callP (res := fun r => DD K (Dat.int r)) (a := (a.1, (t10.2 + (2 : Int)), (Str.ofString "0123456789"))) e_t11 (ea_d (ev_d (K := K) rfl h_text) (ea_d (ev_d (K := K) rfl (.int _)) (ea_d (ev_str (K := K) (by decide +kernel)) ea_nil)))) ok (fun _ => rfl) (fun v_end_ G H s1 ok h_end_ => ?_)
          have h_text := dp_up s1 _ h_text
          have h_inner := dp_up s1 _ h_inner
          have sg := sg.trans s1
          cases h_end_
          obtain ⟨t13, e_t13, hm⟩ := bs hm
          refine q_if (et_orG (c := t13) (et_not (et_test (ev_chainI (ev_int (K := K)) (ev_sub (ev_d (K := K) rfl (.int _)) (ev_d (K := K) rfl (.int _))) (ev_int (K := K))))) (fun eb => by have e1 := cond_f eb e_t13; (obtain ⟨t12, e_t12, e1⟩ := bs e1); (have e1 := Option.some.inj e1); subst e1; exact (et_test (ev_eqS (ev_ixS e_t12 (ev_d (K := K) rfl h_text) (ev_d (K := K) rfl (.int _))) (ev_str (K := K) (by decide +kernel))))) (fun eb => by have e1 := cond_t eb e_t13; cases e1; exact ⟨rfl, rfl⟩)) ok (fun hb G H s1 ok => ?_) (fun hb G H s1 ok => ?_)
          · have hm := cond_t hb hm
            have h_text := dp_up s1 _ h_text
            have h_inner := dp_up s1 _ h_inner
            have sg := sg.trans s1
            refine q_ret (ev_non (K := K)) ok (fun v G H s1 ok hv => ?_)
            have sg := sg.trans s1
            cases hm
            exact q v G H sg (ok.less hB) hv
          · have hm := cond_f hb hm
            have h_text := dp_up s1 _ h_text
            have h_inner := dp_up s1 _ h_inner
            have sg := sg.trans s1
            refine q_nilU ?_
            obtain ⟨t14, e_t14, hm⟩ := bs hm
            obtain ⟨t15, e_t15, hm⟩ := bs hm
            obtain ⟨t16, e_t16, hm⟩ := bs hm
            refine q_ret (ev_tup (ea_consD (ev_tup (ea_consD (ev_ixT (d := (eT id) t14.1) rfl (ev_unO (e := (eP2 (eT id) Dat.int)) e_t14 (ev_d (K := K) rfl h_inner)) ev_int) (ea_consD (ev_intS e_t16 (ea_d (ev_slS e_t15 (ev_d (K := K) rfl h_text) (eo_some (ev_d (K := K) rfl (.int _))) (eo_some (ev_d (K := K) rfl (.int _)))) ea_nil)) (ea_nilD (K := K))))) (ea_consD (ev_d (K := K) rfl (.int _)) (ea_nilD (K := K))))) ok (fun v G H s1 ok hv => ?_)
            have sg := sg.trans s1
            cases hm
            exact q v G H sg (ok.less hB) hv
theorem ok_course_read [Tb] {P : Program} {w : World} {K : PySem.W.Frag} {mg : Str → Option Value} {base : Heap} (T : Txt K mg) (O_end_of : FnOk P w K mg base CX0 1 T.a_end_of T.d_end_of ["text", "at", "signs"] (sp_end_of K)) : ∀ n : Nat, FnOk P w K mg base CX0 (n + 2) T.a_course_read T.d_course_read ["text", "at", "within"] (sp_course_read K n)
  | 0 => by
    refine T.F_course_read.ok sc_course_read (fun vs H Q E h => ?_) (fun cdv A outer s0 H vs Q E hr h => ?_)
    · obtain ⟨G, M0, a, r, ok, ⟨v_text, _, rfl, h_text, v_at_, _, rfl, h_at_, v_within, _, rfl, h_within, rfl⟩, hm, q⟩ := h
      unfold m_course_read at hm
      cases hm
    · obtain ⟨G, M0, a, r, ok, ⟨v_text, _, rfl, h_text, v_at_, _, rfl, h_at_, v_within, _, rfl, h_within, rfl⟩, hm, q⟩ := h
      unfold m_course_read at hm
      cases hm
  | n + 1 => by
    have O_part_read := ok_part_read (P := P) (w := w) (base := base) T O_end_of n
    have O_course_read := ok_course_read (P := P) (w := w) (base := base) T O_end_of n
    refine T.F_course_read.ok sc_course_read (fun vs H Q E h => ?_) (fun cdv A outer s0 H vs Q E hr h => ?_)
    · obtain ⟨G, M0, a, r, ok, ⟨v_text, _, rfl, h_text, v_at_, _, rfl, h_at_, v_within, _, rfl, h_within, rfl⟩, hm, q⟩ := h
      rfl
    · obtain ⟨G, M0, a, r, ok, ⟨v_text, _, rfl, h_text, v_at_, _, rfl, h_at_, v_within, _, rfl, h_within, rfl⟩, hm, q⟩ := h
      unfold m_course_read at hm
      have sg := Same.refl G
      have hB := Same.refl M0
      refine ⟨_, (pss_cons (ps_if (pt_cmpR op_gt (pv 2) (pe_glob (v := .int 5) (by rfl) T.c_MOST_WITHIN ⟨_, rfl⟩) (nomark _)) (pss_cons (ps_ret pe_non) pss_nil) pss_nil) (pss_cons (ps_if (pt_cmpR op_eq (pe_slice sl_str (pv 0) (po_some (pv 1)) (po_some (pe_op op_add (pv 1) pe_int))) (pe_glob (v := .str "-") (by rfl) T.c_NOTHING ⟨_, rfl⟩) (nomark _)) (pss_cons (ps_ret (pe_tupF (pa_cons (pe_tupF pa_nil) (pa_cons (pe_op op_add (pv 1) pe_int) pa_nil)))) pss_nil) pss_nil) (pss_cons (ps_set (i := 3) sc_course_read.nd rfl (.inl rfl) (pe_lst pa_nil)) (pss_cons (ps_while PassesOwn.never (pt_val pe_bl) (pss_cons (ps_set (i := 4) sc_course_read.nd rfl (.inl rfl) (pe_call O_part_read (hr.mono (by omega)) (by rfl) T.g_part_read T.F_part_read.kp T.b_part_read .nil pass0 (pa_cons (pv 0) (pa_cons (pv 1) (pa_cons (pv 2) pa_nil))))) (pss_cons (ps_if (pt_cmpR op_isN (pv 4) pe_non (nomark _)) (pss_cons (ps_ret pe_non) pss_nil) pss_nil) (pss_cons (ps_expr (pe_bm PySem.F.plainAttrs_list PySem.F.slot_list_append PySem.F.type_list_append mt_append (pv 3) (pa_cons (pe_ix (ix_tupK (K := K)) (pv 4) pe_int (fun _ _ => rfl)) pa_nil))) (pss_cons (ps_set (i := 1) sc_course_read.nd rfl (.inl rfl) (pe_ix (ix_tupK (K := K)) (pv 4) pe_int (fun _ _ => rfl))) (pss_cons (ps_if (pt_cmpR op_ne (pe_slice sl_str (pv 0) (po_some (pv 1)) (po_some (pe_op op_add (pv 1) pe_int))) pe_str (nomark _)) (pss_cons (ps_ret (pe_tupF (pa_cons (pe_callTy (cl_tupleK (K := K)) (by rfl) T.n_tuple (by decide +kernel) (pa_cons (pv 3) pa_nil)) (pa_cons (pv 1) pa_nil)))) pss_nil) pss_nil) (pss_cons (ps_aug (i := 1) sc_course_read.nd rfl (.inl rfl) pe_int ip_add) pss_nil))))))) pss_nil)))), ?_⟩
      cases h_at_
      cases h_within
      refine nrm (σ' := [some v_text, some (.int a.2.1), some (.int a.2.2), none, none]) rfl ?_
      refine q_if (et_test (ev_gt (ev_d (K := K) rfl (.int _)) (ev_int (K := K)))) ok (fun hb G H s1 ok => ?_) (fun hb G H s1 ok => ?_)
      · have hm := cond_t hb hm
        have h_text := dp_up s1 _ h_text
        have sg := sg.trans s1
        refine q_ret (ev_non (K := K)) ok (fun v G H s1 ok hv => ?_)
        have sg := sg.trans s1
        cases hm
        exact q v G H sg (ok.less hB) hv
      · have hm := cond_f hb hm
        have h_text := dp_up s1 _ h_text
        have sg := sg.trans s1
        refine q_nilU ?_
        obtain ⟨t1, e_t1, hm⟩ := bs hm
        refine q_if (et_test (ev_eqS (ev_slS e_t1 (ev_d (K := K) rfl h_text) (eo_some (ev_d (K := K) rfl (.int _))) (eo_some (ev_add (ev_d (K := K) rfl (.int _)) (ev_int (K := K))))) (ev_str (K := K) (by decide +kernel)))) ok (fun hb G H s1 ok => ?_) (fun hb G H s1 ok => ?_)
        · have hm := cond_t hb hm
          have h_text := dp_up s1 _ h_text
          have sg := sg.trans s1
          refine q_ret (ev_tup (ea_consD (ev_tup (ea_nilD (K := K))) (ea_consD (ev_add (ev_d (K := K) rfl (.int _)) (ev_int (K := K))) (ea_nilD (K := K))))) ok (fun v G H s1 ok hv => ?_)
          have sg := sg.trans s1
          cases hm
          exact q v G H sg (ok.less hB) hv
        · have hm := cond_f hb hm
          have h_text := dp_up s1 _ h_text
          have sg := sg.trans s1
          refine q_nilU ?_
          refine q_setL (σ' := fun v => [some v_text, some (.int a.2.1), some (.int a.2.2), some v, none]) (el_lst (ea_nilD (K := K))) ok (fun _ => rfl) (fun p_found vs_found G H s1 ok hn hd_found => ?_)
          have h_text := dp_up s1 _ h_text
          have sg := sg.trans s1
          have h0_found : M0 p_found = none := sB_none (M := M0) hB hn
          have hd_found : DqAll K G vs_found (([] : (List Dat)).map id) := hd_found
          have ok : Ok _ (upd M0 p_found (.lst vs_found)) _ := ok
          have hB : Same M0 (upd M0 p_found (.lst vs_found)) := (sB_own hB h0_found)
          have hp_found : (upd M0 p_found (.lst vs_found)) p_found = some (.lst vs_found) := upd_same
          obtain ⟨M, eM⟩ : ∃ m, m = (upd M0 p_found (.lst vs_found)) := ⟨_, rfl⟩
          rw [← eM] at ok hB hp_found
          clear eM
          obtain ⟨fin2, e_fin2, hm⟩ := bs hm
          have hmo4 := hm
          refine q_whileR ok (fun (st3 : Int × (List Dat)) σ1 G1 M1 => ∃ (y_told : Option V) (vs_found : List V), σ1 = [some v_text, some (.int st3.1), some (.int a.2.2), some (.ref p_found), y_told] ∧ (DqAll K G1 vs_found (st3.2.map id)) ∧ (M1 p_found = some (.lst vs_found)) ∧ (Same M0 M1)) e_fin2 ⟨_, _, rfl, hd_found, hp_found, hB⟩ (fun st3 b σ1 G M H hm hj s1 ok => ?_) (by rintro _ _ _ _ _ ⟨y_told, vs_found, rfl, hd_found, hp_found, hB⟩ s2; exact ⟨_, _, rfl, dpAll_up s2 _ hd_found, hp_found, hB⟩) (fun st3 st' σ1 G M H N hc hm hret5 hj s1 ok hN => ?_) (fun fin2s σ1 G M H hfin hc s1 ok hj => ?_)
          · obtain ⟨y_told, vs_found, rfl, hd_found, hp_found, hB⟩ := hj
            have h_text := dp_up s1 _ h_text
            have sg := sg.trans s1
            rw [← Option.some.inj hm]
            exact (et_B (ev_bl (K := K)))
          · obtain ⟨y_told, vs_found, rfl, hd_found, hp_found, hB⟩ := hj
            have h_text := dp_up s1 _ h_text
            have sg := sg.trans s1
            have sl6 := Same.refl G
            obtain ⟨t7, e_t7, hm⟩ := bs hm
            refine q_set (σ' := fun v => [some v_text, some (.int st3.1), some (.int a.2.2), some (.ref p_found), some v]) (ev_callP (res := fun r => DD K ((eO (eP2 id Dat.int)) r)) (a := (a.1, st3.1, a.2.2)) e_t7 (ea_d (ev_d (K := K) rfl h_text) (ea_d (ev_d (K := K) rfl (.int _)) (ea_d (ev_d (K := K) rfl (.int _)) ea_nil)))) ok (fun _ => rfl) (fun v_told G H s1 ok h_told => ?_)
            have h_text := dp_up s1 _ h_text
            have hd_found := dpAll_up s1 _ hd_found
            have sg := sg.trans s1
            have sl6 := sl6.trans s1
            refine q_if (et_test (ev_isNO (e := (eP2 id Dat.int)) (o := t7) (fun _ h => Dat.noConfusion h) (ev_d (K := K) rfl h_told) (ev_non (K := K)))) ok (fun hb G H s1 ok => ?_) (fun hb G H s1 ok => ?_)
            · have hm := cond_t hb hm
              have h_text := dp_up s1 _ h_text
              have hd_found := dpAll_up s1 _ hd_found
              have h_told := dp_up s1 _ h_told
              have sg := sg.trans s1
              have sl6 := sl6.trans s1
              refine q_ret (ev_non (K := K)) ok (fun v G H s1 ok hv => ?_)
              have sg := sg.trans s1
              cases hm
              have hf0 := hret5 _ rfl
              rw [hf0] at hmo4
              have hmx0 := hmo4
              cases hmx0
              exact q v G H sg (ok.less hB) hv
            · have hm := cond_f hb hm
              have h_text := dp_up s1 _ h_text
              have hd_found := dpAll_up s1 _ hd_found
              have h_told := dp_up s1 _ h_told
              have sg := sg.trans s1
              have sl6 := sl6.trans s1
              refine q_nilU ?_
              obtain ⟨t8, e_t8, hm⟩ := bs hm
              obtain ⟨t9, e_t9, hm⟩ := bs hm
              obtain ⟨hl_t9, ea_t9⟩ := appO_of e_t9
              refine q_append (ev_own rfl) (ea_d (ev_ixT (d := id t8.1) rfl (ev_unO (e := (eP2 id Dat.int)) e_t8 (ev_d (K := K) rfl h_told)) ev_int) ea_nil) hp_found hp_found (by rw [dpAll_len hd_found, List.length_map]; exact szlt hl_t9) ok (fun v G H s1 ok hv => ?_)
              have h_text := dp_up s1 _ h_text
              have hd_found := dpAll_up s1 _ hd_found
              have h_told := dp_up s1 _ h_told
              have sg := sg.trans s1
              have sl6 := sl6.trans s1
              have hd_found : DqAll K G (vs_found ++ [v]) (t9.map id) := by rw [ea_t9, List.map_append]; exact dpAll_app hd_found (.cons hv .nil)
              have ok : Ok _ (upd M p_found (.lst (vs_found ++ [v]))) _ := ok
              have hB : Same M0 (upd M p_found (.lst (vs_found ++ [v]))) := (sB_own hB h0_found)
              have hp_found : (upd M p_found (.lst (vs_found ++ [v]))) p_found = some (.lst (vs_found ++ [v])) := upd_same
              obtain ⟨M, eM⟩ : ∃ m, m = (upd M p_found (.lst (vs_found ++ [v]))) := ⟨_, rfl⟩
              rw [← eM] at ok hB hp_found
              clear eM
              obtain ⟨vs_found, e_vs⟩ : ∃ m, m = (vs_found ++ [v]) := ⟨_, rfl⟩
              rw [← e_vs] at hp_found hd_found
              clear e_vs
              obtain ⟨t10, e_t10, hm⟩ := bs hm
              refine q_set (σ' := fun v => [some v_text, some v, some (.int a.2.2), some (.ref p_found), some v_told]) (ev_ixT (d := Dat.int t10.2) rfl (ev_unO (e := (eP2 id Dat.int)) e_t10 (ev_d (K := K) rfl h_told)) ev_int) ok (fun _ => rfl) (fun v_at_ G H s1 ok h_at_ => ?_)
              have h_text := dp_up s1 _ h_text
              have hd_found := dpAll_up s1 _ hd_found
              have h_told := dp_up s1 _ h_told
              have sg := sg.trans s1
              have sl6 := sl6.trans s1
              cases h_at_
              obtain ⟨t11, e_t11, hm⟩ := bs hm
              refine q_if (et_test (ev_neS (ev_slS e_t11 (ev_d (K := K) rfl h_text) (eo_some (ev_d (K := K) rfl (.int _))) (eo_some (ev_add (ev_d (K := K) rfl (.int _)) (ev_int (K := K))))) (ev_str (K := K) (by decide +kernel)))) ok (fun hb G H s1 ok => ?_) (fun hb G H s1 ok => ?_)
              · have hm := cond_t hb hm
                have h_text := dp_up s1 _ h_text
                have hd_found := dpAll_up s1 _ hd_found
                have h_told := dp_up s1 _ h_told
                have sg := sg.trans s1
                have sl6 := sl6.trans s1
                refine q_ret (ev_tup (ea_consD (ev_tupO hp_found hd_found (ea_cons mo_ow (ev_own rfl) ea_nil)) (ea_consD (ev_d (K := K) rfl (.int _)) (ea_nilD (K := K))))) ok (fun v G H s1 ok hv => ?_)
                have sg := sg.trans s1
                cases hm
                have hf0 := hret5 _ rfl
                rw [hf0] at hmo4
                have hmx0 := hmo4
                cases hmx0
                exact q v G H sg (ok.less hB) hv
              · have hm := cond_f hb hm
                have h_text := dp_up s1 _ h_text
                have hd_found := dpAll_up s1 _ hd_found
                have h_told := dp_up s1 _ h_told
                have sg := sg.trans s1
                have sl6 := sl6.trans s1
                refine q_nilU ?_
                refine q_augI (σ' := fun v => [some v_text, some v, some (.int a.2.2), some (.ref p_found), some v_told]) rfl (ev_int (K := K)) ok rfl (fun G H s1 ok => ?_)
                have h_text := dp_up s1 _ h_text
                have hd_found := dpAll_up s1 _ hd_found
                have h_told := dp_up s1 _ h_told
                have sg := sg.trans s1
                have sl6 := sl6.trans s1
                refine q_nil ?_
                cases hm
                exact hN _ _ _ _ _ rfl sl6 ok ⟨_, _, rfl, hd_found, hp_found, hB⟩
          · obtain ⟨y_told, vs_found, rfl, hd_found, hp_found, hB⟩ := hj
            have h_text := dp_up s1 _ h_text
            have sg := sg.trans s1
            rw [hfin] at hm
            have hm := orR_l hm
            cases hc
end
/-! ### read_course -/
theorem sc_read_course : FnScope ["peal", "text", "told"] ["peal", "text"] (defScope s_read_course) := ⟨rfl, rfl, rfl, by decide +kernel, rfl, by decide +kernel, by decide +kernel⟩
def a_read_course (K : PySem.W.Frag) (a : ((List (Str × Int)) × (List (Str × Str × Int)) × (List (Str × Int)) × (List ((Str × Str) × Int))) × Str) : List V → Hp → Prop := conP (DD K (eX_Peal a.1)) (conP (DD K (Dat.str a.2)) (nilP))
def m_read_course (a : ((List (Str × Int)) × (List (Str × Str × Int)) × (List (Str × Int)) × (List ((Str × Str) × Int))) × Str) : Option (List Dat) :=
  (m_check_peal a.1).bind fun t1 => (cond true ((m_course_read 16 (a.2, (0 : Int), (1 : Int))).bind fun t2 => some t2) (some (none : (Option ((List Dat) × Int))))).bind fun t3 => (cond (t3).isNone (some true) ((t3).bind fun t4 => (lenS a.2).bind fun t5 => (cond (!decide (t4.2 = t5)) (some true) ((t3).bind fun t6 => (m_fits_course (a.1, ((eT id) t6.1))).bind fun t7 => some (!t7))).bind fun t8 => some t8)).bind fun t9 => cond t9 (none) ((t3).bind fun t10 => some t10.1)
abbrev sp_read_course [Tb] (K : PySem.W.Frag) : Sp := spP (a_read_course K) (m_read_course) fun r => DD K ((eT id) r)
theorem ok_read_course [Tb] {P : Program} {w : World} {K : PySem.W.Frag} {mg : Str → Option Value} {base : Heap} (T : Txt K mg) (O_check_peal : FnOk P w K mg base CX0 1 T.a_check_peal T.d_check_peal ["thing"] (sp_check_peal K)) (O_course_read : FnOk P w K mg base CX0 18 T.a_course_read T.d_course_read ["text", "at", "within"] (sp_course_read K 16)) (O_fits_course : FnOk P w K mg base CX0 12 T.a_fits_course T.d_fits_course ["peal", "thing"] (sp_fits_course K)) : FnOk P w K mg base CX0 (19) T.a_read_course T.d_read_course ["peal", "text"] (sp_read_course K) := by
  refine T.F_read_course.ok sc_read_course (fun vs H Q E h => ?_) (fun cdv A outer s0 H vs Q E hr h => ?_)
  · obtain ⟨G, M0, a, r, ok, ⟨v_peal, _, rfl, h_peal, v_text, _, rfl, h_text, rfl⟩, hm, q⟩ := h
    rfl
  · obtain ⟨G, M0, a, r, ok, ⟨v_peal, _, rfl, h_peal, v_text, _, rfl, h_text, rfl⟩, hm, q⟩ := h
    unfold m_read_course at hm
    have sg := Same.refl G
    have hB := Same.refl M0
    refine ⟨_, (pss_cons (ps_expr (pe_call O_check_peal (hr.mono (by decide)) (by rfl) T.g_check_peal T.F_check_peal.kp T.b_check_peal .nil pass0 (pa_cons (pv 0) pa_nil))) (pss_cons (ps_set (i := 2) sc_read_course.nd rfl (.inl rfl) (pe_ifExp (pt_val (pe_callB (call_isiKK (K := K)) (by rfl) T.n_isinstance (by decide +kernel) (pa_cons (pv 1) (pa_cons (pe_bltn (v := .ty "str") (by rfl) T.n_str (by decide +kernel) rfl) pa_nil)))) (pe_call O_course_read (hr.mono (by decide)) (by rfl) T.g_course_read T.F_course_read.kp T.b_course_read .nil pass0 (pa_cons (pv 1) (pa_cons pe_int (pa_cons pe_int pa_nil)))) pe_non)) (pss_cons (ps_if (PW.pt (pw_or (pt_cmpR op_isN (pv 2) pe_non (nomark _)) (pw_or (pt_cmpR op_ne (pe_ix (ix_tupK (K := K)) (pv 2) pe_int (fun _ _ => rfl)) (pe_callB cl_lenS (by rfl) T.n_len (by decide +kernel) (pa_cons (pv 1) pa_nil)) (nomark _)) (pw_or1 (pt_not (pt_val (pe_call O_fits_course (hr.mono (by decide)) (by rfl) T.g_fits_course T.F_fits_course.kp T.b_fits_course .nil pass0 (pa_cons (pv 0) (pa_cons (pe_ix (ix_tupK (K := K)) (pv 2) pe_int (fun _ _ => rfl)) pa_nil))))))))) (pss_cons ps_never pss_nil) pss_nil) (pss_cons (ps_ret (pe_ix (ix_tupK (K := K)) (pv 2) pe_int (fun _ _ => rfl))) pss_nil)))), ?_⟩
    refine nrm (σ' := [some v_peal, some v_text, none]) rfl ?_
    obtain ⟨t1, e_t1, hm⟩ := bs hm
    refine q_expr (ev_callP (res := fun r => DD K (eN r)) (a := a.1) e_t1 (ea_d (ev_d (K := K) rfl h_peal) ea_nil)) ok (fun G H s1 ok => ?_)
    have h_peal := dp_up s1 _ h_peal
    have h_text := dp_up s1 _ h_text
    have sg := sg.trans s1
    obtain ⟨t3, e_t3, hm⟩ := bs hm
    refine q_set (σ' := fun v => [some v_peal, some v_text, some v]) (ev_if (P := DD K ((eO (eP2 (eT id) Dat.int)) t3)) (et_B (ev_isi (d := Dat.str a.2) (n := "str") (b := true) rfl (show kitB "str" "str" = some true by decide +kernel) (ea_d (ev_d (K := K) rfl h_text) (ea_cons mo_cls ev_cls ea_nil)))) (fun eb => by have e1 := cond_t eb e_t3; (obtain ⟨t2, e_t2, e1⟩ := bs e1); cases e1; exact (ev_callP (res := fun r => DD K ((eO (eP2 (eT id) Dat.int)) r)) (a := (a.2, (0 : Int), (1 : Int))) e_t2 (ea_d (ev_d (K := K) rfl h_text) (ea_d (ev_int (K := K)) (ea_d (ev_int (K := K)) ea_nil))))) (fun eb => by have e1 := cond_f eb e_t3; cases e1; exact (ev_non (K := K)))) ok (fun _ => rfl) (fun v_told G H s1 ok h_told => ?_)
    have h_peal := dp_up s1 _ h_peal
    have h_text := dp_up s1 _ h_text
    have sg := sg.trans s1
    obtain ⟨t9, e_t9, hm⟩ := bs hm
    refine q_if (et_orG (c := t9) (et_test (ev_isNO (e := (eP2 (eT id) Dat.int)) (o := t3) (fun _ h => Dat.noConfusion h) (ev_d (K := K) rfl h_told) (ev_non (K := K)))) (fun eb => by have e1 := cond_f eb e_t9; (obtain ⟨t4, e_t4, e1⟩ := bs e1); (obtain ⟨t5, e_t5, e1⟩ := bs e1); (obtain ⟨t8, e_t8, e1⟩ := bs e1); (have e1 := Option.some.inj e1); subst e1; exact (et_orG (c := t8) (et_test (ev_neI (ev_ixT (d := Dat.int t4.2) rfl (ev_unO (e := (eP2 (eT id) Dat.int)) e_t4 (ev_d (K := K) rfl h_told)) ev_int) (ev_lenS e_t5 (ea_d (ev_d (K := K) rfl h_text) ea_nil)))) (fun eb => by have e1 := cond_f eb e_t8; (obtain ⟨t6, e_t6, e1⟩ := bs e1); (obtain ⟨t7, e_t7, e1⟩ := bs e1); (have e1 := Option.some.inj e1); subst e1; exact (et_not (et_B (ev_callP (res := fun r => DD K (Dat.bool r)) (a := (a.1, ((eT id) t6.1))) e_t7 (ea_d (ev_d (K := K) rfl h_peal) (ea_d (ev_ixT (d := (eT id) t6.1) rfl (ev_unO (e := (eP2 (eT id) Dat.int)) e_t6 (ev_d (K := K) rfl h_told)) ev_int) ea_nil)))))) (fun eb => by have e1 := cond_t eb e_t8; cases e1; exact ⟨rfl, rfl⟩))) (fun eb => by have e1 := cond_t eb e_t9; cases e1; exact ⟨rfl, rfl⟩)) ok (fun hb G H s1 ok => ?_) (fun hb G H s1 ok => ?_)
    · have hm := cond_t hb hm
      have h_peal := dp_up s1 _ h_peal
      have h_text := dp_up s1 _ h_text
      have h_told := dp_up s1 _ h_told
      have sg := sg.trans s1
      cases hm
    · have hm := cond_f hb hm
      have h_peal := dp_up s1 _ h_peal
      have h_text := dp_up s1 _ h_text
      have h_told := dp_up s1 _ h_told
      have sg := sg.trans s1
      refine q_nilU ?_
      obtain ⟨t10, e_t10, hm⟩ := bs hm
      refine q_ret (ev_ixT (d := (eT id) t10.1) rfl (ev_unO (e := (eP2 (eT id) Dat.int)) e_t10 (ev_d (K := K) rfl h_told)) ev_int) ok (fun v G H s1 ok hv => ?_)
      have sg := sg.trans s1
      cases hm
      exact q v G H sg (ok.less hB) hv
/-! ### read_course_2 -/
def a_read_course_2 (K : PySem.W.Frag) (a : ((List (Str × Int)) × (List (Str × Str × Int)) × (List (Str × Int)) × (List ((Str × Str) × Int))) × Str) : List V → Hp → Prop := conP (DD K (eX_Peal a.1)) (conP (DD K (Dat.str a.2)) (nilP))
def m_read_course_2 (a : ((List (Str × Int)) × (List (Str × Str × Int)) × (List (Str × Int)) × (List ((Str × Str) × Int))) × Str) : Option ((List Dat) ⊕ Ex) :=
  (m_check_peal a.1).bind fun t1 => (cond true ((m_course_read 16 (a.2, (0 : Int), (1 : Int))).bind fun t2 => some t2) (some (none : (Option ((List Dat) × Int))))).bind fun t3 => (cond (t3).isNone (some true) ((t3).bind fun t4 => (lenS a.2).bind fun t5 => (cond (!decide (t4.2 = t5)) (some true) ((t3).bind fun t6 => (m_fits_course (a.1, ((eT id) t6.1))).bind fun t7 => some (!t7))).bind fun t8 => some t8)).bind fun t9 => cond t9 (some (.inr ("NoText", some ("row", (Dat.int (0 : Int)))))) ((t3).bind fun t10 => some (.inl t10.1))
abbrev sp_read_course_2 [Tb] (K : PySem.W.Frag) : Sp := spX K (a_read_course_2 K) (m_read_course_2) fun r => DD K ((eT id) r)
theorem ok_read_course_2 [Tb] {P : Program} {w : World} {K : PySem.W.Frag} {mg : Str → Option Value} {base : Heap} (T : Txt K mg) (O_check_peal : FnOk P w K mg base CX0 1 T.a_check_peal T.d_check_peal ["thing"] (sp_check_peal K)) (O_course_read : FnOk P w K mg base CX0 18 T.a_course_read T.d_course_read ["text", "at", "within"] (sp_course_read K 16)) (O_fits_course : FnOk P w K mg base CX0 12 T.a_fits_course T.d_fits_course ["peal", "thing"] (sp_fits_course K)) (O_NoText___init__ : FnOk P w K mg base CX0 1 T.a_NoText___init__ T.d_NoText___init__ ["self", "row"] (sp_NoText___init__ K)) : FnOk P w K mg base (L2N.CX P w) (19) T.a_read_course T.d_read_course ["peal", "text"] (sp_read_course_2 K) := by
  refine okXN T.F_read_course sc_read_course (fun vs H Q E h => ?_) (fun cdv A outer s0 H vs Q E hr h => ?_)
  · obtain ⟨G, M0, a, r, ok, ⟨v_peal, _, rfl, h_peal, v_text, _, rfl, h_text, rfl⟩, hm, q, qx⟩ := h
    rfl
  · obtain ⟨G, M0, a, r, ok, ⟨v_peal, _, rfl, h_peal, v_text, _, rfl, h_text, rfl⟩, hm, q, qx⟩ := h
    unfold m_read_course_2 at hm
    have sg := Same.refl G
    have hB := Same.refl M0
    refine ⟨_, (pss_cons (ps_expr (pe_call O_check_peal (hr.mono (by decide)) (by rfl) T.g_check_peal T.F_check_peal.kp T.b_check_peal .nil pass0 (pa_cons (pv 0) pa_nil))) (pss_cons (ps_set (i := 2) sc_read_course.nd rfl (.inl rfl) (pe_ifExp (pt_val (pe_callB (call_isiKK (K := K)) (by rfl) T.n_isinstance (by decide +kernel) (pa_cons (pv 1) (pa_cons (pe_bltn (v := .ty "str") (by rfl) T.n_str (by decide +kernel) rfl) pa_nil)))) (pe_call O_course_read (hr.mono (by decide)) (by rfl) T.g_course_read T.F_course_read.kp T.b_course_read .nil pass0 (pa_cons (pv 1) (pa_cons pe_int (pa_cons pe_int pa_nil)))) pe_non)) (pss_cons (ps_if (PW.pt (pw_or (pt_cmpR op_isN (pv 2) pe_non (nomark _)) (pw_or (pt_cmpR op_ne (pe_ix (ix_tupK (K := K)) (pv 2) pe_int (fun _ _ => rfl)) (pe_callB cl_lenS (by rfl) T.n_len (by decide +kernel) (pa_cons (pv 1) pa_nil)) (nomark _)) (pw_or1 (pt_not (pt_val (pe_call O_fits_course (hr.mono (by decide)) (by rfl) T.g_fits_course T.F_fits_course.kp T.b_fits_course .nil pass0 (pa_cons (pv 0) (pa_cons (pe_ix (ix_tupK (K := K)) (pv 2) pe_int (fun _ _ => rfl)) pa_nil))))))))) (pss_cons (L2N.ps_raise rfl (L2N.takes_of rfl rfl rfl rfl) (pmk_oexG T.ox_NoText T.xn_NoText T.xf_NoText O_NoText___init__ (hr.mono (by decide)) T.b_NoText___init__ .nil pass0 (by rfl) T.mx_NoText (pa_cons pe_int pa_nil))) pss_nil) pss_nil) (pss_cons (ps_ret (pe_ix (ix_tupK (K := K)) (pv 2) pe_int (fun _ _ => rfl))) pss_nil)))), ?_⟩
    refine nrm (σ' := [some v_peal, some v_text, none]) rfl ?_
    obtain ⟨t1, e_t1, hm⟩ := bs hm
    refine q_expr (ev_callP (res := fun r => DD K (eN r)) (a := a.1) e_t1 (ea_d (ev_d (K := K) rfl h_peal) ea_nil)) ok (fun G H s1 ok => ?_)
    have h_peal := dp_up s1 _ h_peal
    have h_text := dp_up s1 _ h_text
    have sg := sg.trans s1
    obtain ⟨t3, e_t3, hm⟩ := bs hm
    refine q_set (σ' := fun v => [some v_peal, some v_text, some v]) (ev_if (P := DD K ((eO (eP2 (eT id) Dat.int)) t3)) (et_B (ev_isi (d := Dat.str a.2) (n := "str") (b := true) rfl (show kitB "str" "str" = some true by decide +kernel) (ea_d (ev_d (K := K) rfl h_text) (ea_cons mo_cls ev_cls ea_nil)))) (fun eb => by have e1 := cond_t eb e_t3; (obtain ⟨t2, e_t2, e1⟩ := bs e1); cases e1; exact (ev_callP (res := fun r => DD K ((eO (eP2 (eT id) Dat.int)) r)) (a := (a.2, (0 : Int), (1 : Int))) e_t2 (ea_d (ev_d (K := K) rfl h_text) (ea_d (ev_int (K := K)) (ea_d (ev_int (K := K)) ea_nil))))) (fun eb => by have e1 := cond_f eb e_t3; cases e1; exact (ev_non (K := K)))) ok (fun _ => rfl) (fun v_told G H s1 ok h_told => ?_)
    have h_peal := dp_up s1 _ h_peal
    have h_text := dp_up s1 _ h_text
    have sg := sg.trans s1
    obtain ⟨t9, e_t9, hm⟩ := bs hm
    refine q_if (et_orG (c := t9) (et_test (ev_isNO (e := (eP2 (eT id) Dat.int)) (o := t3) (fun _ h => Dat.noConfusion h) (ev_d (K := K) rfl h_told) (ev_non (K := K)))) (fun eb => by have e1 := cond_f eb e_t9; (obtain ⟨t4, e_t4, e1⟩ := bs e1); (obtain ⟨t5, e_t5, e1⟩ := bs e1); (obtain ⟨t8, e_t8, e1⟩ := bs e1); (have e1 := Option.some.inj e1); subst e1; exact (et_orG (c := t8) (et_test (ev_neI (ev_ixT (d := Dat.int t4.2) rfl (ev_unO (e := (eP2 (eT id) Dat.int)) e_t4 (ev_d (K := K) rfl h_told)) ev_int) (ev_lenS e_t5 (ea_d (ev_d (K := K) rfl h_text) ea_nil)))) (fun eb => by have e1 := cond_f eb e_t8; (obtain ⟨t6, e_t6, e1⟩ := bs e1); (obtain ⟨t7, e_t7, e1⟩ := bs e1); (have e1 := Option.some.inj e1); subst e1; exact (et_not (et_B (ev_callP (res := fun r => DD K (Dat.bool r)) (a := (a.1, ((eT id) t6.1))) e_t7 (ea_d (ev_d (K := K) rfl h_peal) (ea_d (ev_ixT (d := (eT id) t6.1) rfl (ev_unO (e := (eP2 (eT id) Dat.int)) e_t6 (ev_d (K := K) rfl h_told)) ev_int) ea_nil)))))) (fun eb => by have e1 := cond_t eb e_t8; cases e1; exact ⟨rfl, rfl⟩))) (fun eb => by have e1 := cond_t eb e_t9; cases e1; exact ⟨rfl, rfl⟩)) ok (fun hb G H s1 ok => ?_) (fun hb G H s1 ok => ?_)
    · have hm := cond_t hb hm
      have h_peal := dp_up s1 _ h_peal
      have h_text := dp_up s1 _ h_text
      have h_told := dp_up s1 _ h_told
      have sg := sg.trans s1
      refine q_raise1 (f := "row") (y := (Dat.int (0 : Int))) (c := "NoText") rfl (ea_d (ev_int (K := K)) ea_nil) ok (fun d G H s1 ok hd => ?_)
      have sg := sg.trans s1
      cases hm
      exact qx _ rfl d _ _ sg (ok.less hB) hd
    · have hm := cond_f hb hm
      have h_peal := dp_up s1 _ h_peal
      have h_text := dp_up s1 _ h_text
      have h_told := dp_up s1 _ h_told
      have sg := sg.trans s1
      refine q_nilU ?_
      obtain ⟨t10, e_t10, hm⟩ := bs hm
      refine q_ret (ev_ixT (d := (eT id) t10.1) rfl (ev_unO (e := (eP2 (eT id) Dat.int)) e_t10 (ev_d (K := K) rfl h_told)) ev_int) ok (fun v G H s1 ok hv => ?_)
      have sg := sg.trans s1
      cases hm
      exact q _ rfl v G H sg (ok.less hB) hv
/-! ### _law_sort -/
theorem sc__law_sort : FnScope ["_law_e", "_law_some", "_law_families", "_law_own", "_law_at", "_law_words", "_law_word"] ["_law_e"] (defScope s__law_sort) := ⟨rfl, rfl, rfl, by decide +kernel, rfl, by decide +kernel, by decide +kernel⟩
def a__law_sort (K : PySem.W.Frag) (p : Addr) (d : Option Addr) (a : Dat) : List V → Hp → Prop := conP (XP K p d "NoText" (some ("row", a))) (nilP)
def m__law_sort (a : Dat) : Option (Str × Str) :=
  (catO ([false, false, false, true] : (List Bool)) ([false, false, false] : (List Bool))).bind fun t1 => (catO t1 ([false, false, false] : (List Bool))).bind fun t2 => (catO t2 ([false, false, false] : (List Bool))).bind fun t3 => (catO t3 ([false, false, false] : (List Bool))).bind fun t4 => (catO t4 ([false, false, false, false] : (List Bool))).bind fun t5 => (catO t5 ([false, false, false] : (List Bool))).bind fun t6 => cond ((!decide ((cntE true t6 : Int) = (1 : Int))) || (!decide (([true, false, false] : (List Bool)) = ([true, false, false] : (List Bool))))) (some ((Str.ofString "unlike"), (Str.ofString ""))) ((idxE true t6).bind fun t7 => cond (!decide (([true, false, false] : (List Bool)) = ([(decide ((t7 : Int) < (19 : Int))), ((decide ((18 : Int) < (t7 : Int))) && (decide ((t7 : Int) < (22 : Int)))), (decide ((t7 : Int) = (22 : Int)))] : (List Bool)))) (some ((Str.ofString "unlike"), (Str.ofString ""))) ((addS (Str.ofString "no-peal no-bells no-notches no-text no-standing no-row no-dials no-rings no-course no-number") (Str.ofString " no-moduli no-vectors no-vector no-weights no-truth no-histories no-deed no-log no-say")).bind fun t8 => (addS t8 (Str.ofString " no-name no-place no-back too-many")).bind fun t9 => (splitO t9 (Str.ofString " ")).bind fun t10 => (atI t10 (t7 : Int)).bind fun t11 => cond (memB (t7 : Int) ([(1 : Int), (2 : Int), (7 : Int), (11 : Int), (15 : Int), (17 : Int)] : (List Int))) (((none : Option Dat)).bind fun t12 => (reprD (id t12)).bind fun t13 => some (t11, t13)) (cond (decide ((t7 : Int) = (3 : Int))) ((reprD (id a)).bind fun t14 => some (t11, t14)) (cond (decide ((t7 : Int) = (19 : Int))) (((none : Option Dat)).bind fun t15 => (reprD (id t15)).bind fun t16 => some (t11, t16)) ((cond (decide ((t7 : Int) = (22 : Int))) (((none : Option Dat)).bind fun t17 => (reprD (id t17)).bind fun t18 => some t18) (some (Str.ofString ""))).bind fun t19 => some (t11, t19))))))
abbrev sp__law_sort [Tb] (K : PySem.W.Frag) : Addr → Value → Option Addr → Sp := spS K "NoText" (a__law_sort K) m__law_sort fun r => DD K ((eP2 Dat.str Dat.str) r)
theorem ok__law_sort [Tb] {P : Program} {w : World} {K : PySem.W.Frag} {mg : Str → Option Value} {base : Heap} (T : Txt K mg) : FnE P w K mg base CX0 (1) T.a__law_sort T.d__law_sort ["_law_e"] (sp__law_sort K) := by
  refine okE T.F__law_sort sc__law_sort (fun e cls d vs H Q E h => ?_) (fun cdv A outer s0 H vs Q E p cls d hgd hot hz hr h => ?_)
  · obtain ⟨rfl, G, M0, a, r, ok, ⟨v_l_e, _, rfl, h_l_e, rfl⟩, hm, q⟩ := h
    rfl
  · obtain ⟨rfl, G, M0, a, r, ok, ⟨v_l_e, _, rfl, h_l_e, rfl⟩, hm, q⟩ := h
    unfold m__law_sort at hm
    have sg := Same.refl G
    have hB := Same.refl M0
    refine ⟨_, (pss_cons (ps_set (i := 1) sc__law_sort.nd rfl (.inl rfl) (pe_lst (pa_cons (pe_callB (call_isP List.mem_cons_self T.ec_NoText hz (Hot1.flds hot)) (by rfl) T.n_isinstance (by decide +kernel) (pa_cons (pv 0) (pa_cons (pe_glob (v := .ref (clsAt K "NoPeal")) (by rfl) T.mc_NoPeal rfl) pa_nil))) (pa_cons (pe_callB (call_isP List.mem_cons_self T.ec_NoText hz (Hot1.flds hot)) (by rfl) T.n_isinstance (by decide +kernel) (pa_cons (pv 0) (pa_cons (pe_glob (v := .ref (clsAt K "NoBells")) (by rfl) T.mc_NoBells rfl) pa_nil))) (pa_cons (pe_callB (call_isP List.mem_cons_self T.ec_NoText hz (Hot1.flds hot)) (by rfl) T.n_isinstance (by decide +kernel) (pa_cons (pv 0) (pa_cons (pe_glob (v := .ref (clsAt K "NoNotches")) (by rfl) T.mc_NoNotches rfl) pa_nil))) (pa_cons (pe_callB (call_isP List.mem_cons_self T.ec_NoText hz (Hot1.flds hot)) (by rfl) T.n_isinstance (by decide +kernel) (pa_cons (pv 0) (pa_cons (pe_glob (v := .ref (clsAt K "NoText")) (by rfl) T.mc_NoText rfl) pa_nil))) pa_nil)))))) (pss_cons (ps_set (i := 1) sc__law_sort.nd rfl (.inl rfl) (pe_op op_cat (pv 1) (pe_lst (pa_cons (pe_callB (call_isP List.mem_cons_self T.ec_NoText hz (Hot1.flds hot)) (by rfl) T.n_isinstance (by decide +kernel) (pa_cons (pv 0) (pa_cons (pe_glob (v := .ref (clsAt K "NoStanding")) (by rfl) T.mc_NoStanding rfl) pa_nil))) (pa_cons (pe_callB (call_isP List.mem_cons_self T.ec_NoText hz (Hot1.flds hot)) (by rfl) T.n_isinstance (by decide +kernel) (pa_cons (pv 0) (pa_cons (pe_glob (v := .ref (clsAt K "NoRow")) (by rfl) T.mc_NoRow rfl) pa_nil))) (pa_cons (pe_callB (call_isP List.mem_cons_self T.ec_NoText hz (Hot1.flds hot)) (by rfl) T.n_isinstance (by decide +kernel) (pa_cons (pv 0) (pa_cons (pe_glob (v := .ref (clsAt K "NoDials")) (by rfl) T.mc_NoDials rfl) pa_nil))) pa_nil)))))) (pss_cons (ps_set (i := 1) sc__law_sort.nd rfl (.inl rfl) (pe_op op_cat (pv 1) (pe_lst (pa_cons (pe_callB (call_isP List.mem_cons_self T.ec_NoText hz (Hot1.flds hot)) (by rfl) T.n_isinstance (by decide +kernel) (pa_cons (pv 0) (pa_cons (pe_glob (v := .ref (clsAt K "NoRings")) (by rfl) T.mc_NoRings rfl) pa_nil))) (pa_cons (pe_callB (call_isP List.mem_cons_self T.ec_NoText hz (Hot1.flds hot)) (by rfl) T.n_isinstance (by decide +kernel) (pa_cons (pv 0) (pa_cons (pe_glob (v := .ref (clsAt K "NoCourse")) (by rfl) T.mc_NoCourse rfl) pa_nil))) (pa_cons (pe_callB (call_isP List.mem_cons_self T.ec_NoText hz (Hot1.flds hot)) (by rfl) T.n_isinstance (by decide +kernel) (pa_cons (pv 0) (pa_cons (pe_glob (v := .ref (clsAt K "NoNumber")) (by rfl) T.mc_NoNumber rfl) pa_nil))) pa_nil)))))) (pss_cons (ps_set (i := 1) sc__law_sort.nd rfl (.inl rfl) (pe_op op_cat (pv 1) (pe_lst (pa_cons (pe_callB (call_isP List.mem_cons_self T.ec_NoText hz (Hot1.flds hot)) (by rfl) T.n_isinstance (by decide +kernel) (pa_cons (pv 0) (pa_cons (pe_glob (v := .ref (clsAt K "NoModuli")) (by rfl) T.mc_NoModuli rfl) pa_nil))) (pa_cons (pe_callB (call_isP List.mem_cons_self T.ec_NoText hz (Hot1.flds hot)) (by rfl) T.n_isinstance (by decide +kernel) (pa_cons (pv 0) (pa_cons (pe_glob (v := .ref (clsAt K "NoVectors")) (by rfl) T.mc_NoVectors rfl) pa_nil))) (pa_cons (pe_callB (call_isP List.mem_cons_self T.ec_NoText hz (Hot1.flds hot)) (by rfl) T.n_isinstance (by decide +kernel) (pa_cons (pv 0) (pa_cons (pe_glob (v := .ref (clsAt K "NoVector")) (by rfl) T.mc_NoVector rfl) pa_nil))) pa_nil)))))) (pss_cons (ps_set (i := 1) sc__law_sort.nd rfl (.inl rfl) (pe_op op_cat (pv 1) (pe_lst (pa_cons (pe_callB (call_isP List.mem_cons_self T.ec_NoText hz (Hot1.flds hot)) (by rfl) T.n_isinstance (by decide +kernel) (pa_cons (pv 0) (pa_cons (pe_glob (v := .ref (clsAt K "NoWeights")) (by rfl) T.mc_NoWeights rfl) pa_nil))) (pa_cons (pe_callB (call_isP List.mem_cons_self T.ec_NoText hz (Hot1.flds hot)) (by rfl) T.n_isinstance (by decide +kernel) (pa_cons (pv 0) (pa_cons (pe_glob (v := .ref (clsAt K "NoTruth")) (by rfl) T.mc_NoTruth rfl) pa_nil))) (pa_cons (pe_callB (call_isP List.mem_cons_self T.ec_NoText hz (Hot1.flds hot)) (by rfl) T.n_isinstance (by decide +kernel) (pa_cons (pv 0) (pa_cons (pe_glob (v := .ref (clsAt K "NoHistories")) (by rfl) T.mc_NoHistories rfl) pa_nil))) pa_nil)))))) (pss_cons (ps_set (i := 1) sc__law_sort.nd rfl (.inl rfl) (pe_op op_cat (pv 1) (pe_lst (pa_cons (pe_callB (call_isP List.mem_cons_self T.ec_NoText hz (Hot1.flds hot)) (by rfl) T.n_isinstance (by decide +kernel) (pa_cons (pv 0) (pa_cons (pe_glob (v := .ref (clsAt K "NoDeed")) (by rfl) T.mc_NoDeed rfl) pa_nil))) (pa_cons (pe_callB (call_isP List.mem_cons_self T.ec_NoText hz (Hot1.flds hot)) (by rfl) T.n_isinstance (by decide +kernel) (pa_cons (pv 0) (pa_cons (pe_glob (v := .ref (clsAt K "NoLog")) (by rfl) T.mc_NoLog rfl) pa_nil))) (pa_cons (pe_callB (call_isP List.mem_cons_self T.ec_NoText hz (Hot1.flds hot)) (by rfl) T.n_isinstance (by decide +kernel) (pa_cons (pv 0) (pa_cons (pe_glob (v := .ref (clsAt K "NoSay")) (by rfl) T.mc_NoSay rfl) pa_nil))) (pa_cons (pe_callB (call_isP List.mem_cons_self T.ec_NoText hz (Hot1.flds hot)) (by rfl) T.n_isinstance (by decide +kernel) (pa_cons (pv 0) (pa_cons (pe_glob (v := .ref (clsAt K "NoName")) (by rfl) T.mc_NoName rfl) pa_nil))) pa_nil))))))) (pss_cons (ps_set (i := 1) sc__law_sort.nd rfl (.inl rfl) (pe_op op_cat (pv 1) (pe_lst (pa_cons (pe_callB (call_isP List.mem_cons_self T.ec_NoText hz (Hot1.flds hot)) (by rfl) T.n_isinstance (by decide +kernel) (pa_cons (pv 0) (pa_cons (pe_glob (v := .ref (clsAt K "NoPlace")) (by rfl) T.mc_NoPlace rfl) pa_nil))) (pa_cons (pe_callB (call_isP List.mem_cons_self T.ec_NoText hz (Hot1.flds hot)) (by rfl) T.n_isinstance (by decide +kernel) (pa_cons (pv 0) (pa_cons (pe_glob (v := .ref (clsAt K "NoBack")) (by rfl) T.mc_NoBack rfl) pa_nil))) (pa_cons (pe_callB (call_isP List.mem_cons_self T.ec_NoText hz (Hot1.flds hot)) (by rfl) T.n_isinstance (by decide +kernel) (pa_cons (pv 0) (pa_cons (pe_glob (v := .ref (clsAt K "TooMany")) (by rfl) T.mc_TooMany rfl) pa_nil))) pa_nil)))))) (pss_cons (ps_set (i := 2) sc__law_sort.nd rfl (.inl rfl) (pe_lst (pa_cons (pe_callB (call_isP List.mem_cons_self T.ec_NoText hz (Hot1.flds hot)) (by rfl) T.n_isinstance (by decide +kernel) (pa_cons (pv 0) (pa_cons (pe_glob (v := .ref (clsAt K "BellError")) (by rfl) T.mc_BellError rfl) pa_nil))) (pa_cons (pe_callB (call_isP List.mem_cons_self T.ec_NoText hz (Hot1.flds hot)) (by rfl) T.n_isinstance (by decide +kernel) (pa_cons (pv 0) (pa_cons (pe_glob (v := .ref (clsAt K "LostError")) (by rfl) T.mc_LostError rfl) pa_nil))) (pa_cons (pe_callB (call_isP List.mem_cons_self T.ec_NoText hz (Hot1.flds hot)) (by rfl) T.n_isinstance (by decide +kernel) (pa_cons (pv 0) (pa_cons (pe_glob (v := .ref (clsAt K "GreatError")) (by rfl) T.mc_GreatError rfl) pa_nil))) pa_nil))))) (pss_cons (ps_set (i := 3) sc__law_sort.nd rfl (.inl rfl) (pe_lst (pa_cons (pe_callB (call_isP List.mem_cons_self T.ec_NoText hz (Hot1.flds hot)) (by rfl) T.n_isinstance (by decide +kernel) (pa_cons (pv 0) (pa_cons (pe_bltn (v := .ty "ValueError") (by rfl) T.n_ValueError (by decide +kernel) rfl) pa_nil))) (pa_cons (pe_callB (call_isP List.mem_cons_self T.ec_NoText hz (Hot1.flds hot)) (by rfl) T.n_isinstance (by decide +kernel) (pa_cons (pv 0) (pa_cons (pe_bltn (v := .ty "LookupError") (by rfl) T.n_LookupError (by decide +kernel) rfl) pa_nil))) (pa_cons (pe_callB (call_isP List.mem_cons_self T.ec_NoText hz (Hot1.flds hot)) (by rfl) T.n_isinstance (by decide +kernel) (pa_cons (pv 0) (pa_cons (pe_bltn (v := .ty "ArithmeticError") (by rfl) T.n_ArithmeticError (by decide +kernel) rfl) pa_nil))) pa_nil))))) (pss_cons (ps_if (PW.pt (pw_or (pt_cmpR op_ne (pe_bm PySem.F.plainAttrs_list PySem.F.slot_list_count PySem.F.type_list_count (mt_countDK (K := K) hr.un65) (pv 1) (pa_cons pe_bl pa_nil)) pe_int (nomark _)) (pw_or1 (pt_cmpR (op_neDK (K := K) hr.units) (pv 2) (pv 3) (nomark _))))) (pss_cons (ps_ret (pe_tupF (pa_cons pe_str (pa_cons pe_str pa_nil)))) pss_nil) pss_nil) (pss_cons (ps_set (i := 4) sc__law_sort.nd rfl (.inl rfl) (pe_bm PySem.F.plainAttrs_list PySem.F.slot_list_index PySem.F.type_list_index (mt_indexDK (K := K) hr.un65) (pv 1) (pa_cons pe_bl pa_nil))) (pss_cons (ps_if (pt_cmpR (op_neDK (K := K) hr.units) (pv 2) (pe_lst (pa_cons (pe_cmpR op_lt (pv 4) pe_int (nomark _)) (pa_cons (pe_chain op_lt op_lt pe_int (pv 4) pe_int) (pa_cons (pe_cmpR op_eq (pv 4) pe_int (nomark _)) pa_nil)))) (nomark _)) (pss_cons (ps_ret (pe_tupF (pa_cons pe_str (pa_cons pe_str pa_nil)))) pss_nil) pss_nil) (pss_cons (ps_set (i := 5) sc__law_sort.nd rfl (.inl rfl) pe_str) (pss_cons (ps_set (i := 5) sc__law_sort.nd rfl (.inl rfl) (pe_op op_add_str (pv 5) pe_str)) (pss_cons (ps_set (i := 6) sc__law_sort.nd rfl (.inl rfl) (pe_ix (ix_listK (K := K)) (pe_split (pe_op op_add_str (pv 5) pe_str) pe_str) (pv 4) (fun _ _ => rfl))) (pss_cons (ps_if (pt_cmpR (op_inDK (K := K) hr.un65) (pv 4) (pe_lst (pa_cons pe_int (pa_cons pe_int (pa_cons pe_int (pa_cons pe_int (pa_cons pe_int (pa_cons pe_int pa_nil))))))) (by rfl)) (pss_cons (ps_ret (pe_tupF (pa_cons (pv 6) (pa_cons (pe_callB (cl_reprD (K := K) hgd hr.units rfl) (by rfl) T.n_repr (by decide +kernel) (pa_cons pe_never pa_nil)) pa_nil)))) pss_nil) pss_nil) (pss_cons (ps_if (pt_cmpR op_eq (pv 4) pe_int (nomark _)) (pss_cons (ps_ret (pe_tupF (pa_cons (pv 6) (pa_cons (pe_callB (cl_reprD (K := K) hgd hr.units rfl) (by rfl) T.n_repr (by decide +kernel) (pa_cons (pe_xfP List.mem_cons_self T.xc_NoText T.xn0_NoText hz (Hot1.flds hot) (pv 0)) pa_nil)) pa_nil)))) pss_nil) pss_nil) (pss_cons (ps_if (pt_cmpR op_eq (pv 4) pe_int (nomark _)) (pss_cons (ps_ret (pe_tupF (pa_cons (pv 6) (pa_cons (pe_callB (cl_reprD (K := K) hgd hr.units rfl) (by rfl) T.n_repr (by decide +kernel) (pa_cons pe_never pa_nil)) pa_nil)))) pss_nil) pss_nil) (pss_cons (ps_ret (pe_tupF (pa_cons (pv 6) (pa_cons (pe_ifExp (pt_cmpR op_eq (pv 4) pe_int (nomark _)) (pe_callB (cl_reprD (K := K) hgd hr.units rfl) (by rfl) T.n_repr (by decide +kernel) (pa_cons pe_never pa_nil)) pe_str) pa_nil)))) pss_nil))))))))))))))))))), ?_⟩
    refine nrm (σ' := [some v_l_e, none, none, none, none, none, none]) rfl ?_
    refine q_set (σ' := fun v => [some v_l_e, some v, none, none, none, none, none]) (EvL.ev (el_lst (ea_consD (ev_isX T.kx_NoText_NoPeal (ea_cons mo_xp (ev_x (K := K) rfl h_l_e) (ea_cons mo_clx ev_clx ea_nil))) (ea_consD (ev_isX T.kx_NoText_NoBells (ea_cons mo_xp (ev_x (K := K) rfl h_l_e) (ea_cons mo_clx ev_clx ea_nil))) (ea_consD (ev_isX T.kx_NoText_NoNotches (ea_cons mo_xp (ev_x (K := K) rfl h_l_e) (ea_cons mo_clx ev_clx ea_nil))) (ea_consD (ev_isX T.kx_NoText_NoText (ea_cons mo_xp (ev_x (K := K) rfl h_l_e) (ea_cons mo_clx ev_clx ea_nil))) (ea_nilD (K := K)))))))) ok (fun _ => rfl) (fun v_l_some G H s1 ok h_l_some => ?_)
    have h_l_e := mo_xp _ _ _ s1 h_l_e
    have sg := sg.trans s1
    obtain ⟨t1, e_t1, hm⟩ := bs hm
    refine q_set (σ' := fun v => [some v_l_e, some v, none, none, none, none, none]) (EvL.ev (el_catO (e := Dat.bool) e_t1 (ev_d (K := K) rfl h_l_some) (EvL.ev (el_lst (ea_consD (ev_isX T.kx_NoText_NoStanding (ea_cons mo_xp (ev_x (K := K) rfl h_l_e) (ea_cons mo_clx ev_clx ea_nil))) (ea_consD (ev_isX T.kx_NoText_NoRow (ea_cons mo_xp (ev_x (K := K) rfl h_l_e) (ea_cons mo_clx ev_clx ea_nil))) (ea_consD (ev_isX T.kx_NoText_NoDials (ea_cons mo_xp (ev_x (K := K) rfl h_l_e) (ea_cons mo_clx ev_clx ea_nil))) (ea_nilD (K := K))))))))) ok (fun _ => rfl) (fun v_l_some G H s1 ok h_l_some => ?_)
    have h_l_e := mo_xp _ _ _ s1 h_l_e
    have sg := sg.trans s1
    obtain ⟨t2, e_t2, hm⟩ := bs hm
    refine q_set (σ' := fun v => [some v_l_e, some v, none, none, none, none, none]) (EvL.ev (el_catO (e := Dat.bool) e_t2 (ev_d (K := K) rfl h_l_some) (EvL.ev (el_lst (ea_consD (ev_isX T.kx_NoText_NoRings (ea_cons mo_xp (ev_x (K := K) rfl h_l_e) (ea_cons mo_clx ev_clx ea_nil))) (ea_consD (ev_isX T.kx_NoText_NoCourse (ea_cons mo_xp (ev_x (K := K) rfl h_l_e) (ea_cons mo_clx ev_clx ea_nil))) (ea_consD (ev_isX T.kx_NoText_NoNumber (ea_cons mo_xp (ev_x (K := K) rfl h_l_e) (ea_cons mo_clx ev_clx ea_nil))) (ea_nilD (K := K))))))))) ok (fun _ => rfl) (fun v_l_some G H s1 ok h_l_some => ?_)
    have h_l_e := mo_xp _ _ _ s1 h_l_e
    have sg := sg.trans s1
    obtain ⟨t3, e_t3, hm⟩ := bs hm
    refine q_set (σ' := fun v => [some v_l_e, some v, none, none, none, none, none]) (EvL.ev (el_catO (e := Dat.bool) e_t3 (ev_d (K := K) rfl h_l_some) (EvL.ev (el_lst (ea_consD (ev_isX T.kx_NoText_NoModuli (ea_cons mo_xp (ev_x (K := K) rfl h_l_e) (ea_cons mo_clx ev_clx ea_nil))) (ea_consD (ev_isX T.kx_NoText_NoVectors (ea_cons mo_xp (ev_x (K := K) rfl h_l_e) (ea_cons mo_clx ev_clx ea_nil))) (ea_consD (ev_isX T.kx_NoText_NoVector (ea_cons mo_xp (ev_x (K := K) rfl h_l_e) (ea_cons mo_clx ev_clx ea_nil))) (ea_nilD (K := K))))))))) ok (fun _ => rfl) (fun v_l_some G H s1 ok h_l_some => ?_)
    have h_l_e := mo_xp _ _ _ s1 h_l_e
    have sg := sg.trans s1
    obtain ⟨t4, e_t4, hm⟩ := bs hm
    refine q_set (σ' := fun v => [some v_l_e, some v, none, none, none, none, none]) (EvL.ev (el_catO (e := Dat.bool) e_t4 (ev_d (K := K) rfl h_l_some) (EvL.ev (el_lst (ea_consD (ev_isX T.kx_NoText_NoWeights (ea_cons mo_xp (ev_x (K := K) rfl h_l_e) (ea_cons mo_clx ev_clx ea_nil))) (ea_consD (ev_isX T.kx_NoText_NoTruth (ea_cons mo_xp (ev_x (K := K) rfl h_l_e) (ea_cons mo_clx ev_clx ea_nil))) (ea_consD (ev_isX T.kx_NoText_NoHistories (ea_cons mo_xp (ev_x (K := K) rfl h_l_e) (ea_cons mo_clx ev_clx ea_nil))) (ea_nilD (K := K))))))))) ok (fun _ => rfl) (fun v_l_some G H s1 ok h_l_some => ?_)
    have h_l_e := mo_xp _ _ _ s1 h_l_e
    have sg := sg.trans s1
    obtain ⟨t5, e_t5, hm⟩ := bs hm
    refine q_set (σ' := fun v => [some v_l_e, some v, none, none, none, none, none]) (EvL.ev (el_catO (e := Dat.bool) e_t5 (ev_d (K := K) rfl h_l_some) (EvL.ev (el_lst (ea_consD (ev_isX T.kx_NoText_NoDeed (ea_cons mo_xp (ev_x (K := K) rfl h_l_e) (ea_cons mo_clx ev_clx ea_nil))) (ea_consD (ev_isX T.kx_NoText_NoLog (ea_cons mo_xp (ev_x (K := K) rfl h_l_e) (ea_cons mo_clx ev_clx ea_nil))) (ea_consD (ev_isX T.kx_NoText_NoSay (ea_cons mo_xp (ev_x (K := K) rfl h_l_e) (ea_cons mo_clx ev_clx ea_nil))) (ea_consD (ev_isX T.kx_NoText_NoName (ea_cons mo_xp (ev_x (K := K) rfl h_l_e) (ea_cons mo_clx ev_clx ea_nil))) (ea_nilD (K := K)))))))))) ok (fun _ => rfl) (fun v_l_some G H s1 ok h_l_some => ?_)
    have h_l_e := mo_xp _ _ _ s1 h_l_e
    have sg := sg.trans s1
    obtain ⟨t6, e_t6, hm⟩ := bs hm
    refine q_set (σ' := fun v => [some v_l_e, some v, none, none, none, none, none]) (EvL.ev (el_catO (e := Dat.bool) e_t6 (ev_d (K := K) rfl h_l_some) (EvL.ev (el_lst (ea_consD (ev_isX T.kx_NoText_NoPlace (ea_cons mo_xp (ev_x (K := K) rfl h_l_e) (ea_cons mo_clx ev_clx ea_nil))) (ea_consD (ev_isX T.kx_NoText_NoBack (ea_cons mo_xp (ev_x (K := K) rfl h_l_e) (ea_cons mo_clx ev_clx ea_nil))) (ea_consD (ev_isX T.kx_NoText_TooMany (ea_cons mo_xp (ev_x (K := K) rfl h_l_e) (ea_cons mo_clx ev_clx ea_nil))) (ea_nilD (K := K))))))))) ok (fun _ => rfl) (fun v_l_some G H s1 ok h_l_some => ?_)
    have h_l_e := mo_xp _ _ _ s1 h_l_e
    have sg := sg.trans s1
    refine q_set (σ' := fun v => [some v_l_e, some v_l_some, some v, none, none, none, none]) (EvL.ev (el_lst (ea_consD (ev_isX T.kx_NoText_BellError (ea_cons mo_xp (ev_x (K := K) rfl h_l_e) (ea_cons mo_clx ev_clx ea_nil))) (ea_consD (ev_isX T.kx_NoText_LostError (ea_cons mo_xp (ev_x (K := K) rfl h_l_e) (ea_cons mo_clx ev_clx ea_nil))) (ea_consD (ev_isX T.kx_NoText_GreatError (ea_cons mo_xp (ev_x (K := K) rfl h_l_e) (ea_cons mo_clx ev_clx ea_nil))) (ea_nilD (K := K))))))) ok (fun _ => rfl) (fun v_l_families G H s1 ok h_l_families => ?_)
    have h_l_e := mo_xp _ _ _ s1 h_l_e
    have h_l_some := dp_up s1 _ h_l_some
    have sg := sg.trans s1
    refine q_set (σ' := fun v => [some v_l_e, some v_l_some, some v_l_families, some v, none, none, none]) (EvL.ev (el_lst (ea_consD (ev_isXT T.kx_NoText_ValueError (ea_cons mo_xp (ev_x (K := K) rfl h_l_e) (ea_cons mo_cls ev_cls ea_nil))) (ea_consD (ev_isXT T.kx_NoText_LookupError (ea_cons mo_xp (ev_x (K := K) rfl h_l_e) (ea_cons mo_cls ev_cls ea_nil))) (ea_consD (ev_isXT T.kx_NoText_ArithmeticError (ea_cons mo_xp (ev_x (K := K) rfl h_l_e) (ea_cons mo_cls ev_cls ea_nil))) (ea_nilD (K := K))))))) ok (fun _ => rfl) (fun v_l_own G H s1 ok h_l_own => ?_)
    have h_l_e := mo_xp _ _ _ s1 h_l_e
    have h_l_some := dp_up s1 _ h_l_some
    have h_l_families := dp_up s1 _ h_l_families
    have sg := sg.trans s1
    refine q_if (et_or (et_test (ev_neI (ev_countD (e := Dat.bool) eqe_bool (by decide) (ev_d (K := K) rfl h_l_some) (ea_d (ev_bl (K := K)) ea_nil)) (ev_int (K := K)))) fun _ => (et_test (ev_neE (e := (eL Dat.bool)) (x := ([true, false, false] : (List Bool))) (y := ([true, false, false] : (List Bool))) (eqe_L eqe_bool) (by decide) (ev_d (K := K) rfl h_l_families) (ev_d (K := K) rfl h_l_own)))) ok (fun hb G H s1 ok => ?_) (fun hb G H s1 ok => ?_)
    · have hm := cond_t hb hm
      have h_l_e := mo_xp _ _ _ s1 h_l_e
      have h_l_some := dp_up s1 _ h_l_some
      have h_l_families := dp_up s1 _ h_l_families
      have h_l_own := dp_up s1 _ h_l_own
      have sg := sg.trans s1
      refine q_ret (ev_tup (ea_consD (ev_str (K := K) (by decide +kernel)) (ea_consD (ev_str (K := K) (by decide +kernel)) (ea_nilD (K := K))))) ok (fun v G H s1 ok hv => ?_)
      have sg := sg.trans s1
      cases hm
      exact q v G H sg (ok.less hB) hv
    · have hm := cond_f hb hm
      have h_l_e := mo_xp _ _ _ s1 h_l_e
      have h_l_some := dp_up s1 _ h_l_some
      have h_l_families := dp_up s1 _ h_l_families
      have h_l_own := dp_up s1 _ h_l_own
      have sg := sg.trans s1
      refine q_nilU ?_
      obtain ⟨t7, e_t7, hm⟩ := bs hm
      refine q_set (σ' := fun v => [some v_l_e, some v_l_some, some v_l_families, some v_l_own, some v, none, none]) (ev_indexD (e := Dat.bool) e_t7 eqe_bool (by decide) (ev_d (K := K) rfl h_l_some) (ea_d (ev_bl (K := K)) ea_nil)) ok (fun _ => rfl) (fun v_l_at G H s1 ok h_l_at => ?_)
      have h_l_e := mo_xp _ _ _ s1 h_l_e
      have h_l_some := dp_up s1 _ h_l_some
      have h_l_families := dp_up s1 _ h_l_families
      have h_l_own := dp_up s1 _ h_l_own
      have sg := sg.trans s1
      cases h_l_at
      refine q_if (et_test (ev_neE (e := (eL Dat.bool)) (x := ([true, false, false] : (List Bool))) (y := ([(decide ((t7 : Int) < (19 : Int))), ((decide ((18 : Int) < (t7 : Int))) && (decide ((t7 : Int) < (22 : Int)))), (decide ((t7 : Int) = (22 : Int)))] : (List Bool))) (eqe_L eqe_bool) (by decide) (ev_d (K := K) rfl h_l_families) (EvL.ev (el_lst (ea_consD (ev_lt (ev_d (K := K) rfl (.int _)) (ev_int (K := K))) (ea_consD (ev_chainI (ev_int (K := K)) (ev_d (K := K) rfl (.int _)) (ev_int (K := K))) (ea_consD (ev_eqI (ev_d (K := K) rfl (.int _)) (ev_int (K := K))) (ea_nilD (K := K))))))))) ok (fun hb G H s1 ok => ?_) (fun hb G H s1 ok => ?_)
      · have hm := cond_t hb hm
        have h_l_e := mo_xp _ _ _ s1 h_l_e
        have h_l_some := dp_up s1 _ h_l_some
        have h_l_families := dp_up s1 _ h_l_families
        have h_l_own := dp_up s1 _ h_l_own
        have sg := sg.trans s1
        refine q_ret (ev_tup (ea_consD (ev_str (K := K) (by decide +kernel)) (ea_consD (ev_str (K := K) (by decide +kernel)) (ea_nilD (K := K))))) ok (fun v G H s1 ok hv => ?_)
        have sg := sg.trans s1
        cases hm
        exact q v G H sg (ok.less hB) hv
      · have hm := cond_f hb hm
        have h_l_e := mo_xp _ _ _ s1 h_l_e
        have h_l_some := dp_up s1 _ h_l_some
        have h_l_families := dp_up s1 _ h_l_families
        have h_l_own := dp_up s1 _ h_l_own
        have sg := sg.trans s1
        refine q_nilU ?_
        refine q_set (σ' := fun v => [some v_l_e, some v_l_some, some v_l_families, some v_l_own, some (.int (t7 : Int)), some v, none]) (ev_str (K := K) (by decide +kernel)) ok (fun _ => rfl) (fun v_l_words G H s1 ok h_l_words => ?_)
        have h_l_e := mo_xp _ _ _ s1 h_l_e
        have h_l_some := dp_up s1 _ h_l_some
        have h_l_families := dp_up s1 _ h_l_families
        have h_l_own := dp_up s1 _ h_l_own
        have sg := sg.trans s1
        obtain ⟨t8, e_t8, hm⟩ := bs hm
        refine q_set (σ' := fun v => [some v_l_e, some v_l_some, some v_l_families, some v_l_own, some (.int (t7 : Int)), some v, none]) (ev_addS e_t8 (ev_d (K := K) rfl h_l_words) (ev_str (K := K) (by decide +kernel))) ok (fun _ => rfl) (fun v_l_words G H s1 ok h_l_words => ?_)
        have h_l_e := mo_xp _ _ _ s1 h_l_e
        have h_l_some := dp_up s1 _ h_l_some
        have h_l_families := dp_up s1 _ h_l_families
        have h_l_own := dp_up s1 _ h_l_own
        have sg := sg.trans s1
        obtain ⟨t9, e_t9, hm⟩ := bs hm
        obtain ⟨t10, e_t10, hm⟩ := bs hm
        obtain ⟨t11, e_t11, hm⟩ := bs hm
        refine q_set (σ' := fun v => [some v_l_e, some v_l_some, some v_l_families, some v_l_own, some (.int (t7 : Int)), some v_l_words, some v]) (ev_ixLM (e := Dat.str) e_t11 (ev_split e_t10 (ev_addS e_t9 (ev_d (K := K) rfl h_l_words) (ev_str (K := K) (by decide +kernel))) (ev_str (K := K) (by decide +kernel))) (ev_d (K := K) rfl (.int _))) ok (fun _ => rfl) (fun v_l_word G H s1 ok h_l_word => ?_)
        have h_l_e := mo_xp _ _ _ s1 h_l_e
        have h_l_some := dp_up s1 _ h_l_some
        have h_l_families := dp_up s1 _ h_l_families
        have h_l_own := dp_up s1 _ h_l_own
        have h_l_words := dp_up s1 _ h_l_words
        have sg := sg.trans s1
        refine q_if (et_test (ev_inE (e := Dat.int) (x := (t7 : Int)) (xs := ([(1 : Int), (2 : Int), (7 : Int), (11 : Int), (15 : Int), (17 : Int)] : (List Int))) eqe_int (by decide) (ev_d (K := K) rfl (.int _)) (EvL.ev (el_lst (ea_consD (ev_int (K := K)) (ea_consD (ev_int (K := K)) (ea_consD (ev_int (K := K)) (ea_consD (ev_int (K := K)) (ea_consD (ev_int (K := K)) (ea_consD (ev_int (K := K)) (ea_nilD (K := K)))))))))))) ok (fun hb G H s1 ok => ?_) (fun hb G H s1 ok => ?_)
        · have hm := cond_t hb hm
          have h_l_e := mo_xp _ _ _ s1 h_l_e
          have h_l_some := dp_up s1 _ h_l_some
          have h_l_families := dp_up s1 _ h_l_families
          have h_l_own := dp_up s1 _ h_l_own
          have h_l_words := dp_up s1 _ h_l_words
          have h_l_word := dp_up s1 _ h_l_word
          have sg := sg.trans s1
          obtain ⟨t12, e_t12, hm⟩ := bs hm
          obtain ⟨t13, e_t13, hm⟩ := bs hm
          refine q_ret (ev_tup (ea_consD (ev_d (K := K) rfl h_l_word) (ea_consD (ev_reprD (d := id t12) e_t13 (ea_d (ev_never e_t12) ea_nil)) (ea_nilD (K := K))))) ok (fun v G H s1 ok hv => ?_)
          have sg := sg.trans s1
          cases hm
          exact q v G H sg (ok.less hB) hv
        · have hm := cond_f hb hm
          have h_l_e := mo_xp _ _ _ s1 h_l_e
          have h_l_some := dp_up s1 _ h_l_some
          have h_l_families := dp_up s1 _ h_l_families
          have h_l_own := dp_up s1 _ h_l_own
          have h_l_words := dp_up s1 _ h_l_words
          have h_l_word := dp_up s1 _ h_l_word
          have sg := sg.trans s1
          refine q_nilU ?_
          refine q_if (et_test (ev_eqI (ev_d (K := K) rfl (.int _)) (ev_int (K := K)))) ok (fun hb G H s1 ok => ?_) (fun hb G H s1 ok => ?_)
          · have hm := cond_t hb hm
            have h_l_e := mo_xp _ _ _ s1 h_l_e
            have h_l_some := dp_up s1 _ h_l_some
            have h_l_families := dp_up s1 _ h_l_families
            have h_l_own := dp_up s1 _ h_l_own
            have h_l_words := dp_up s1 _ h_l_words
            have h_l_word := dp_up s1 _ h_l_word
            have sg := sg.trans s1
            obtain ⟨t14, e_t14, hm⟩ := bs hm
            refine q_ret (ev_tup (ea_consD (ev_d (K := K) rfl h_l_word) (ea_consD (ev_reprD (d := id a) e_t14 (ea_d (ev_xf (ev_x (K := K) rfl h_l_e)) ea_nil)) (ea_nilD (K := K))))) ok (fun v G H s1 ok hv => ?_)
            have sg := sg.trans s1
            cases hm
            exact q v G H sg (ok.less hB) hv
          · have hm := cond_f hb hm
            have h_l_e := mo_xp _ _ _ s1 h_l_e
            have h_l_some := dp_up s1 _ h_l_some
            have h_l_families := dp_up s1 _ h_l_families
            have h_l_own := dp_up s1 _ h_l_own
            have h_l_words := dp_up s1 _ h_l_words
            have h_l_word := dp_up s1 _ h_l_word
            have sg := sg.trans s1
            refine q_nilU ?_
            refine q_if (et_test (ev_eqI (ev_d (K := K) rfl (.int _)) (ev_int (K := K)))) ok (fun hb G H s1 ok => ?_) (fun hb G H s1 ok => ?_)
            · have hm := cond_t hb hm
              have h_l_e := mo_xp _ _ _ s1 h_l_e
              have h_l_some := dp_up s1 _ h_l_some
              have h_l_families := dp_up s1 _ h_l_families
              have h_l_own := dp_up s1 _ h_l_own
              have h_l_words := dp_up s1 _ h_l_words
              have h_l_word := dp_up s1 _ h_l_word
              have sg := sg.trans s1
              obtain ⟨t15, e_t15, hm⟩ := bs hm
              obtain ⟨t16, e_t16, hm⟩ := bs hm
              refine q_ret (ev_tup (ea_consD (ev_d (K := K) rfl h_l_word) (ea_consD (ev_reprD (d := id t15) e_t16 (ea_d (ev_never e_t15) ea_nil)) (ea_nilD (K := K))))) ok (fun v G H s1 ok hv => ?_)
              have sg := sg.trans s1
              cases hm
              exact q v G H sg (ok.less hB) hv
            · have hm := cond_f hb hm
              have h_l_e := mo_xp _ _ _ s1 h_l_e
              have h_l_some := dp_up s1 _ h_l_some
              have h_l_families := dp_up s1 _ h_l_families
              have h_l_own := dp_up s1 _ h_l_own
              have h_l_words := dp_up s1 _ h_l_words
              have h_l_word := dp_up s1 _ h_l_word
              have sg := sg.trans s1
              refine q_nilU ?_
              obtain ⟨t19, e_t19, hm⟩ := bs hm
              refine q_ret (ev_tup (ea_consD (ev_d (K := K) rfl h_l_word) (ea_consD (ev_if (P := DD K (Dat.str t19)) (et_test (ev_eqI (ev_d (K := K) rfl (.int _)) (ev_int (K := K)))) (fun eb => by have e1 := cond_t eb e_t19; (obtain ⟨t17, e_t17, e1⟩ := bs e1); (obtain ⟨t18, e_t18, e1⟩ := bs e1); cases e1; exact (ev_reprD (d := id t17) e_t18 (ea_d (ev_never e_t17) ea_nil))) (fun eb => by have e1 := cond_f eb e_t19; cases e1; exact (ev_str (K := K) (by decide +kernel)))) (ea_nilD (K := K))))) ok (fun v G H s1 ok hv => ?_)
              have sg := sg.trans s1
              cases hm
              exact q v G H sg (ok.less hB) hv
/-! ### _law_caught -/
theorem sc__law_caught : FnScope ["_law_act", "_law_e"] ["_law_act"] (defScope s__law_caught) := ⟨rfl, rfl, rfl, by decide +kernel, rfl, by decide +kernel, by decide +kernel⟩
def m__law_caught (a : Unit ⊕ Ex) : Option (Str × Str) :=
  orX a (fun y1 => some ((Str.ofString "told"), (Str.ofString ""))) (fun x => exO "NoText" "row" x (fun y2 => (m__law_sort y2).bind fun t3 => some t3) (none))
theorem ok__law_caught [Tb] {P : Program} {w : World} {K : PySem.W.Frag} {mg : Str → Option Value} {base : Heap} (T : Txt K mg) (O__law_sort : FnE P w K mg base CX0 1 T.a__law_sort T.d__law_sort ["_law_e"] (sp__law_sort K)) : FnLam P w K mg base 2 T.a__law_caught T.d__law_caught "_law_caught" "_law_act" (spL K m__law_caught fun r => DD K ((eP2 Dat.str Dat.str) r)) := by
  refine fnLam T.F__law_caught sc__law_caught rfl (.inl rfl) (fun cdv A out s0 H Q tl f c' qn hr hgd act hc h => ?_)
  obtain ⟨G, M0, a, r, ok, hl, hm, q⟩ := h
  obtain ⟨G1, sg1, ok, hc⟩ := adoptC hc ok
  have hl := hl.up sg1
  unfold m__law_caught at hm
  have sg := sg1
  have hB := Same.refl M0
  refine ⟨_, (pss_cons (try_as3 (i := 1) rfl rfl sc__law_caught.nd rfl rfl ⟨by rfl, by decide, .inl T.mc_BellError⟩ ⟨by rfl, by decide, .inl T.mc_LostError⟩ ⟨by rfl, by decide, .inl T.mc_GreatError⟩ takes0N (fun W pn xe tk po => (pss_cons (ps_expr (act _ _ _ _ _ (passAllM (N := ["_law_act", "_law_e"]) rfl tk))) pss_nil)) (fun a oe cls d pn hz hf => (pss_if (fun (ec : cls = .ref (clsAt K "NoText")) => (pss_cons (ps_ret (pe_callSu O__law_sort hgd (hr.mono (by decide)) hz hf (by rfl) T.g__law_sort T.F__law_sort.kp T.b__law_sort (pa_cons (pv 1) pa_nil))) pss_nil))))) (pss_cons (ps_ret (pe_tupF (pa_cons pe_str (pa_cons pe_str pa_nil)))) pss_nil)), ?_⟩
  refine nrm (σ' := [some (.ref f), none]) rfl ?_
  refine q_try ?_
  refine q_exprX (evr_act hl rfl hc) ok (fun y1 ey G H s1 ok => ?_) (fun x ex d G H s1 ok hd => ?_)
  · subst ey
    have hm := orX_l hm
    have sg := sg.trans s1
    refine q_nilU ?_
    refine q_ret (ev_tup (ea_consD (ev_str (K := K) (by decide +kernel)) (ea_consD (ev_str (K := K) (by decide +kernel)) (ea_nilD (K := K))))) ok (fun v G H s1 ok hv => ?_)
    have sg := sg.trans s1
    cases hm
    exact q v G H sg (ok.less hB) hv
  · subst ex
    have hm := orX_r hm
    have sg := sg.trans s1
    rcases exO_of hm with ⟨y2, rfl, hx0⟩ | hx0
    · refine q_was3 (exm3 T.em_NoText_BellError T.em_NoText_LostError T.em_NoText_GreatError rfl) (fun a σ hl ha => ?_)
      have hm := hx0
      obtain ⟨u0, σ0, rfl, hl0⟩ := len_succ hl
      obtain ⟨u1, σ1, rfl, hl1⟩ := len_succ hl0
      cases len_zero hl1
      refine ⟨rfl, ?_⟩
      have h_e : XP K a d "NoText" (some ("row", y2)) (.ref a) G := ⟨rfl, hd⟩
      refine nrm (σ' := [u0, some (.ref a)]) rfl ?_
      obtain ⟨t3, e_t3, hm⟩ := bs hm
      refine q_ret (ev_callS (K := K) (x := y2) e_t3 (ea_cons mo_xp (ev_x (K := K) rfl h_e) ea_nil)) ok (fun v G H s1 ok hv => ?_)
      have sg := sg.trans s1
      cases hm
      exact q v G H sg (ok.less hB) hv
    have hm := hx0
    cases hm
/-! ### _law_opened -/
theorem sc__law_opened : FnScope ["_law_script", "_law_k", "_law_cell", "_law_great"] ["_law_script", "_law_k"] (defScope s__law_opened) := ⟨rfl, rfl, rfl, by decide +kernel, rfl, by decide +kernel, by decide +kernel⟩
def a__law_opened (K : PySem.W.Frag) (a : (List Int) × Int) : List V → Hp → Prop := conP (SCP K a.1) (conP (DD K (Dat.int a.2)) (nilP))
def m__law_opened (a : (List Int) × Int) : Option Sto :=
  (mulO (90901 : Int) a.2).bind fun t1 => (cond (decide (a.2 < (a.1.length : Int))) ((atI a.1 a.2).bind fun t4 => some t4) (some (t1 + (433 : Int)))).bind fun j2 => (cond (decide (j2 < (0 : Int))) (some true) ((powO (10 : Int) (17 : Int)).bind fun t6 => some (decide (t6 < j2)))).bind fun t7 => (mulO (if j2 < 0 then -j2 else j2) (if t7 then 1 else 0 : Int)).bind fun t8 => (mulO (2 : Int) (if j2 < 0 then -j2 else j2)).bind fun t9 => (mulO (7919 : Int) a.2).bind fun t10 => (modO (((t9 + (if t7 then 1 else 0 : Int)) + t10) + (13 : Int)) (998244353 : Int)).bind fun t11 => some (t8, (t11 + (1 : Int)), (0 : Int))
abbrev sp__law_opened [Tb] (K : PySem.W.Frag) : Sp := spO (a__law_opened K) m__law_opened
theorem ok__law_opened [Tb] {P : Program} {w : World} {K : PySem.W.Frag} {mg : Str → Option Value} {base : Heap} (T : Txt K mg) : FnOk P w K mg base CX0 (1) T.a__law_opened T.d__law_opened ["_law_script", "_law_k"] (sp__law_opened K) := by
  refine T.F__law_opened.ok sc__law_opened (fun vs H Q E h => ?_) (fun cdv A outer s0 H vs Q E hr h => ?_)
  · obtain ⟨G, M0, a, r, ok, ⟨v_l_script, _, rfl, h_l_script, v_l_k, _, rfl, h_l_k, rfl⟩, hm, q⟩ := h
    rfl
  · obtain ⟨G, M0, a, r, ok, ⟨v_l_script, _, rfl, h_l_script, v_l_k, _, rfl, h_l_k, rfl⟩, hm, q⟩ := h
    unfold m__law_opened at hm
    have sg := Same.refl G
    have hB := Same.refl M0
    refine ⟨_, (pss_cons (ps_set (i := 2) sc__law_opened.nd rfl (.inl rfl) (pe_op op_add (pe_op op_mulO pe_int (pv 1)) pe_int)) (pss_cons (ps_if (pt_cmpR op_lt (pv 1) (pe_callB (cl_lenK (K := K)) (by rfl) T.n_len (by decide +kernel) (pa_cons (pv 0) pa_nil)) (nomark _)) (pss_cons (ps_set (i := 2) sc__law_opened.nd rfl (.inl rfl) (pe_ix (ix_listK (K := K)) (pv 0) (pv 1) (fun _ _ => rfl))) pss_nil) pss_nil) (pss_cons (ps_set (i := 3) sc__law_opened.nd rfl (.inl rfl) (pe_callTy cl_int (by rfl) T.n_int (by decide +kernel) (pa_cons (pe_or (pe_cmpR op_lt (pv 2) pe_int (nomark _)) (pe_one (pe_cmpR op_gt (pv 2) (pe_op op_pow pe_int pe_int) (nomark _)))) pa_nil))) (pss_cons (ps_ret (pe_lst (pa_cons (pe_op op_mulO (pe_callB cl_abs (by rfl) T.n_abs (by decide +kernel) (pa_cons (pv 2) pa_nil)) (pv 3)) (pa_cons (pe_op op_add (pe_op op_modN (pe_op op_add (pe_op op_add (pe_op op_add (pe_op op_mulO pe_int (pe_callB cl_abs (by rfl) T.n_abs (by decide +kernel) (pa_cons (pv 2) pa_nil))) (pv 3)) (pe_op op_mulO pe_int (pv 1))) pe_int) pe_int) pe_int) (pa_cons pe_int pa_nil))))) pss_nil)))), ?_⟩
    cases h_l_k
    refine nrm (σ' := [some v_l_script, some (.int a.2), none, none]) rfl ?_
    obtain ⟨t1, e_t1, hm⟩ := bs hm
    refine q_set (σ' := fun v => [some v_l_script, some (.int a.2), some v, none]) (ev_add (ev_mulO e_t1 (ev_int (K := K)) (ev_d (K := K) rfl (.int _))) (ev_int (K := K))) ok (fun _ => rfl) (fun v_l_cell G H s1 ok h_l_cell => ?_)
    have h_l_script := mo_scp _ _ _ s1 h_l_script
    have sg := sg.trans s1
    cases h_l_cell
    obtain ⟨j2, e_j2, hm⟩ := bs hm
    refine q_ifJ (fun σ1 G1 M1 => σ1 = [some v_l_script, some (.int a.2), some (.int j2), none] ∧ (Same M0 M1)) (et_test (ev_lt (ev_d (K := K) rfl (.int _)) (ev_lenScr (ea_cons mo_scp (ev_var rfl mo_scp h_l_script) ea_nil)))) ok (fun hb G H D1 s1 ok _ _ _ kD => ?_) (fun hb G H D1 s1 ok _ _ _ kD => ?_) (fun σ1 G M H s1 ok hj => ?_)
    · have hm := cond_t hb e_j2
      have h_l_script := mo_scp _ _ _ s1 h_l_script
      have sg := sg.trans s1
      have sl3 := Same.refl G
      obtain ⟨t4, e_t4, hm⟩ := bs hm
      refine q_set (σ' := fun v => [some v_l_script, some (.int a.2), some v, none]) (ev_ixScr e_t4 (ev_var rfl mo_scp h_l_script) (ev_d (K := K) rfl (.int _))) ok (fun _ => rfl) (fun v_l_cell G H s1 ok h_l_cell => ?_)
      have h_l_script := mo_scp _ _ _ s1 h_l_script
      have sg := sg.trans s1
      have sl3 := sl3.trans s1
      cases h_l_cell
      refine q_nil ?_
      cases hm
      exact kD _ _ _ _ sl3 ok ⟨rfl, hB⟩
    · have hm := cond_f hb e_j2
      have h_l_script := mo_scp _ _ _ s1 h_l_script
      have sg := sg.trans s1
      have sl5 := Same.refl G
      refine q_nil ?_
      cases hm
      exact kD _ _ _ _ sl5 ok ⟨rfl, hB⟩
    · obtain ⟨rfl, hB⟩ := hj
      have h_l_script := mo_scp _ _ _ s1 h_l_script
      have sg := sg.trans s1
      obtain ⟨t7, e_t7, hm⟩ := bs hm
      refine q_set (σ' := fun v => [some v_l_script, some (.int a.2), some (.int j2), some v]) (ev_intB (ea_d (ev_orG (c := t7) (ev_lt (ev_d (K := K) rfl (.int _)) (ev_int (K := K))) (fun eb => by have e1 := cond_f eb e_t7; (obtain ⟨t6, e_t6, e1⟩ := bs e1); (have e1 := Option.some.inj e1); subst e1; exact (ev_gt (ev_d (K := K) rfl (.int _)) (ev_powO e_t6 (ev_int (K := K)) (ev_int (K := K))))) (fun eb => by have e1 := cond_t eb e_t7; cases e1; exact ⟨rfl, rfl⟩)) ea_nil)) ok (fun _ => rfl) (fun v_l_great G H s1 ok h_l_great => ?_)
      have h_l_script := mo_scp _ _ _ s1 h_l_script
      have sg := sg.trans s1
      cases h_l_great
      obtain ⟨t8, e_t8, hm⟩ := bs hm
      obtain ⟨t9, e_t9, hm⟩ := bs hm
      obtain ⟨t10, e_t10, hm⟩ := bs hm
      obtain ⟨t11, e_t11, hm⟩ := bs hm
      cases hm
      refine q_retL (el_lst (ea_consD (ev_mulO e_t8 (ev_abs (ea_d (ev_d (K := K) rfl (.int _)) ea_nil)) (ev_d (K := K) rfl (.int _))) (ea_consD (ev_add (ev_modO e_t11 (ev_add (ev_add (ev_add (ev_mulO e_t9 (ev_int (K := K)) (ev_abs (ea_d (ev_d (K := K) rfl (.int _)) ea_nil))) (ev_d (K := K) rfl (.int _))) (ev_mulO e_t10 (ev_int (K := K)) (ev_d (K := K) rfl (.int _)))) (ev_int (K := K))) (ev_int (K := K))) (ev_int (K := K))) (ea_consD (ev_int (K := K)) (ea_nilD (K := K)))))) ok (fun p vs G H s1 ok hp hd => ?_)
      have sg := sg.trans s1
      cases vs_sto hd
      exact q _ _ _ sg (ok.less (same_upd2 hB)) (hB.free hp)
/-! ### _law_pull -/
theorem sc__law_pull : FnScope ["_law_store", "_law_many", "_law_found", "_law_state"] ["_law_store", "_law_many"] (defScope s__law_pull) := ⟨rfl, rfl, rfl, by decide +kernel, rfl, by decide +kernel, by decide +kernel⟩
def a__law_pull (K : PySem.W.Frag) (a : Int) : List V → Hp → Prop := conP (DD K (Dat.int a)) (nilP)
def m__law_pull (a : Int) (z : Sto) : Option (Int × Sto) := pullM a z
abbrev sp__law_pull [Tb] (K : PySem.W.Frag) : Sp := spD (a__law_pull K) m__law_pull fun r => DD K (Dat.int r)
theorem ok__law_pull [Tb] {P : Program} {w : World} {K : PySem.W.Frag} {mg : Str → Option Value} {base : Heap} (T : Txt K mg) : FnOk P w K mg base CX0 1 T.a__law_pull T.d__law_pull ["_law_store", "_law_many"] (sp__law_pull K) := by
  refine T.F__law_pull.ok sc__law_pull (fun vs H Q E h => ?_) (fun cdv A outer s0 H vs Q E hr h => ?_)
  · obtain ⟨G, M0, s, z, z1, a, r, ws, rfl, ok, hs, ⟨v_m, _, rfl, h_m, rfl⟩, hm, q⟩ := h
    rfl
  · obtain ⟨G, M0, s, z, z1, a, r, ws, rfl, ok, hs, ⟨v_m, _, rfl, h_m, rfl⟩, hm, q⟩ := h
    cases h_m
    unfold m__law_pull pullM at hm
    refine ⟨_, (pss_cons (ps_asg (pe_op op_add (pe_ix (ix_listK (K := K)) (pv 0) pe_int (fun _ _ => rfl)) pe_int) (pg_sub (pv 0) pe_int set_list))
      (pss_cons (ps_if (pt_cmpR op_gt (pe_ix (ix_listK (K := K)) (pv 0) pe_int (fun _ _ => rfl)) pe_int (nomark _))
        (pss_cons (ps_asg (pe_callB cl_divmod (by rfl) T.n_divmod (by decide +kernel) (pa_cons (pe_ix (ix_listK (K := K)) (pv 0) pe_int (fun _ _ => rfl)) (pa_cons (pv 1) pa_nil))) (pg_tup rfl (pgs_cons (pg_sub (pv 0) pe_int set_list) (pgs_cons (pg_name (i := 2) sc__law_pull.nd rfl (.inl rfl)) pgs_nil))))
          (pss_cons (ps_ret (pv 2)) pss_nil)) pss_nil)
      (pss_cons (ps_set (i := 3) sc__law_pull.nd rfl (.inl rfl) (pe_ix (ix_listK (K := K)) (pv 0) pe_int (fun _ _ => rfl)))
      (pss_cons (ps_asg (pe_op op_modN (pe_op op_add (pe_op op_add (pe_op op_mulO (pv 3) (pe_op op_add (pe_op op_modN (pv 3) pe_int) pe_int)) (pe_op op_mulO pe_int (pe_ix (ix_listK (K := K)) (pv 0) pe_int (fun _ _ => rfl)))) pe_int) pe_int) (pg_sub (pv 0) pe_int set_list))
      (pss_cons (ps_ret (pe_op op_modN (pe_op op_fdivO (pe_ix (ix_listK (K := K)) (pv 0) pe_int (fun _ _ => rfl)) pe_int) (pv 1))) pss_nil))))), ?_⟩
    refine nrm (σ' := [some (.ref s), some (.int a), none, none]) rfl ?_
    have d3 : ∀ (x y z : Int) (G : Hp), DqAll K G [.int x, .int y, .int z] [.int x, .int y, .int z] := fun x y z G => .cons (.int x) (.cons (.int y) (.cons (.int z) .nil))
    refine q_setItem (K := K) (d := .int (z.2.2 + 1)) (ev_add (ev_ixO (ds := [.int z.1, .int z.2.1, .int z.2.2]) (d := .int z.2.2) (ev_own rfl) (ev_int (K := K)) hs (d3 _ _ _ _) rfl) (ev_int (K := K))) (ev_own rfl) (ev_int (K := K)) hs rfl ok (fun v G H s1 ok hv => ?_)
    cases hv
    have sg := s1
    have hs1 : (upd M0 s (.lst [.int z.1, .int z.2.1, .int (z.2.2 + 1)])) s = some (.lst [.int z.1, .int z.2.1, .int (z.2.2 + 1)]) := upd_same
    refine q_if (et_test (ev_gt (ev_ixO (ds := [.int z.1, .int z.2.1, .int (z.2.2 + 1)]) (d := .int z.1) (ev_own rfl) (ev_int (K := K)) hs1 (d3 _ _ _ _) rfl) (ev_int (K := K)))) ok (fun hb G H s1 ok => ?_) (fun hb G H s1 ok => ?_)
    · have hm := cond_t hb hm
      have sg := sg.trans s1
      obtain ⟨t1, e_t1, hm⟩ := bs hm
      refine q_asgG (ev_dmO e_t1 (ea_d (ev_ixO (ds := [.int z.1, .int z.2.1, .int (z.2.2 + 1)]) (d := .int z.1) (ev_own rfl) (ev_int (K := K)) hs1 (d3 _ _ _ _) rfl) (ea_d (ev_d (K := K) rfl (.int _)) ea_nil))) ok (fun v G H s1 ok hv => ?_)
      have sg := sg.trans s1
      refine gr2 hv ok.g (fun w1 w2 hw1 hw2 => ?_)
      cases hw1
      refine gs_list (K := K) (ev_own rfl) (ev_int (K := K)) hs1 rfl ok (fun G H s1 ok => ?_)
      have sg := sg.trans s1
      cases hw2
      refine gn ?_
      refine nrm (σ' := [some (.ref s), some (.int a), some (.int t1.2), none]) rfl ?_
      refine q_ret (ev_d (K := K) rfl (.int _)) ok (fun v G H s1 ok hv => ?_)
      cases hm
      rw [upd_upd] at ok
      exact q v G H (sg.trans s1) ok hv
    · have hm := cond_f hb hm
      have sg := sg.trans s1
      refine q_nilU ?_
      refine q_set (σ' := fun v => [some (.ref s), some (.int a), none, some v]) (ev_ixO (K := K) (ds := [.int z.1, .int z.2.1, .int (z.2.2 + 1)]) (d := .int z.2.1) (ev_own rfl) (ev_int (K := K)) hs1 (d3 _ _ _ _) rfl) ok (fun _ => rfl) (fun v G H s1 ok hv => ?_)
      cases hv
      have sg := sg.trans s1
      obtain ⟨t1, e_t1, hm⟩ := bs hm
      obtain ⟨t2, e_t2, hm⟩ := bs hm
      obtain ⟨t3, e_t3, hm⟩ := bs hm
      obtain ⟨t4, e_t4, hm⟩ := bs hm
      obtain ⟨t5, e_t5, hm⟩ := bs hm
      obtain ⟨t6, e_t6, hm⟩ := bs hm
      refine q_setItem (K := K) (ev_modO e_t4 (ev_add (ev_add (ev_mulO e_t2 (ev_d (K := K) rfl (.int _)) (ev_add (ev_modO e_t1 (ev_d (K := K) rfl (.int _)) (ev_int (K := K))) (ev_int (K := K)))) (ev_mulO e_t3 (ev_int (K := K)) (ev_ixO (ds := [.int z.1, .int z.2.1, .int (z.2.2 + 1)]) (d := .int (z.2.2 + 1)) (ev_own rfl) (ev_int (K := K)) hs1 (d3 _ _ _ _) rfl))) (ev_int (K := K))) (ev_int (K := K))) (ev_own rfl) (ev_int (K := K)) hs1 rfl ok (fun v G H s1 ok hv => ?_)
      cases hv
      have sg := sg.trans s1
      rw [upd_upd] at ok
      have hs2 : (upd M0 s (.lst [.int z.1, .int t4, .int (z.2.2 + 1)])) s = some (.lst [.int z.1, .int t4, .int (z.2.2 + 1)]) := upd_same
      refine q_ret (ev_modO e_t6 (ev_fdivO e_t5 (ev_ixO (K := K) (ds := [.int z.1, .int t4, .int (z.2.2 + 1)]) (d := .int t4) (ev_own rfl) (ev_int (K := K)) hs2 (d3 _ _ _ _) rfl) (ev_int (K := K))) (ev_d (K := K) rfl (.int _))) ok (fun v G H s1 ok hv => ?_)
      cases hm
      exact q v G H (sg.trans s1) ok hv
/-! ### _law_spelt -/
theorem sc__law_spelt : FnScope ["_law_figure_here", "_law_wide", "_law_word", "_law_turn"] ["_law_figure_here", "_law_wide"] (defScope s__law_spelt) := ⟨rfl, rfl, rfl, by decide +kernel, rfl, by decide +kernel, by decide +kernel⟩
def a__law_spelt (K : PySem.W.Frag) (a : Int × Int) : List V → Hp → Prop := conP (DD K (Dat.int a.1)) (conP (DD K (Dat.int a.2)) (nilP))
def m__law_spelt (a : Int × Int) : Option Str :=
  (rngO a.2).bind fun t1 => (forO (fun (st3 : Str × Int) (x4 : Int) => (modO st3.2 (26 : Int)).bind fun t9 => (atS (Str.ofString "abcdefghijklmnopqrstuvwxyz") t9).bind fun t10 => (addS t10 st3.1).bind fun t11 => (fdivO st3.2 (26 : Int)).bind fun t12 => some (t11, t12)) t1 ((Str.ofString ""), a.1)).bind fun fin2 => some fin2.1
abbrev sp__law_spelt [Tb] (K : PySem.W.Frag) : Sp := spP (a__law_spelt K) (m__law_spelt) fun r => DD K (Dat.str r)
theorem ok__law_spelt [Tb] {P : Program} {w : World} {K : PySem.W.Frag} {mg : Str → Option Value} {base : Heap} (T : Txt K mg) : FnOk P w K mg base CX0 (1) T.a__law_spelt T.d__law_spelt ["_law_figure_here", "_law_wide"] (sp__law_spelt K) := by
  refine T.F__law_spelt.ok sc__law_spelt (fun vs H Q E h => ?_) (fun cdv A outer s0 H vs Q E hr h => ?_)
  · obtain ⟨G, M0, a, r, ok, ⟨v_l_figure_here, _, rfl, h_l_figure_here, v_l_wide, _, rfl, h_l_wide, rfl⟩, hm, q⟩ := h
    rfl
  · obtain ⟨G, M0, a, r, ok, ⟨v_l_figure_here, _, rfl, h_l_figure_here, v_l_wide, _, rfl, h_l_wide, rfl⟩, hm, q⟩ := h
    unfold m__law_spelt at hm
    have sg := Same.refl G
    have hB := Same.refl M0
    refine ⟨_, (pss_cons (ps_set (i := 2) sc__law_spelt.nd rfl (.inl rfl) pe_str) (pss_cons (ps_for PassesOwn.never rfl (pi_range1 (by rfl) T.n_range (pa_cons (pv 1) pa_nil)) (pg_name (i := 3) sc__law_spelt.nd rfl (.inl rfl)) (pss_cons (ps_set (i := 2) sc__law_spelt.nd rfl (.inl rfl) (pe_op op_add_str (pe_ix ix_str pe_str (pe_op op_modN (pv 0) pe_int) (fun _ _ => rfl)) (pv 2))) (pss_cons (ps_set (i := 0) sc__law_spelt.nd rfl (.inl rfl) (pe_op op_fdivO (pv 0) pe_int)) pss_nil))) (pss_cons (ps_ret (pv 2)) pss_nil))), ?_⟩
    cases h_l_figure_here
    cases h_l_wide
    refine nrm (σ' := [some (.int a.1), some (.int a.2), none, none]) rfl ?_
    refine q_set (σ' := fun v => [some (.int a.1), some (.int a.2), some v, none]) (ev_str (K := K) (by decide +kernel)) ok (fun _ => rfl) (fun v_l_word G H s1 ok h_l_word => ?_)
    have sg := sg.trans s1
    obtain ⟨t1, e_t1, hm⟩ := bs hm
    obtain ⟨fin2, e_fin2, hm⟩ := bs hm
    have hmo5 := hm
    refine q_forO (ea := Dat.int) (src_rngO e_t1 (ea_d (ev_d (K := K) rfl (.int _)) ea_nil)) ok (fun (st3 : Str × Int) σ1 G1 M1 => ∃ (y_l_turn : Option V) (v_l_word : V), σ1 = [some (.int st3.2), some (.int a.2), some v_l_word, y_l_turn] ∧ (Dq K G1 v_l_word (Dat.str st3.1)) ∧ (Same M0 M1)) e_fin2 (fun G1 s1 => ⟨_, _, rfl, dp_up s1 _ h_l_word, hB⟩) (by rintro _ _ _ _ _ ⟨y_l_turn, v_l_word, rfl, h_l_word, hB⟩ s2; exact ⟨_, _, rfl, dp_up s2 _ h_l_word, hB⟩) (fun x4 xv7 st3 st' σ1 G M H N hm hj s1 ok hv hN => ?_) (fun σ1 G M H s1 ok hj => ?_)
    · obtain ⟨y_l_turn, v_l_word, rfl, h_l_word, hB⟩ := hj
      have sg := sg.trans s1
      have sl8 := Same.refl G
      refine gn ?_
      have h_l_turn := hv
      cases h_l_turn
      refine nrm (σ' := [some (.int st3.2), some (.int a.2), some v_l_word, some (.int x4)]) rfl ?_
      obtain ⟨t9, e_t9, hm⟩ := bs hm
      obtain ⟨t10, e_t10, hm⟩ := bs hm
      obtain ⟨t11, e_t11, hm⟩ := bs hm
      refine q_set (σ' := fun v => [some (.int st3.2), some (.int a.2), some v, some (.int x4)]) (ev_addS e_t11 (ev_ixS e_t10 (ev_str (K := K) (by decide +kernel)) (ev_modO e_t9 (ev_d (K := K) rfl (.int _)) (ev_int (K := K)))) (ev_d (K := K) rfl h_l_word)) ok (fun _ => rfl) (fun v_l_word G H s1 ok h_l_word => ?_)
      have sg := sg.trans s1
      have sl8 := sl8.trans s1
      obtain ⟨t12, e_t12, hm⟩ := bs hm
      refine q_set (σ' := fun v => [some v, some (.int a.2), some v_l_word, some (.int x4)]) (ev_fdivO e_t12 (ev_d (K := K) rfl (.int _)) (ev_int (K := K))) ok (fun _ => rfl) (fun v_l_figure_here G H s1 ok h_l_figure_here => ?_)
      have h_l_word := dp_up s1 _ h_l_word
      have sg := sg.trans s1
      have sl8 := sl8.trans s1
      cases h_l_figure_here
      refine q_nil ?_
      cases hm
      exact hN _ _ _ _ sl8 ok ⟨_, _, rfl, h_l_word, hB⟩
    · obtain ⟨y_l_turn, v_l_word, rfl, h_l_word, hB⟩ := hj
      have sg := sg.trans s1
      refine q_ret (ev_d (K := K) rfl h_l_word) ok (fun v G H s1 ok hv => ?_)
      have sg := sg.trans s1
      cases hm
      exact q v G H sg (ok.less hB) hv
/-! ### _law_calls -/
theorem sc__law_calls : FnScope ["_law_store", "_law_many", "_law_words", "_law_first", "_law_leap", "_law_wide", "_law_most", "_law_k"] ["_law_store", "_law_many"] (defScope s__law_calls) := ⟨rfl, rfl, rfl, by decide +kernel, rfl, by decide +kernel, by decide +kernel⟩
def a__law_calls (K : PySem.W.Frag) (a : Int) : List V → Hp → Prop := conP (DD K (Dat.int a)) (nilP)
def m__law_calls (a : Int) (z : Sto) : Option ((List Str) × Sto) :=
  (m__law_pull (5 : Int) z).bind fun t1 => cond (decide (t1.1 = (1 : Int))) ((m__law_pull (12 : Int) t1.2).bind fun t2 => (m__law_pull (4 : Int) t2.2).bind fun t3 => (atI ([(1 : Int), (5 : Int), (7 : Int), (11 : Int)] : (List Int)) t3.1).bind fun t4 => (rngO a).bind fun t5 => (lcO (fun x6 : Int => (mulO t4 x6).bind fun t12 => (modO (t2.1 + t12) (12 : Int)).bind fun t13 => (atI ([(Str.ofString "bell"), (Str.ofString "turns"), (Str.ofString "ring"), (Str.ofString "go"), (Str.ofString "tell"), (Str.ofString "hang"), (Str.ofString "down"), (Str.ofString "put"), (Str.ofString "strike"), (Str.ofString "back"), (Str.ofString "lots"), (Str.ofString "home")] : (List Str)) t13).bind fun t14 => some t14) t5).bind fun t15 => (sortS t15).bind fun t16 => some (t16, t3.2)) ((m__law_pull (6 : Int) t1.2).bind fun t17 => (m__law_pull (4 : Int) t17.2).bind fun t18 => (atI ([(1 : Int), (3 : Int), (7 : Int), (25 : Int)] : (List Int)) t18.1).bind fun t19 => (atI ([(26 : Int), (676 : Int), (17576 : Int), (456976 : Int), (11881376 : Int), (308915776 : Int)] : (List Int)) (((1 : Int) + t17.1) - (1 : Int))).bind fun t20 => (m__law_pull t20 t18.2).bind fun t21 => (rngO a).bind fun t22 => (lcO (fun x23 : Int => (mulO t19 x23).bind fun t29 => (modO (t21.1 + t29) t20).bind fun t30 => (m__law_spelt (t30, ((1 : Int) + t17.1))).bind fun t31 => some t31) t22).bind fun t32 => (sortS t32).bind fun t33 => some (t33, t21.2))
abbrev sp__law_calls [Tb] (K : PySem.W.Frag) : Sp := spD (a__law_calls K) (m__law_calls) fun r => DD K ((eL Dat.str) r)
theorem ok__law_calls [Tb] {P : Program} {w : World} {K : PySem.W.Frag} {mg : Str → Option Value} {base : Heap} (T : Txt K mg) (O__law_pull : FnOk P w K mg base CX0 1 T.a__law_pull T.d__law_pull ["_law_store", "_law_many"] (sp__law_pull K)) (O__law_spelt : FnOk P w K mg base CX0 1 T.a__law_spelt T.d__law_spelt ["_law_figure_here", "_law_wide"] (sp__law_spelt K)) : FnOk P w K mg base CX0 (2) T.a__law_calls T.d__law_calls ["_law_store", "_law_many"] (sp__law_calls K) := by
  refine T.F__law_calls.ok sc__law_calls (fun vs H Q E h => ?_) (fun cdv A outer s0 H vs Q E hr h => ?_)
  · obtain ⟨G, M0, s, z, z1, a, r, ws, rfl, ok, hs, ⟨v_l_many, _, rfl, h_l_many, rfl⟩, hm, q⟩ := h
    rfl
  · obtain ⟨G, M0, s, z, z1, a, r, ws, rfl, ok, hs, ⟨v_l_many, _, rfl, h_l_many, rfl⟩, hm, q⟩ := h
    unfold m__law_calls at hm
    have sg := Same.refl G
    have hB : ∀ a u, a ≠ s → M0 a = some u → M0 a = some u := fun _ _ _ h => h
    refine ⟨_, (pss_cons (ps_set (i := 2) sc__law_calls.nd rfl (.inr rfl) (pe_lst (pa_cons pe_str (pa_cons pe_str (pa_cons pe_str (pa_cons pe_str (pa_cons pe_str (pa_cons pe_str (pa_cons pe_str (pa_cons pe_str (pa_cons pe_str (pa_cons pe_str (pa_cons pe_str (pa_cons pe_str pa_nil)))))))))))))) (pss_cons (ps_if (pt_cmpR op_eq (pe_call O__law_pull (hr.mono (by decide)) (by rfl) T.g__law_pull T.F__law_pull.kp T.b__law_pull .nil pass0 (pa_cons (pv 0) (pa_cons pe_int pa_nil))) pe_int (nomark _)) (pss_cons (ps_asg (pe_tup (pa_cons (pe_call O__law_pull (hr.mono (by decide)) (by rfl) T.g__law_pull T.F__law_pull.kp T.b__law_pull .nil pass0 (pa_cons (pv 0) (pa_cons pe_int pa_nil))) (pa_cons (pe_ix (ix_listK (K := K)) (pe_lst (pa_cons pe_int (pa_cons pe_int (pa_cons pe_int (pa_cons pe_int pa_nil))))) (pe_call O__law_pull (hr.mono (by decide)) (by rfl) T.g__law_pull T.F__law_pull.kp T.b__law_pull .nil pass0 (pa_cons (pv 0) (pa_cons pe_int pa_nil))) (fun _ _ => rfl)) pa_nil))) (pg_tup rfl (pgs_cons (pg_name (i := 3) sc__law_calls.nd rfl (.inr rfl)) (pgs_cons (pg_name (i := 4) sc__law_calls.nd rfl (.inr rfl)) pgs_nil)))) (pss_cons (ps_ret (pe_callB (cr_sortedSK (K := K)) (by rfl) T.n_sorted (by decide +kernel) (pa_cons (pe_lc (own := [("_law_k", 7)]) (g := (gName 7)) (tt := tYes) rfl sc__law_calls.nd (pi_range1 (by rfl) T.n_range (pa_cons (pv 1) pa_nil)) (blkOk_by (own := [("_law_k", 7)]) (N := ["_law_store", "_law_many", "_law_words", "_law_first", "_law_leap", "_law_wide", "_law_most", "_law_k"]) (sc := defScope s__law_calls) (by decide +kernel)) (fun _ _ _ _ _ => (pg_name (i := 7) sc__law_calls.nd rfl (by first | exact .inl rfl | exact .inr rfl))) (fun _ _ _ _ _ => pts_nil) (fun _ _ _ _ _ => (pe_ix (ix_listK (K := K)) (pv 2) (pe_op op_modN (pe_op op_add (pv 3) (pe_op op_mulO (pv 4) (pv 7))) pe_int) (fun _ _ => rfl)))) pa_nil))) pss_nil)) pss_nil) (pss_cons (ps_asg (pe_tup (pa_cons (pe_op op_add pe_int (pe_call O__law_pull (hr.mono (by decide)) (by rfl) T.g__law_pull T.F__law_pull.kp T.b__law_pull .nil pass0 (pa_cons (pv 0) (pa_cons pe_int pa_nil)))) (pa_cons (pe_ix (ix_listK (K := K)) (pe_lst (pa_cons pe_int (pa_cons pe_int (pa_cons pe_int (pa_cons pe_int pa_nil))))) (pe_call O__law_pull (hr.mono (by decide)) (by rfl) T.g__law_pull T.F__law_pull.kp T.b__law_pull .nil pass0 (pa_cons (pv 0) (pa_cons pe_int pa_nil))) (fun _ _ => rfl)) pa_nil))) (pg_tup rfl (pgs_cons (pg_name (i := 5) sc__law_calls.nd rfl (.inr rfl)) (pgs_cons (pg_name (i := 4) sc__law_calls.nd rfl (.inr rfl)) pgs_nil)))) (pss_cons (ps_set (i := 6) sc__law_calls.nd rfl (.inr rfl) (pe_ix (ix_listK (K := K)) (pe_lst (pa_cons pe_int (pa_cons pe_int (pa_cons pe_int (pa_cons pe_int (pa_cons pe_int (pa_cons pe_int pa_nil))))))) (pe_op op_sub (pv 5) pe_int) (fun _ _ => rfl))) (pss_cons (ps_set (i := 3) sc__law_calls.nd rfl (.inr rfl) (pe_call O__law_pull (hr.mono (by decide)) (by rfl) T.g__law_pull T.F__law_pull.kp T.b__law_pull .nil pass0 (pa_cons (pv 0) (pa_cons (pv 6) pa_nil)))) (pss_cons (ps_ret (pe_callB (cr_sortedSK (K := K)) (by rfl) T.n_sorted (by decide +kernel) (pa_cons (pe_lc (own := [("_law_k", 7)]) (g := (gName 7)) (tt := tYes) rfl sc__law_calls.nd (pi_range1 (by rfl) T.n_range (pa_cons (pv 1) pa_nil)) (blkOk_by (own := [("_law_k", 7)]) (N := ["_law_store", "_law_many", "_law_words", "_law_first", "_law_leap", "_law_wide", "_law_most", "_law_k"]) (sc := defScope s__law_calls) (by decide +kernel)) (fun _ _ _ _ _ => (pg_name (i := 7) sc__law_calls.nd rfl (by first | exact .inl rfl | exact .inr rfl))) (fun _ _ _ _ _ => pts_nil) (fun _ _ _ _ _ => (pe_call O__law_spelt (hr.mono (by decide)) (by rfl) T.g__law_spelt T.F__law_spelt.kp T.b__law_spelt .nil pass0 (pa_cons (pe_op op_modN (pe_op op_add (pv 3) (pe_op op_mulO (pv 4) (pv 7))) (pv 6)) (pa_cons (pv 5) pa_nil))))) pa_nil))) pss_nil)))))), ?_⟩
    cases h_l_many
    refine nrm (σ' := [some (.ref s), some (.int a), none, none, none, none, none, none]) rfl ?_
    refine q_set (σ' := fun v => [some (.ref s), some (.int a), some v, none, none, none, none, none]) (EvL.ev (el_lst (ea_consD (ev_str (K := K) (by decide +kernel)) (ea_consD (ev_str (K := K) (by decide +kernel)) (ea_consD (ev_str (K := K) (by decide +kernel)) (ea_consD (ev_str (K := K) (by decide +kernel)) (ea_consD (ev_str (K := K) (by decide +kernel)) (ea_consD (ev_str (K := K) (by decide +kernel)) (ea_consD (ev_str (K := K) (by decide +kernel)) (ea_consD (ev_str (K := K) (by decide +kernel)) (ea_consD (ev_str (K := K) (by decide +kernel)) (ea_consD (ev_str (K := K) (by decide +kernel)) (ea_consD (ev_str (K := K) (by decide +kernel)) (ea_consD (ev_str (K := K) (by decide +kernel)) (ea_nilD (K := K)))))))))))))))) ok (fun _ => rfl) (fun v_l_words G H s1 ok h_l_words => ?_)
    have sg := sg.trans s1
    obtain ⟨t1, e_t1, hm⟩ := bs hm
    refine q_if (et_test (ev_eqI (ev_callD (a := (5 : Int)) (r := t1.1) (z' := t1.2) hs e_t1 (ea_cons mo_ow (ev_own rfl) (ea_d (ev_int (K := K)) ea_nil))) (ev_int (K := K)))) ok (fun hb G H s1 ok => ?_) (fun hb G H s1 ok => ?_)
    · have hm := cond_t hb hm
      have h_l_words := dp_up s1 _ h_l_words
      have sg := sg.trans s1
      have ok : Ok _ (upd M0 s (sto t1.2)) _ := ok
      have hs : (upd M0 s (sto t1.2)) s = some (sto t1.2) := upd_same
      have hB : ∀ a u, a ≠ s → M0 a = some u → (upd M0 s (sto t1.2)) a = some u := (hB_draw hB)
      obtain ⟨M, eM⟩ : ∃ m, m = (upd M0 s (sto t1.2)) := ⟨_, rfl⟩
      rw [← eM] at ok hs hB
      clear eM
      obtain ⟨t2, e_t2, hm⟩ := bs hm
      obtain ⟨t3, e_t3, hm⟩ := bs hm
      obtain ⟨t4, e_t4, hm⟩ := bs hm
      refine q_tupDD (σ' := fun v w => [some (.ref s), some (.int a), some v_l_words, some v, some w, none, none, none]) (ev_callD (a := (12 : Int)) (r := t2.1) (z' := t2.2) hs e_t2 (ea_cons mo_ow (ev_own rfl) (ea_d (ev_int (K := K)) ea_nil))) mo_dd (ev_ixLM (e := Dat.int) e_t4 (EvL.ev (el_lst (ea_consD (ev_int (K := K)) (ea_consD (ev_int (K := K)) (ea_consD (ev_int (K := K)) (ea_consD (ev_int (K := K)) (ea_nilD (K := K)))))))) (ev_callD (a := (4 : Int)) (r := t3.1) (z' := t3.2) upd_same e_t3 (ea_cons mo_ow (ev_own rfl) (ea_d (ev_int (K := K)) ea_nil)))) mo_dd ok (fun _ _ => rfl) (fun v_l_first v_l_leap G H s1 ok h_l_first h_l_leap => ?_)
      have h_l_words := dp_up s1 _ h_l_words
      have sg := sg.trans s1
      cases h_l_first
      cases h_l_leap
      have ok : Ok _ (upd (upd M s (sto t2.2)) s (sto t3.2)) _ := ok
      have hs : (upd (upd M s (sto t2.2)) s (sto t3.2)) s = some (sto t3.2) := upd_same
      have hB : ∀ a u, a ≠ s → M0 a = some u → (upd (upd M s (sto t2.2)) s (sto t3.2)) a = some u := (hB_draw (hB_draw hB))
      obtain ⟨M, eM⟩ : ∃ m, m = (upd (upd M s (sto t2.2)) s (sto t3.2)) := ⟨_, rfl⟩
      rw [← eM] at ok hs hB
      clear eM
      obtain ⟨t5, e_t5, hm⟩ := bs hm
      obtain ⟨t15, e_t15, hm⟩ := bs hm
      obtain ⟨t16, e_t16, hm⟩ := bs hm
      refine q_ret (EvL.ev (el_sortedS e_t16 (ea_d (EvL.ev (el_lcM (ea := Dat.int) (eb := Dat.str) (xs := t5) (ys := t15) (hf := e_t15) (src_rngO e_t5 (ea_d (ev_d (K := K) rfl (.int _)) ea_nil)) (fun x6 _ Mx10 _ _ he11 sM9 sG8 hv7 => by (obtain ⟨t12, e_t12, he11⟩ := bs he11); (obtain ⟨t13, e_t13, he11⟩ := bs he11); (obtain ⟨t14, e_t14, he11⟩ := bs he11); (have he11 := Option.some.inj he11); subst he11; exact (tg_name ⟨rfl, (ev_ixLM (e := Dat.str) e_t14 (ev_d (K := K) rfl (dp_up sG8 _ h_l_words)) (ev_modO e_t13 (ev_add (ev_d (K := K) rfl (.int _)) (ev_mulO e_t12 (ev_d (K := K) rfl (.int _)) (ev_d (K := K) rfl hv7))) (ev_int (K := K))))⟩)))) ea_nil))) ok (fun v G H s1 ok hv => ?_)
      have sg := sg.trans s1
      cases hm
      exact q v G H sg (ok.less (same_fin hB hs)) hv
    · have hm := cond_f hb hm
      have h_l_words := dp_up s1 _ h_l_words
      have sg := sg.trans s1
      have ok : Ok _ (upd M0 s (sto t1.2)) _ := ok
      have hs : (upd M0 s (sto t1.2)) s = some (sto t1.2) := upd_same
      have hB : ∀ a u, a ≠ s → M0 a = some u → (upd M0 s (sto t1.2)) a = some u := (hB_draw hB)
      obtain ⟨M, eM⟩ : ∃ m, m = (upd M0 s (sto t1.2)) := ⟨_, rfl⟩
      rw [← eM] at ok hs hB
      clear eM
      refine q_nilU ?_
      obtain ⟨t17, e_t17, hm⟩ := bs hm
      obtain ⟨t18, e_t18, hm⟩ := bs hm
      obtain ⟨t19, e_t19, hm⟩ := bs hm
      refine q_tupDD (σ' := fun v w => [some (.ref s), some (.int a), some v_l_words, none, some w, some v, none, none]) (ev_add (ev_int (K := K)) (ev_callD (a := (6 : Int)) (r := t17.1) (z' := t17.2) hs e_t17 (ea_cons mo_ow (ev_own rfl) (ea_d (ev_int (K := K)) ea_nil)))) mo_dd (ev_ixLM (e := Dat.int) e_t19 (EvL.ev (el_lst (ea_consD (ev_int (K := K)) (ea_consD (ev_int (K := K)) (ea_consD (ev_int (K := K)) (ea_consD (ev_int (K := K)) (ea_nilD (K := K)))))))) (ev_callD (a := (4 : Int)) (r := t18.1) (z' := t18.2) upd_same e_t18 (ea_cons mo_ow (ev_own rfl) (ea_d (ev_int (K := K)) ea_nil)))) mo_dd ok (fun _ _ => rfl) (fun v_l_wide v_l_leap G H s1 ok h_l_wide h_l_leap => ?_)
      have h_l_words := dp_up s1 _ h_l_words
      have sg := sg.trans s1
      cases h_l_wide
      cases h_l_leap
      have ok : Ok _ (upd (upd M s (sto t17.2)) s (sto t18.2)) _ := ok
      have hs : (upd (upd M s (sto t17.2)) s (sto t18.2)) s = some (sto t18.2) := upd_same
      have hB : ∀ a u, a ≠ s → M0 a = some u → (upd (upd M s (sto t17.2)) s (sto t18.2)) a = some u := (hB_draw (hB_draw hB))
      obtain ⟨M, eM⟩ : ∃ m, m = (upd (upd M s (sto t17.2)) s (sto t18.2)) := ⟨_, rfl⟩
      rw [← eM] at ok hs hB
      clear eM
      obtain ⟨t20, e_t20, hm⟩ := bs hm
      refine q_set (σ' := fun v => [some (.ref s), some (.int a), some v_l_words, none, some (.int t19), some (.int ((1 : Int) + t17.1)), some v, none]) (ev_ixLM (e := Dat.int) e_t20 (EvL.ev (el_lst (ea_consD (ev_int (K := K)) (ea_consD (ev_int (K := K)) (ea_consD (ev_int (K := K)) (ea_consD (ev_int (K := K)) (ea_consD (ev_int (K := K)) (ea_consD (ev_int (K := K)) (ea_nilD (K := K)))))))))) (ev_sub (ev_d (K := K) rfl (.int _)) (ev_int (K := K)))) ok (fun _ => rfl) (fun v_l_most G H s1 ok h_l_most => ?_)
      have h_l_words := dp_up s1 _ h_l_words
      have sg := sg.trans s1
      cases h_l_most
      obtain ⟨t21, e_t21, hm⟩ := bs hm
      refine q_set (σ' := fun v => [some (.ref s), some (.int a), some v_l_words, some v, some (.int t19), some (.int ((1 : Int) + t17.1)), some (.int t20), none]) (ev_callD (a := t20) (r := t21.1) (z' := t21.2) hs e_t21 (ea_cons mo_ow (ev_own rfl) (ea_d (ev_d (K := K) rfl (.int _)) ea_nil))) ok (fun _ => rfl) (fun v_l_first G H s1 ok h_l_first => ?_)
      have h_l_words := dp_up s1 _ h_l_words
      have sg := sg.trans s1
      cases h_l_first
      have ok : Ok _ (upd M s (sto t21.2)) _ := ok
      have hs : (upd M s (sto t21.2)) s = some (sto t21.2) := upd_same
      have hB : ∀ a u, a ≠ s → M0 a = some u → (upd M s (sto t21.2)) a = some u := (hB_draw hB)
      obtain ⟨M, eM⟩ : ∃ m, m = (upd M s (sto t21.2)) := ⟨_, rfl⟩
      rw [← eM] at ok hs hB
      clear eM
      obtain ⟨t22, e_t22, hm⟩ := bs hm
      obtain ⟨t32, e_t32, hm⟩ := bs hm
      obtain ⟨t33, e_t33, hm⟩ := bs hm
      refine q_ret (EvL.ev (el_sortedS e_t33 (ea_d (EvL.ev (el_lcM (ea := Dat.int) (eb := Dat.str) (xs := t22) (ys := t32) (hf := e_t32) (src_rngO e_t22 (ea_d (ev_d (K := K) rfl (.int _)) ea_nil)) (fun x23 _ Mx27 _ _ he28 sM26 sG25 hv24 => by (obtain ⟨t29, e_t29, he28⟩ := bs he28); (obtain ⟨t30, e_t30, he28⟩ := bs he28); (obtain ⟨t31, e_t31, he28⟩ := bs he28); (have he28 := Option.some.inj he28); subst he28; exact (tg_name ⟨rfl, (ev_callP (res := fun r => DD K (Dat.str r)) (a := (t30, ((1 : Int) + t17.1))) e_t31 (ea_d (ev_modO e_t30 (ev_add (ev_d (K := K) rfl (.int _)) (ev_mulO e_t29 (ev_d (K := K) rfl (.int _)) (ev_d (K := K) rfl hv24))) (ev_d (K := K) rfl (.int _))) (ea_d (ev_d (K := K) rfl (.int _)) ea_nil)))⟩)))) ea_nil))) ok (fun v G H s1 ok hv => ?_)
      have sg := sg.trans s1
      cases hm
      exact q v G H sg (ok.less (same_fin hB hs)) hv
/-! ### _law_figure -/
theorem sc__law_figure : FnScope ["_law_store", "_law_mode", "_law_size", "_law_some"] ["_law_store", "_law_mode", "_law_size"] (defScope s__law_figure) := ⟨rfl, rfl, rfl, by decide +kernel, rfl, by decide +kernel, by decide +kernel⟩
def a__law_figure (K : PySem.W.Frag) (a : Int × Int) : List V → Hp → Prop := conP (DD K (Dat.int a.1)) (conP (DD K (Dat.int a.2)) (nilP))
def m__law_figure (a : Int × Int) (z : Sto) : Option (Int × Sto) :=
  (m__law_pull a.2 z).bind fun t1 => (m__law_pull (99 : Int) t1.2).bind fun t2 => (mulO (2 : Int) a.2).bind fun t3 => (fdivO a.2 (2 : Int)).bind fun t4 => (m__law_pull (4 : Int) t2.2).bind fun t5 => (atI ([(0 : Int), a.2, t3, t4] : (List Int)) t5.1).bind fun t6 => (appO ([(1 : Int), ((1 : Int) + t1.1), ((1 : Int) + t2.1)] : (List Int)) t6).bind fun t7 => cond (decide (a.1 < (4 : Int))) ((atI t7 a.1).bind fun t8 => some (t8, t5.2)) ((atI t7 (1 : Int)).bind fun t9 => (m__law_pull (a.1 - (2 : Int)) t5.2).bind fun t10 => (mulO t9 (if (decide (t10.1 = (0 : Int))) then 1 else 0 : Int)).bind fun t11 => some (t11, t10.2))
abbrev sp__law_figure [Tb] (K : PySem.W.Frag) : Sp := spD (a__law_figure K) (m__law_figure) fun r => DD K (Dat.int r)
theorem ok__law_figure [Tb] {P : Program} {w : World} {K : PySem.W.Frag} {mg : Str → Option Value} {base : Heap} (T : Txt K mg) (O__law_pull : FnOk P w K mg base CX0 1 T.a__law_pull T.d__law_pull ["_law_store", "_law_many"] (sp__law_pull K)) : FnOk P w K mg base CX0 (2) T.a__law_figure T.d__law_figure ["_law_store", "_law_mode", "_law_size"] (sp__law_figure K) := by
  refine T.F__law_figure.ok sc__law_figure (fun vs H Q E h => ?_) (fun cdv A outer s0 H vs Q E hr h => ?_)
  · obtain ⟨G, M0, s, z, z1, a, r, ws, rfl, ok, hs, ⟨v_l_mode, _, rfl, h_l_mode, v_l_size, _, rfl, h_l_size, rfl⟩, hm, q⟩ := h
    rfl
  · obtain ⟨G, M0, s, z, z1, a, r, ws, rfl, ok, hs, ⟨v_l_mode, _, rfl, h_l_mode, v_l_size, _, rfl, h_l_size, rfl⟩, hm, q⟩ := h
    unfold m__law_figure at hm
    have sg := Same.refl G
    have hB : ∀ a u, a ≠ s → M0 a = some u → M0 a = some u := fun _ _ _ h => h
    refine ⟨_, (pss_cons (ps_set (i := 3) sc__law_figure.nd rfl (.inl rfl) (pe_lst (pa_cons pe_int (pa_cons (pe_op op_add pe_int (pe_call O__law_pull (hr.mono (by decide)) (by rfl) T.g__law_pull T.F__law_pull.kp T.b__law_pull .nil pass0 (pa_cons (pv 0) (pa_cons (pv 2) pa_nil)))) (pa_cons (pe_op op_add pe_int (pe_call O__law_pull (hr.mono (by decide)) (by rfl) T.g__law_pull T.F__law_pull.kp T.b__law_pull .nil pass0 (pa_cons (pv 0) (pa_cons pe_int pa_nil)))) pa_nil))))) (pss_cons (ps_expr (pe_bm PySem.F.plainAttrs_list PySem.F.slot_list_append PySem.F.type_list_append mt_append (pv 3) (pa_cons (pe_ix (ix_listK (K := K)) (pe_lst (pa_cons pe_int (pa_cons (pv 2) (pa_cons (pe_op op_mulO pe_int (pv 2)) (pa_cons (pe_op op_fdivO (pv 2) pe_int) pa_nil))))) (pe_call O__law_pull (hr.mono (by decide)) (by rfl) T.g__law_pull T.F__law_pull.kp T.b__law_pull .nil pass0 (pa_cons (pv 0) (pa_cons pe_int pa_nil))) (fun _ _ => rfl)) pa_nil))) (pss_cons (ps_if (pt_cmpR op_lt (pv 1) pe_int (nomark _)) (pss_cons (ps_ret (pe_ix (ix_listK (K := K)) (pv 3) (pv 1) (fun _ _ => rfl))) pss_nil) pss_nil) (pss_cons (ps_ret (pe_op op_mulO (pe_ix (ix_listK (K := K)) (pv 3) pe_int (fun _ _ => rfl)) (pe_callTy cl_int (by rfl) T.n_int (by decide +kernel) (pa_cons (pe_cmpR op_eq (pe_call O__law_pull (hr.mono (by decide)) (by rfl) T.g__law_pull T.F__law_pull.kp T.b__law_pull .nil pass0 (pa_cons (pv 0) (pa_cons (pe_op op_sub (pv 1) pe_int) pa_nil))) pe_int (nomark _)) pa_nil)))) pss_nil)))), ?_⟩
    cases h_l_mode
    cases h_l_size
    refine nrm (σ' := [some (.ref s), some (.int a.1), some (.int a.2), none]) rfl ?_
    obtain ⟨t1, e_t1, hm⟩ := bs hm
    obtain ⟨t2, e_t2, hm⟩ := bs hm
    refine q_setL (σ' := fun v => [some (.ref s), some (.int a.1), some (.int a.2), some v]) (el_lst (ea_consD (ev_int (K := K)) (ea_consD (ev_add (ev_int (K := K)) (ev_callD (a := a.2) (r := t1.1) (z' := t1.2) hs e_t1 (ea_cons mo_ow (ev_own rfl) (ea_d (ev_d (K := K) rfl (.int _)) ea_nil)))) (ea_consD (ev_add (ev_int (K := K)) (ev_callD (a := (99 : Int)) (r := t2.1) (z' := t2.2) upd_same e_t2 (ea_cons mo_ow (ev_own rfl) (ea_d (ev_int (K := K)) ea_nil)))) (ea_nilD (K := K)))))) ok (fun _ => rfl) (fun p_l_some vs_l_some G H s1 ok hn hd_l_some => ?_)
    have sg := sg.trans s1
    have n_l_store_l_some : s ≠ p_l_some := ne_of_none upd_same hn
    have n_l_some_l_store := n_l_store_l_some.symm
    have h0_l_some : M0 p_l_some = none := hB_none (M := (upd (upd M0 s (sto t1.2)) s (sto t2.2))) (hB_draw (hB_draw hB)) upd_same hn
    have hd_l_some : DqAll K G vs_l_some (([(1 : Int), ((1 : Int) + t1.1), ((1 : Int) + t2.1)] : (List Int)).map Dat.int) := hd_l_some
    have ok : Ok _ (upd (upd (upd M0 s (sto t1.2)) s (sto t2.2)) p_l_some (.lst vs_l_some)) _ := ok
    have hs : (upd (upd (upd M0 s (sto t1.2)) s (sto t2.2)) p_l_some (.lst vs_l_some)) s = some (sto t2.2) := (up_ne n_l_store_l_some upd_same)
    have hB : ∀ a u, a ≠ s → M0 a = some u → (upd (upd (upd M0 s (sto t1.2)) s (sto t2.2)) p_l_some (.lst vs_l_some)) a = some u := (hB_own (hB_draw (hB_draw hB)) h0_l_some)
    have hp_l_some : (upd (upd (upd M0 s (sto t1.2)) s (sto t2.2)) p_l_some (.lst vs_l_some)) p_l_some = some (.lst vs_l_some) := upd_same
    obtain ⟨M, eM⟩ : ∃ m, m = (upd (upd (upd M0 s (sto t1.2)) s (sto t2.2)) p_l_some (.lst vs_l_some)) := ⟨_, rfl⟩
    rw [← eM] at ok hs hB hp_l_some
    clear eM
    obtain ⟨t3, e_t3, hm⟩ := bs hm
    obtain ⟨t4, e_t4, hm⟩ := bs hm
    obtain ⟨t5, e_t5, hm⟩ := bs hm
    obtain ⟨t6, e_t6, hm⟩ := bs hm
    obtain ⟨t7, e_t7, hm⟩ := bs hm
    obtain ⟨hl_t7, ea_t7⟩ := appO_of e_t7
    refine q_append (ev_own rfl) (ea_d (ev_ixLM (e := Dat.int) e_t6 (EvL.ev (el_lst (ea_consD (ev_int (K := K)) (ea_consD (ev_d (K := K) rfl (.int _)) (ea_consD (ev_mulO e_t3 (ev_int (K := K)) (ev_d (K := K) rfl (.int _))) (ea_consD (ev_fdivO e_t4 (ev_d (K := K) rfl (.int _)) (ev_int (K := K))) (ea_nilD (K := K)))))))) (ev_callD (a := (4 : Int)) (r := t5.1) (z' := t5.2) hs e_t5 (ea_cons mo_ow (ev_own rfl) (ea_d (ev_int (K := K)) ea_nil)))) ea_nil) hp_l_some (up_ne n_l_some_l_store hp_l_some) (by rw [dpAll_len hd_l_some, List.length_map]; exact szlt hl_t7) ok (fun v G H s1 ok hv => ?_)
    have hd_l_some := dpAll_up s1 _ hd_l_some
    have sg := sg.trans s1
    have hd_l_some : DqAll K G (vs_l_some ++ [v]) (t7.map Dat.int) := by rw [ea_t7, List.map_append]; exact dpAll_app hd_l_some (.cons hv .nil)
    have ok : Ok _ (upd (upd M s (sto t5.2)) p_l_some (.lst (vs_l_some ++ [v]))) _ := ok
    have hs : (upd (upd M s (sto t5.2)) p_l_some (.lst (vs_l_some ++ [v]))) s = some (sto t5.2) := (up_ne n_l_store_l_some upd_same)
    have hB : ∀ a u, a ≠ s → M0 a = some u → (upd (upd M s (sto t5.2)) p_l_some (.lst (vs_l_some ++ [v]))) a = some u := (hB_own (hB_draw hB) h0_l_some)
    have hp_l_some : (upd (upd M s (sto t5.2)) p_l_some (.lst (vs_l_some ++ [v]))) p_l_some = some (.lst (vs_l_some ++ [v])) := upd_same
    obtain ⟨M, eM⟩ : ∃ m, m = (upd (upd M s (sto t5.2)) p_l_some (.lst (vs_l_some ++ [v]))) := ⟨_, rfl⟩
    rw [← eM] at ok hs hB hp_l_some
    clear eM
    obtain ⟨vs_l_some, e_vs⟩ : ∃ m, m = (vs_l_some ++ [v]) := ⟨_, rfl⟩
    rw [← e_vs] at hp_l_some hd_l_some
    clear e_vs
    refine q_if (et_test (ev_lt (ev_d (K := K) rfl (.int _)) (ev_int (K := K)))) ok (fun hb G H s1 ok => ?_) (fun hb G H s1 ok => ?_)
    · have hm := cond_t hb hm
      have hd_l_some := dpAll_up s1 _ hd_l_some
      have sg := sg.trans s1
      obtain ⟨t8, e_t8, hm⟩ := bs hm
      refine q_ret (ev_ixOM (e := Dat.int) e_t8 hp_l_some hd_l_some (ev_own rfl) (ev_d (K := K) rfl (.int _))) ok (fun v G H s1 ok hv => ?_)
      have sg := sg.trans s1
      cases hm
      exact q v G H sg (ok.less (same_fin hB hs)) hv
    · have hm := cond_f hb hm
      have hd_l_some := dpAll_up s1 _ hd_l_some
      have sg := sg.trans s1
      refine q_nilU ?_
      obtain ⟨t9, e_t9, hm⟩ := bs hm
      obtain ⟨t10, e_t10, hm⟩ := bs hm
      obtain ⟨t11, e_t11, hm⟩ := bs hm
      refine q_ret (ev_mulO e_t11 (ev_ixOM (e := Dat.int) e_t9 hp_l_some hd_l_some (ev_own rfl) (ev_int (K := K))) (ev_intB (ea_d (ev_eqI (ev_callD (a := (a.1 - (2 : Int))) (r := t10.1) (z' := t10.2) hs e_t10 (ea_cons mo_ow (ev_own rfl) (ea_d (ev_sub (ev_d (K := K) rfl (.int _)) (ev_int (K := K))) ea_nil))) (ev_int (K := K))) ea_nil))) ok (fun v G H s1 ok hv => ?_)
      have sg := sg.trans s1
      have ok : Ok _ (upd M s (sto t10.2)) _ := ok
      have hs : (upd M s (sto t10.2)) s = some (sto t10.2) := upd_same
      have hB : ∀ a u, a ≠ s → M0 a = some u → (upd M s (sto t10.2)) a = some u := (hB_draw hB)
      have hp_l_some : (upd M s (sto t10.2)) p_l_some = some (.lst vs_l_some) := (up_ne n_l_some_l_store hp_l_some)
      obtain ⟨M, eM⟩ : ∃ m, m = (upd M s (sto t10.2)) := ⟨_, rfl⟩
      rw [← eM] at ok hs hB hp_l_some
      clear eM
      cases hm
      exact q v G H sg (ok.less (same_fin hB hs)) hv
/-! ### _law_kit -/
theorem sc__law_kit : FnScope ["_law_store", "_law_upto", "_law_most", "_law_calls_here", "_law_alike", "_law_same_here", "_law_mode", "_law_sizes", "_law_found", "_law_call", "_law_k", "_law_figure_here"] ["_law_store", "_law_upto", "_law_most"] (defScope s__law_kit) := ⟨rfl, rfl, rfl, by decide +kernel, rfl, by decide +kernel, by decide +kernel⟩
def a__law_kit (K : PySem.W.Frag) (a : Int × Int) : List V → Hp → Prop := conP (DD K (Dat.int a.1)) (conP (DD K (Dat.int a.2)) (nilP))
def m__law_kit (a : Int × Int) (z : Sto) : Option (((List (Str × Int)) × (List (Str × Str × Int))) × Sto) :=
  (m__law_pull a.1 z).bind fun t1 => (m__law_calls ((1 : Int) + t1.1) t1.2).bind fun t2 => (m__law_pull (a.2 - (1 : Int)) t2.2).bind fun t3 => (m__law_pull (4 : Int) t3.2).bind fun t4 => (m__law_pull (6 : Int) t4.2).bind fun t5 => (lcS (fun (x6 : Str) (x6z : Sto) => (cond (decide (t4.1 = (0 : Int))) (some (((2 : Int) + t3.1), x6z)) ((m__law_pull (a.2 - (1 : Int)) x6z).bind fun t12 => some (((2 : Int) + t12.1), t12.2))).bind fun t13 => some (t13.1, t13.2)) t2.1 t5.2).bind fun t14 => (forO (fun (st16 : (List (Str × Str × Int)) × Sto) (x17 : Str) => (rngO (t2.1.length : Int)).bind fun t22 => (forO (fun (st24 : (List (Str × Str × Int)) × Sto) (x25 : Int) => (atI t14.1 x25).bind fun t30 => (m__law_figure (t5.1, t30) st24.2).bind fun t31 => (atI t2.1 x25).bind fun t32 => cond ((!decide (t32 = x17)) && (decide ((0 : Int) < t31.1))) ((atI t2.1 x25).bind fun t33 => (appO st24.1 (x17, t33, t31.1)).bind fun t34 => some (t34, t31.2)) (some (st24.1, t31.2))) t22 (st16.1, st16.2)).bind fun fin23 => some (fin23.1, fin23.2)) t2.1 (([] : (List (Str × Str × Int))), t14.2)).bind fun fin15 => (rngO (t2.1.length : Int)).bind fun t35 => (lcO (fun x36 : Int => (atI t2.1 x36).bind fun t42 => (atI t14.1 x36).bind fun t43 => some (t42, t43)) t35).bind fun t44 => some ((t44, fin15.1), fin15.2)
abbrev sp__law_kit [Tb] (K : PySem.W.Frag) : Sp := spD (a__law_kit K) (m__law_kit) fun r => DD K ((eP2 (eT (eP2 Dat.str Dat.int)) (eT (eP3 Dat.str Dat.str Dat.int))) r)
theorem ok__law_kit [Tb] {P : Program} {w : World} {K : PySem.W.Frag} {mg : Str → Option Value} {base : Heap} (T : Txt K mg) (O__law_calls : FnOk P w K mg base CX0 2 T.a__law_calls T.d__law_calls ["_law_store", "_law_many"] (sp__law_calls K)) (O__law_pull : FnOk P w K mg base CX0 1 T.a__law_pull T.d__law_pull ["_law_store", "_law_many"] (sp__law_pull K)) (O__law_figure : FnOk P w K mg base CX0 2 T.a__law_figure T.d__law_figure ["_law_store", "_law_mode", "_law_size"] (sp__law_figure K)) : FnOk P w K mg base CX0 (3) T.a__law_kit T.d__law_kit ["_law_store", "_law_upto", "_law_most"] (sp__law_kit K) := by
  refine T.F__law_kit.ok sc__law_kit (fun vs H Q E h => ?_) (fun cdv A outer s0 H vs Q E hr h => ?_)
  · obtain ⟨G, M0, s, z, z1, a, r, ws, rfl, ok, hs, ⟨v_l_upto, _, rfl, h_l_upto, v_l_most, _, rfl, h_l_most, rfl⟩, hm, q⟩ := h
    rfl
  · obtain ⟨G, M0, s, z, z1, a, r, ws, rfl, ok, hs, ⟨v_l_upto, _, rfl, h_l_upto, v_l_most, _, rfl, h_l_most, rfl⟩, hm, q⟩ := h
    unfold m__law_kit at hm
    have sg := Same.refl G
    have hB : ∀ a u, a ≠ s → M0 a = some u → M0 a = some u := fun _ _ _ h => h
    refine ⟨_, (pss_cons (ps_asg (pe_tup (pa_cons (pe_call O__law_calls (hr.mono (by decide)) (by rfl) T.g__law_calls T.F__law_calls.kp T.b__law_calls .nil pass0 (pa_cons (pv 0) (pa_cons (pe_op op_add pe_int (pe_call O__law_pull (hr.mono (by decide)) (by rfl) T.g__law_pull T.F__law_pull.kp T.b__law_pull .nil pass0 (pa_cons (pv 0) (pa_cons (pv 1) pa_nil)))) pa_nil))) (pa_cons (pe_op op_add pe_int (pe_call O__law_pull (hr.mono (by decide)) (by rfl) T.g__law_pull T.F__law_pull.kp T.b__law_pull .nil pass0 (pa_cons (pv 0) (pa_cons (pe_op op_sub (pv 2) pe_int) pa_nil)))) pa_nil))) (pg_tup rfl (pgs_cons (pg_name (i := 3) sc__law_kit.nd rfl (.inr rfl)) (pgs_cons (pg_name (i := 4) sc__law_kit.nd rfl (.inr rfl)) pgs_nil)))) (pss_cons (ps_asg (pe_tup (pa_cons (pe_cmpR op_eq (pe_call O__law_pull (hr.mono (by decide)) (by rfl) T.g__law_pull T.F__law_pull.kp T.b__law_pull .nil pass0 (pa_cons (pv 0) (pa_cons pe_int pa_nil))) pe_int (nomark _)) (pa_cons (pe_call O__law_pull (hr.mono (by decide)) (by rfl) T.g__law_pull T.F__law_pull.kp T.b__law_pull .nil pass0 (pa_cons (pv 0) (pa_cons pe_int pa_nil))) pa_nil))) (pg_tup rfl (pgs_cons (pg_name (i := 5) sc__law_kit.nd rfl (.inr rfl)) (pgs_cons (pg_name (i := 6) sc__law_kit.nd rfl (.inl rfl)) pgs_nil)))) (pss_cons (ps_set (i := 7) sc__law_kit.nd rfl (.inr rfl) (pe_lc (own := [("_law_call", 9)]) (g := (gName 9)) (tt := tYes) rfl sc__law_kit.nd (pi_listK (K := K) (pv 3)) (blkOk_by (own := [("_law_call", 9)]) (N := ["_law_store", "_law_upto", "_law_most", "_law_calls_here", "_law_alike", "_law_same_here", "_law_mode", "_law_sizes", "_law_found", "_law_call", "_law_k", "_law_figure_here"]) (sc := defScope s__law_kit) (by decide +kernel)) (fun _ _ _ _ _ => (pg_name (i := 9) sc__law_kit.nd rfl (by first | exact .inl rfl | exact .inr rfl))) (fun _ _ _ _ _ => pts_nil) (fun _ _ _ _ _ => (pe_ifExp (pt_val (pv 5)) (pv 4) (pe_op op_add pe_int (pe_call O__law_pull (hr.mono (by decide)) (by rfl) T.g__law_pull T.F__law_pull.kp T.b__law_pull .nil pass0 (pa_cons (pv 0) (pa_cons (pe_op op_sub (pv 2) pe_int) pa_nil)))))))) (pss_cons (ps_set (i := 8) sc__law_kit.nd rfl (.inl rfl) (pe_lst pa_nil)) (pss_cons (ps_for PassesOwn.never rfl (pi_listK (K := K) (pv 3)) (pg_name (i := 9) sc__law_kit.nd rfl (.inl rfl)) (pss_cons (ps_for PassesOwn.never rfl (pi_range1 (by rfl) T.n_range (pa_cons (pe_callB (cl_lenK (K := K)) (by rfl) T.n_len (by decide +kernel) (pa_cons (pv 3) pa_nil)) pa_nil)) (pg_name (i := 10) sc__law_kit.nd rfl (.inl rfl)) (pss_cons (ps_set (i := 11) sc__law_kit.nd rfl (.inl rfl) (pe_call O__law_figure (hr.mono (by decide)) (by rfl) T.g__law_figure T.F__law_figure.kp T.b__law_figure .nil pass0 (pa_cons (pv 0) (pa_cons (pv 6) (pa_cons (pe_ix (ix_listK (K := K)) (pv 7) (pv 10) (fun _ _ => rfl)) pa_nil))))) (pss_cons (ps_if (PW.pt (pw_and (pt_cmpR op_ne (pe_ix (ix_listK (K := K)) (pv 3) (pv 10) (fun _ _ => rfl)) (pv 9) (nomark _)) (pw_and1 (pt_cmpR op_gt (pv 11) pe_int (nomark _))))) (pss_cons (ps_expr (pe_bm PySem.F.plainAttrs_list PySem.F.slot_list_append PySem.F.type_list_append mt_append (pv 8) (pa_cons (pe_tupF (pa_cons (pv 9) (pa_cons (pe_ix (ix_listK (K := K)) (pv 3) (pv 10) (fun _ _ => rfl)) (pa_cons (pv 11) pa_nil)))) pa_nil))) pss_nil) pss_nil) pss_nil))) pss_nil)) (pss_cons (ps_ret (pe_tupF (pa_cons (pe_callTy (cl_tupleK (K := K)) (by rfl) T.n_tuple (by decide +kernel) (pa_cons (pe_lc (own := [("_law_k", 10)]) (g := (gName 10)) (tt := tYes) rfl sc__law_kit.nd (pi_range1 (by rfl) T.n_range (pa_cons (pe_callB (cl_lenK (K := K)) (by rfl) T.n_len (by decide +kernel) (pa_cons (pv 3) pa_nil)) pa_nil)) (blkOk_by (own := [("_law_k", 10)]) (N := ["_law_store", "_law_upto", "_law_most", "_law_calls_here", "_law_alike", "_law_same_here", "_law_mode", "_law_sizes", "_law_found", "_law_call", "_law_k", "_law_figure_here"]) (sc := defScope s__law_kit) (by decide +kernel)) (fun _ _ _ _ _ => (pg_name (i := 10) sc__law_kit.nd rfl (by first | exact .inl rfl | exact .inr rfl))) (fun _ _ _ _ _ => pts_nil) (fun _ _ _ _ _ => (pe_tupF (pa_cons (pe_ix (ix_listK (K := K)) (pv 3) (pv 10) (fun _ _ => rfl)) (pa_cons (pe_ix (ix_listK (K := K)) (pv 7) (pv 10) (fun _ _ => rfl)) pa_nil))))) pa_nil)) (pa_cons (pe_callTy (cl_tupleK (K := K)) (by rfl) T.n_tuple (by decide +kernel) (pa_cons (pv 8) pa_nil)) pa_nil)))) pss_nil)))))), ?_⟩
    cases h_l_upto
    cases h_l_most
    refine nrm (σ' := [some (.ref s), some (.int a.1), some (.int a.2), none, none, none, none, none, none, none, none, none]) rfl ?_
    obtain ⟨t1, e_t1, hm⟩ := bs hm
    obtain ⟨t2, e_t2, hm⟩ := bs hm
    obtain ⟨t3, e_t3, hm⟩ := bs hm
    refine q_tupDD (σ' := fun v w => [some (.ref s), some (.int a.1), some (.int a.2), some v, some w, none, none, none, none, none, none, none]) (ev_callD (a := ((1 : Int) + t1.1)) (r := t2.1) (z' := t2.2) upd_same e_t2 (ea_cons mo_ow (ev_own rfl) (ea_d (ev_add (ev_int (K := K)) (ev_callD (a := a.1) (r := t1.1) (z' := t1.2) hs e_t1 (ea_cons mo_ow (ev_own rfl) (ea_d (ev_d (K := K) rfl (.int _)) ea_nil)))) ea_nil))) mo_dd (ev_add (ev_int (K := K)) (ev_callD (a := (a.2 - (1 : Int))) (r := t3.1) (z' := t3.2) upd_same e_t3 (ea_cons mo_ow (ev_own rfl) (ea_d (ev_sub (ev_d (K := K) rfl (.int _)) (ev_int (K := K))) ea_nil)))) mo_dd ok (fun _ _ => rfl) (fun v_l_calls_here v_l_alike G H s1 ok h_l_calls_here h_l_alike => ?_)
    have sg := sg.trans s1
    cases h_l_alike
    have ok : Ok _ (upd (upd (upd M0 s (sto t1.2)) s (sto t2.2)) s (sto t3.2)) _ := ok
    have hs : (upd (upd (upd M0 s (sto t1.2)) s (sto t2.2)) s (sto t3.2)) s = some (sto t3.2) := upd_same
    have hB : ∀ a u, a ≠ s → M0 a = some u → (upd (upd (upd M0 s (sto t1.2)) s (sto t2.2)) s (sto t3.2)) a = some u := (hB_draw (hB_draw (hB_draw hB)))
    obtain ⟨M, eM⟩ : ∃ m, m = (upd (upd (upd M0 s (sto t1.2)) s (sto t2.2)) s (sto t3.2)) := ⟨_, rfl⟩
    rw [← eM] at ok hs hB
    clear eM
    obtain ⟨t4, e_t4, hm⟩ := bs hm
    obtain ⟨t5, e_t5, hm⟩ := bs hm
    refine q_tupDD (σ' := fun v w => [some (.ref s), some (.int a.1), some (.int a.2), some v_l_calls_here, some (.int ((2 : Int) + t3.1)), some v, some w, none, none, none, none, none]) (ev_eqI (ev_callD (a := (4 : Int)) (r := t4.1) (z' := t4.2) hs e_t4 (ea_cons mo_ow (ev_own rfl) (ea_d (ev_int (K := K)) ea_nil))) (ev_int (K := K))) mo_dd (ev_callD (a := (6 : Int)) (r := t5.1) (z' := t5.2) upd_same e_t5 (ea_cons mo_ow (ev_own rfl) (ea_d (ev_int (K := K)) ea_nil))) mo_dd ok (fun _ _ => rfl) (fun v_l_same_here v_l_mode G H s1 ok h_l_same_here h_l_mode => ?_)
    have h_l_calls_here := dp_up s1 _ h_l_calls_here
    have sg := sg.trans s1
    cases h_l_same_here
    cases h_l_mode
    have ok : Ok _ (upd (upd M s (sto t4.2)) s (sto t5.2)) _ := ok
    have hs : (upd (upd M s (sto t4.2)) s (sto t5.2)) s = some (sto t5.2) := upd_same
    have hB : ∀ a u, a ≠ s → M0 a = some u → (upd (upd M s (sto t4.2)) s (sto t5.2)) a = some u := (hB_draw (hB_draw hB))
    obtain ⟨M, eM⟩ : ∃ m, m = (upd (upd M s (sto t4.2)) s (sto t5.2)) := ⟨_, rfl⟩
    rw [← eM] at ok hs hB
    clear eM
    obtain ⟨t14, e_t14, hm⟩ := bs hm
    refine q_set (σ' := fun v => [some (.ref s), some (.int a.1), some (.int a.2), some v_l_calls_here, some (.int ((2 : Int) + t3.1)), some (.bl (decide (t4.1 = (0 : Int)))), some (.int t5.1), some v, none, none, none, none]) (EvL.ev (el_lcMD (ea := Dat.str) (eb := Dat.int) (xs := t2.1) (r := t14) (hf := e_t14) (src_list (ev_d (K := K) rfl h_l_calls_here)) hs (fun x6 _ x6z _ Mx10 _ _ he11 sM9 hzx6 sG8 hv7 => by (obtain ⟨t13, e_t13, he11⟩ := bs he11); cases he11; exact (tg_name ⟨rfl, (ev_if (P := DD K (Dat.int t13.1)) (et_B (ev_d (K := K) rfl (.bl _))) (fun eb => by have e1 := cond_t eb e_t13; cases e1; rw [upd_back hzx6]; exact (ev_d (K := K) rfl (.int _))) (fun eb => by have e1 := cond_f eb e_t13; (obtain ⟨t12, e_t12, e1⟩ := bs e1); cases e1; exact (ev_add (ev_int (K := K)) (ev_callD (a := (a.2 - (1 : Int))) (r := t12.1) (z' := t12.2) hzx6 e_t12 (ea_cons mo_ow (ev_own rfl) (ea_d (ev_sub (ev_d (K := K) rfl (.int _)) (ev_int (K := K))) ea_nil))))))⟩)))) ok (fun _ => rfl) (fun v_l_sizes G H s1 ok h_l_sizes => ?_)
    have h_l_calls_here := dp_up s1 _ h_l_calls_here
    have sg := sg.trans s1
    have ok : Ok _ (upd M s (sto t14.2)) _ := ok
    have hs : (upd M s (sto t14.2)) s = some (sto t14.2) := upd_same
    have hB : ∀ a u, a ≠ s → M0 a = some u → (upd M s (sto t14.2)) a = some u := (hB_draw hB)
    obtain ⟨M, eM⟩ : ∃ m, m = (upd M s (sto t14.2)) := ⟨_, rfl⟩
    rw [← eM] at ok hs hB
    clear eM
    refine q_setL (σ' := fun v => [some (.ref s), some (.int a.1), some (.int a.2), some v_l_calls_here, some (.int ((2 : Int) + t3.1)), some (.bl (decide (t4.1 = (0 : Int)))), some (.int t5.1), some v_l_sizes, some v, none, none, none]) (el_lst (ea_nilD (K := K))) ok (fun _ => rfl) (fun p_l_found vs_l_found G H s1 ok hn hd_l_found => ?_)
    have h_l_calls_here := dp_up s1 _ h_l_calls_here
    have h_l_sizes := dp_up s1 _ h_l_sizes
    have sg := sg.trans s1
    have n_l_store_l_found : s ≠ p_l_found := ne_of_none hs hn
    have n_l_found_l_store := n_l_store_l_found.symm
    have h0_l_found : M0 p_l_found = none := hB_none (M := M) hB hs hn
    have hd_l_found : DqAll K G vs_l_found (([] : (List (Str × Str × Int))).map (eP3 Dat.str Dat.str Dat.int)) := hd_l_found
    have ok : Ok _ (upd M p_l_found (.lst vs_l_found)) _ := ok
    have hs : (upd M p_l_found (.lst vs_l_found)) s = some (sto t14.2) := (up_ne n_l_store_l_found hs)
    have hB : ∀ a u, a ≠ s → M0 a = some u → (upd M p_l_found (.lst vs_l_found)) a = some u := (hB_own hB h0_l_found)
    have hp_l_found : (upd M p_l_found (.lst vs_l_found)) p_l_found = some (.lst vs_l_found) := upd_same
    obtain ⟨M, eM⟩ : ∃ m, m = (upd M p_l_found (.lst vs_l_found)) := ⟨_, rfl⟩
    rw [← eM] at ok hs hB hp_l_found
    clear eM
    obtain ⟨fin15, e_fin15, hm⟩ := bs hm
    have hmo18 := hm
    refine q_forO (ea := Dat.str) (src_list (ev_d (K := K) rfl h_l_calls_here)) ok (fun (st16 : (List (Str × Str × Int)) × Sto) σ1 G1 M1 => ∃ (y_l_k : Option V) (y_l_figure_here : Option V) (y_l_call : Option V) (vs_l_found : List V), σ1 = [some (.ref s), some (.int a.1), some (.int a.2), some v_l_calls_here, some (.int ((2 : Int) + t3.1)), some (.bl (decide (t4.1 = (0 : Int)))), some (.int t5.1), some v_l_sizes, some (.ref p_l_found), y_l_call, y_l_k, y_l_figure_here] ∧ (DqAll K G1 vs_l_found (st16.1.map (eP3 Dat.str Dat.str Dat.int))) ∧ (M1 p_l_found = some (.lst vs_l_found)) ∧ (M1 s = some (sto st16.2)) ∧ (∀ a u, a ≠ s → M0 a = some u → M1 a = some u)) e_fin15 (fun G1 s1 => ⟨_, _, _, _, rfl, dpAll_up s1 _ hd_l_found, hp_l_found, hs, hB⟩) (by rintro _ _ _ _ _ ⟨y_l_k, y_l_figure_here, y_l_call, vs_l_found, rfl, hd_l_found, hp_l_found, hs, hB⟩ s2; exact ⟨_, _, _, _, rfl, dpAll_up s2 _ hd_l_found, hp_l_found, hs, hB⟩) (fun x17 xv20 st16 st' σ1 G M H N hm hj s1 ok hv hN => ?_) (fun σ1 G M H s1 ok hj => ?_)
    · obtain ⟨y_l_k, y_l_figure_here, y_l_call, vs_l_found, rfl, hd_l_found, hp_l_found, hs, hB⟩ := hj
      have h_l_calls_here := dp_up s1 _ h_l_calls_here
      have h_l_sizes := dp_up s1 _ h_l_sizes
      have sg := sg.trans s1
      have sl21 := Same.refl G
      refine gn ?_
      have h_l_call := hv
      refine nrm (σ' := [some (.ref s), some (.int a.1), some (.int a.2), some v_l_calls_here, some (.int ((2 : Int) + t3.1)), some (.bl (decide (t4.1 = (0 : Int)))), some (.int t5.1), some v_l_sizes, some (.ref p_l_found), some xv20, y_l_k, y_l_figure_here]) rfl ?_
      obtain ⟨t22, e_t22, hm⟩ := bs hm
      obtain ⟨fin23, e_fin23, hm⟩ := bs hm
      have hmo26 := hm
      refine q_forO (ea := Dat.int) (src_rngO e_t22 (ea_d (ev_lenLM (e := Dat.str) (ea_d (ev_d (K := K) rfl h_l_calls_here) ea_nil)) ea_nil)) ok (fun (st24 : (List (Str × Str × Int)) × Sto) σ1 G1 M1 => ∃ (y_l_figure_here : Option V) (y_l_k : Option V) (vs_l_found : List V), σ1 = [some (.ref s), some (.int a.1), some (.int a.2), some v_l_calls_here, some (.int ((2 : Int) + t3.1)), some (.bl (decide (t4.1 = (0 : Int)))), some (.int t5.1), some v_l_sizes, some (.ref p_l_found), some xv20, y_l_k, y_l_figure_here] ∧ (DqAll K G1 vs_l_found (st24.1.map (eP3 Dat.str Dat.str Dat.int))) ∧ (M1 p_l_found = some (.lst vs_l_found)) ∧ (M1 s = some (sto st24.2)) ∧ (∀ a u, a ≠ s → M0 a = some u → M1 a = some u)) e_fin23 (fun G1 s1 => ⟨_, _, _, rfl, dpAll_up s1 _ hd_l_found, hp_l_found, hs, hB⟩) (by rintro _ _ _ _ _ ⟨y_l_figure_here, y_l_k, vs_l_found, rfl, hd_l_found, hp_l_found, hs, hB⟩ s2; exact ⟨_, _, _, rfl, dpAll_up s2 _ hd_l_found, hp_l_found, hs, hB⟩) (fun x25 xv28 st24 st' σ1 G M H N hm hj s1 ok hv hN => ?_) (fun σ1 G M H s1 ok hj => ?_)
      · obtain ⟨y_l_figure_here, y_l_k, vs_l_found, rfl, hd_l_found, hp_l_found, hs, hB⟩ := hj
        have h_l_calls_here := dp_up s1 _ h_l_calls_here
        have h_l_sizes := dp_up s1 _ h_l_sizes
        have h_l_call := dp_up s1 _ h_l_call
        have sg := sg.trans s1
        have sl21 := sl21.trans s1
        have sl29 := Same.refl G
        refine gn ?_
        have h_l_k := hv
        cases h_l_k
        refine nrm (σ' := [some (.ref s), some (.int a.1), some (.int a.2), some v_l_calls_here, some (.int ((2 : Int) + t3.1)), some (.bl (decide (t4.1 = (0 : Int)))), some (.int t5.1), some v_l_sizes, some (.ref p_l_found), some xv20, some (.int x25), y_l_figure_here]) rfl ?_
        obtain ⟨t30, e_t30, hm⟩ := bs hm
        obtain ⟨t31, e_t31, hm⟩ := bs hm
        refine q_set (σ' := fun v => [some (.ref s), some (.int a.1), some (.int a.2), some v_l_calls_here, some (.int ((2 : Int) + t3.1)), some (.bl (decide (t4.1 = (0 : Int)))), some (.int t5.1), some v_l_sizes, some (.ref p_l_found), some xv20, some (.int x25), some v]) (ev_callD (a := (t5.1, t30)) (r := t31.1) (z' := t31.2) hs e_t31 (ea_cons mo_ow (ev_own rfl) (ea_d (ev_d (K := K) rfl (.int _)) (ea_d (ev_ixLM (e := Dat.int) e_t30 (ev_d (K := K) rfl h_l_sizes) (ev_d (K := K) rfl (.int _))) ea_nil)))) ok (fun _ => rfl) (fun v_l_figure_here G H s1 ok h_l_figure_here => ?_)
        have h_l_calls_here := dp_up s1 _ h_l_calls_here
        have h_l_sizes := dp_up s1 _ h_l_sizes
        have hd_l_found := dpAll_up s1 _ hd_l_found
        have h_l_call := dp_up s1 _ h_l_call
        have sg := sg.trans s1
        have sl29 := sl29.trans s1
        have sl21 := sl21.trans s1
        cases h_l_figure_here
        have ok : Ok _ (upd M s (sto t31.2)) _ := ok
        have hs : (upd M s (sto t31.2)) s = some (sto t31.2) := upd_same
        have hB : ∀ a u, a ≠ s → M0 a = some u → (upd M s (sto t31.2)) a = some u := (hB_draw hB)
        have hp_l_found : (upd M s (sto t31.2)) p_l_found = some (.lst vs_l_found) := (up_ne n_l_found_l_store hp_l_found)
        obtain ⟨M, eM⟩ : ∃ m, m = (upd M s (sto t31.2)) := ⟨_, rfl⟩
        rw [← eM] at ok hs hB hp_l_found
        clear eM
        obtain ⟨t32, e_t32, hm⟩ := bs hm
        refine q_if (et_and (et_test (ev_neS (ev_ixLM (e := Dat.str) e_t32 (ev_d (K := K) rfl h_l_calls_here) (ev_d (K := K) rfl (.int _))) (ev_d (K := K) rfl h_l_call))) fun _ => (et_test (ev_gt (ev_d (K := K) rfl (.int _)) (ev_int (K := K))))) ok (fun hb G H s1 ok => ?_) (fun hb G H s1 ok => ?_)
        · have hm := cond_t hb hm
          have h_l_calls_here := dp_up s1 _ h_l_calls_here
          have h_l_sizes := dp_up s1 _ h_l_sizes
          have hd_l_found := dpAll_up s1 _ hd_l_found
          have h_l_call := dp_up s1 _ h_l_call
          have sg := sg.trans s1
          have sl29 := sl29.trans s1
          have sl21 := sl21.trans s1
          obtain ⟨t33, e_t33, hm⟩ := bs hm
          obtain ⟨t34, e_t34, hm⟩ := bs hm
          obtain ⟨hl_t34, ea_t34⟩ := appO_of e_t34
          refine q_append (ev_own rfl) (ea_d (ev_tup (ea_consD (ev_d (K := K) rfl h_l_call) (ea_consD (ev_ixLM (e := Dat.str) e_t33 (ev_d (K := K) rfl h_l_calls_here) (ev_d (K := K) rfl (.int _))) (ea_consD (ev_d (K := K) rfl (.int _)) (ea_nilD (K := K)))))) ea_nil) hp_l_found hp_l_found (by rw [dpAll_len hd_l_found, List.length_map]; exact szlt hl_t34) ok (fun v G H s1 ok hv => ?_)
          have h_l_calls_here := dp_up s1 _ h_l_calls_here
          have h_l_sizes := dp_up s1 _ h_l_sizes
          have hd_l_found := dpAll_up s1 _ hd_l_found
          have h_l_call := dp_up s1 _ h_l_call
          have sg := sg.trans s1
          have sl29 := sl29.trans s1
          have sl21 := sl21.trans s1
          have hd_l_found : DqAll K G (vs_l_found ++ [v]) (t34.map (eP3 Dat.str Dat.str Dat.int)) := by rw [ea_t34, List.map_append]; exact dpAll_app hd_l_found (.cons hv .nil)
          have ok : Ok _ (upd M p_l_found (.lst (vs_l_found ++ [v]))) _ := ok
          have hs : (upd M p_l_found (.lst (vs_l_found ++ [v]))) s = some (sto t31.2) := (up_ne n_l_store_l_found hs)
          have hB : ∀ a u, a ≠ s → M0 a = some u → (upd M p_l_found (.lst (vs_l_found ++ [v]))) a = some u := (hB_own hB h0_l_found)
          have hp_l_found : (upd M p_l_found (.lst (vs_l_found ++ [v]))) p_l_found = some (.lst (vs_l_found ++ [v])) := upd_same
          obtain ⟨M, eM⟩ : ∃ m, m = (upd M p_l_found (.lst (vs_l_found ++ [v]))) := ⟨_, rfl⟩
          rw [← eM] at ok hs hB hp_l_found
          clear eM
          obtain ⟨vs_l_found, e_vs⟩ : ∃ m, m = (vs_l_found ++ [v]) := ⟨_, rfl⟩
          rw [← e_vs] at hp_l_found hd_l_found
          clear e_vs
          refine q_nilU ?_
          refine q_nil ?_
          cases hm
          exact hN _ _ _ _ sl29 ok ⟨_, _, _, rfl, hd_l_found, hp_l_found, hs, hB⟩
        · have hm := cond_f hb hm
          have h_l_calls_here := dp_up s1 _ h_l_calls_here
          have h_l_sizes := dp_up s1 _ h_l_sizes
          have hd_l_found := dpAll_up s1 _ hd_l_found
          have h_l_call := dp_up s1 _ h_l_call
          have sg := sg.trans s1
          have sl29 := sl29.trans s1
          have sl21 := sl21.trans s1
          refine q_nilU ?_
          refine q_nil ?_
          cases hm
          exact hN _ _ _ _ sl29 ok ⟨_, _, _, rfl, hd_l_found, hp_l_found, hs, hB⟩
      · obtain ⟨y_l_figure_here, y_l_k, vs_l_found, rfl, hd_l_found, hp_l_found, hs, hB⟩ := hj
        have h_l_calls_here := dp_up s1 _ h_l_calls_here
        have h_l_sizes := dp_up s1 _ h_l_sizes
        have h_l_call := dp_up s1 _ h_l_call
        have sg := sg.trans s1
        have sl21 := sl21.trans s1
        refine q_nil ?_
        cases hm
        exact hN _ _ _ _ sl21 ok ⟨_, _, _, _, rfl, hd_l_found, hp_l_found, hs, hB⟩
    · obtain ⟨y_l_k, y_l_figure_here, y_l_call, vs_l_found, rfl, hd_l_found, hp_l_found, hs, hB⟩ := hj
      have h_l_calls_here := dp_up s1 _ h_l_calls_here
      have h_l_sizes := dp_up s1 _ h_l_sizes
      have sg := sg.trans s1
      obtain ⟨t35, e_t35, hm⟩ := bs hm
      obtain ⟨t44, e_t44, hm⟩ := bs hm
      refine q_ret (ev_tup (ea_consD (ev_tupL (ea_d (EvL.ev (el_lcM (ea := Dat.int) (eb := (eP2 Dat.str Dat.int)) (xs := t35) (ys := t44) (hf := e_t44) (src_rngO e_t35 (ea_d (ev_lenLM (e := Dat.str) (ea_d (ev_d (K := K) rfl h_l_calls_here) ea_nil)) ea_nil)) (fun x36 _ Mx40 _ _ he41 sM39 sG38 hv37 => by (obtain ⟨t42, e_t42, he41⟩ := bs he41); (obtain ⟨t43, e_t43, he41⟩ := bs he41); cases he41; exact (tg_name ⟨rfl, (ev_tup (ea_consD (ev_ixLM (e := Dat.str) e_t42 (ev_d (K := K) rfl (dp_up sG38 _ h_l_calls_here)) (ev_d (K := K) rfl hv37)) (ea_consD (ev_ixLM (e := Dat.int) e_t43 (ev_d (K := K) rfl (dp_up sG38 _ h_l_sizes)) (ev_d (K := K) rfl hv37)) (ea_nilD (K := K)))))⟩)))) ea_nil)) (ea_consD (ev_tupO hp_l_found hd_l_found (ea_cons mo_ow (ev_own rfl) ea_nil)) (ea_nilD (K := K))))) ok (fun v G H s1 ok hv => ?_)
      have sg := sg.trans s1
      cases hm
      exact q v G H sg (ok.less (same_fin hB hs)) hv
/-! ### _law_tune -/
theorem sc__law_tune : FnScope ["_law_store", "_law_kit_here", "_law_deep_here", "_law_wide", "_law_often", "_law_found", "_law_turn"] ["_law_store", "_law_kit_here", "_law_deep_here", "_law_wide", "_law_often"] (defScope s__law_tune) := ⟨rfl, rfl, rfl, by decide +kernel, rfl, by decide +kernel, by decide +kernel⟩
def a__law_tune (K : PySem.W.Frag) (a : ((List (Str × Int)) × (List (Str × Str × Int))) × Int × Int × Int) : List V → Hp → Prop := conP (DD K ((eP2 (eT (eP2 Dat.str Dat.int)) (eT (eP3 Dat.str Dat.str Dat.int))) a.1)) (conP (DD K (Dat.int a.2.1)) (conP (DD K (Dat.int a.2.2.1)) (conP (DD K (Dat.int a.2.2.2)) (nilP))))
def m__law_tune : Nat → (((List (Str × Int)) × (List (Str × Str × Int))) × Int × Int × Int) → Sto → Option ((List Dat) × Sto)
  | 0, _, _ => none
  | n + 1, a, z => (m__law_pull (a.2.2.1 + (1 : Int)) z).bind fun t1 => (rngO t1.1).bind fun t2 => (forO (fun (st4 : (List Dat) × Sto) (x5 : Int) => (cond (decide ((1 : Int) < a.2.1)) ((m__law_pull (3 : Int) st4.2).bind fun t10 => some ((decide (t10.1 = (0 : Int))), t10.2)) (some (false, st4.2))).bind fun t11 => cond t11.1 ((m__law_tune n (a.1, (a.2.1 - (1 : Int)), a.2.2.1, a.2.2.2) t11.2).bind fun t12 => (m__law_pull a.2.2.2 t12.2).bind fun t13 => (appO st4.1 ((eP2 (eT id) Dat.int) (t12.1, ((1 : Int) + t13.1)))).bind fun t14 => some (t14, t13.2)) ((m__law_pull (a.1.1.length : Int) t11.2).bind fun t15 => (atI a.1.1 t15.1).bind fun t16 => (appO st4.1 (Dat.str t16.1)).bind fun t17 => some (t17, t15.2))) t2 (([] : (List Dat)), t1.2)).bind fun fin3 => some (fin3.1, fin3.2)
abbrev sp__law_tune [Tb] (K : PySem.W.Frag) (n : Nat) : Sp := spD (a__law_tune K) (m__law_tune n) fun r => DD K ((eT id) r)
theorem ok__law_tune [Tb] {P : Program} {w : World} {K : PySem.W.Frag} {mg : Str → Option Value} {base : Heap} (T : Txt K mg) (O__law_pull : FnOk P w K mg base CX0 1 T.a__law_pull T.d__law_pull ["_law_store", "_law_many"] (sp__law_pull K)) : ∀ n : Nat, FnOk P w K mg base CX0 (n + 2) T.a__law_tune T.d__law_tune ["_law_store", "_law_kit_here", "_law_deep_here", "_law_wide", "_law_often"] (sp__law_tune K n)
  | 0 => by
    refine T.F__law_tune.ok sc__law_tune (fun vs H Q E h => ?_) (fun cdv A outer s0 H vs Q E hr h => ?_)
    · obtain ⟨G, M0, s, z, z1, a, r, ws, rfl, ok, hs, ⟨v_l_kit_here, _, rfl, h_l_kit_here, v_l_deep_here, _, rfl, h_l_deep_here, v_l_wide, _, rfl, h_l_wide, v_l_often, _, rfl, h_l_often, rfl⟩, hm, q⟩ := h
      unfold m__law_tune at hm
      cases hm
    · obtain ⟨G, M0, s, z, z1, a, r, ws, rfl, ok, hs, ⟨v_l_kit_here, _, rfl, h_l_kit_here, v_l_deep_here, _, rfl, h_l_deep_here, v_l_wide, _, rfl, h_l_wide, v_l_often, _, rfl, h_l_often, rfl⟩, hm, q⟩ := h
      unfold m__law_tune at hm
      cases hm
  | n + 1 => by
    have O__law_tune := ok__law_tune (P := P) (w := w) (base := base) T O__law_pull n
    refine T.F__law_tune.ok sc__law_tune (fun vs H Q E h => ?_) (fun cdv A outer s0 H vs Q E hr h => ?_)
    · obtain ⟨G, M0, s, z, z1, a, r, ws, rfl, ok, hs, ⟨v_l_kit_here, _, rfl, h_l_kit_here, v_l_deep_here, _, rfl, h_l_deep_here, v_l_wide, _, rfl, h_l_wide, v_l_often, _, rfl, h_l_often, rfl⟩, hm, q⟩ := h
      rfl
    · obtain ⟨G, M0, s, z, z1, a, r, ws, rfl, ok, hs, ⟨v_l_kit_here, _, rfl, h_l_kit_here, v_l_deep_here, _, rfl, h_l_deep_here, v_l_wide, _, rfl, h_l_wide, v_l_often, _, rfl, h_l_often, rfl⟩, hm, q⟩ := h
      unfold m__law_tune at hm
      have sg := Same.refl G
      have hB : ∀ a u, a ≠ s → M0 a = some u → M0 a = some u := fun _ _ _ h => h
      refine ⟨_, (pss_cons (ps_set (i := 5) sc__law_tune.nd rfl (.inl rfl) (pe_lst pa_nil)) (pss_cons (ps_for PassesOwn.never rfl (pi_range1 (by rfl) T.n_range (pa_cons (pe_call O__law_pull (hr.mono (by omega)) (by rfl) T.g__law_pull T.F__law_pull.kp T.b__law_pull .nil pass0 (pa_cons (pv 0) (pa_cons (pe_op op_add (pv 3) pe_int) pa_nil))) pa_nil)) (pg_name (i := 6) sc__law_tune.nd rfl (.inl rfl)) (pss_cons (ps_if (PW.pt (pw_and (pt_cmpR op_gt (pv 2) pe_int (nomark _)) (pw_and1 (pt_cmpR op_eq (pe_call O__law_pull (hr.mono (by omega)) (by rfl) T.g__law_pull T.F__law_pull.kp T.b__law_pull .nil pass0 (pa_cons (pv 0) (pa_cons pe_int pa_nil))) pe_int (nomark _))))) (pss_cons (ps_expr (pe_bm PySem.F.plainAttrs_list PySem.F.slot_list_append PySem.F.type_list_append mt_append (pv 5) (pa_cons (pe_tupF (pa_cons (pe_call O__law_tune (hr.mono (by omega)) (by rfl) T.g__law_tune T.F__law_tune.kp T.b__law_tune .nil pass0 (pa_cons (pv 0) (pa_cons (pv 1) (pa_cons (pe_op op_sub (pv 2) pe_int) (pa_cons (pv 3) (pa_cons (pv 4) pa_nil)))))) (pa_cons (pe_op op_add pe_int (pe_call O__law_pull (hr.mono (by omega)) (by rfl) T.g__law_pull T.F__law_pull.kp T.b__law_pull .nil pass0 (pa_cons (pv 0) (pa_cons (pv 4) pa_nil)))) pa_nil))) pa_nil))) pss_nil) (pss_cons (ps_expr (pe_bm PySem.F.plainAttrs_list PySem.F.slot_list_append PySem.F.type_list_append mt_append (pv 5) (pa_cons (pe_ix (ix_tupK (K := K)) (pe_ix (ix_tupK (K := K)) (pe_ix (ix_tupK (K := K)) (pv 1) pe_int (fun _ _ => rfl)) (pe_call O__law_pull (hr.mono (by omega)) (by rfl) T.g__law_pull T.F__law_pull.kp T.b__law_pull .nil pass0 (pa_cons (pv 0) (pa_cons (pe_callB (cl_lenK (K := K)) (by rfl) T.n_len (by decide +kernel) (pa_cons (pe_ix (ix_tupK (K := K)) (pv 1) pe_int (fun _ _ => rfl)) pa_nil)) pa_nil))) (fun _ _ => rfl)) pe_int (fun _ _ => rfl)) pa_nil))) pss_nil)) pss_nil)) (pss_cons (ps_ret (pe_callTy (cl_tupleK (K := K)) (by rfl) T.n_tuple (by decide +kernel) (pa_cons (pv 5) pa_nil))) pss_nil))), ?_⟩
      cases h_l_deep_here
      cases h_l_wide
      cases h_l_often
      refine nrm (σ' := [some (.ref s), some v_l_kit_here, some (.int a.2.1), some (.int a.2.2.1), some (.int a.2.2.2), none, none]) rfl ?_
      refine q_setL (σ' := fun v => [some (.ref s), some v_l_kit_here, some (.int a.2.1), some (.int a.2.2.1), some (.int a.2.2.2), some v, none]) (el_lst (ea_nilD (K := K))) ok (fun _ => rfl) (fun p_l_found vs_l_found G H s1 ok hn hd_l_found => ?_)
      have h_l_kit_here := dp_up s1 _ h_l_kit_here
      have sg := sg.trans s1
      have n_l_store_l_found : s ≠ p_l_found := ne_of_none hs hn
      have n_l_found_l_store := n_l_store_l_found.symm
      have h0_l_found : M0 p_l_found = none := hB_none (M := M0) hB hs hn
      have hd_l_found : DqAll K G vs_l_found (([] : (List Dat)).map id) := hd_l_found
      have ok : Ok _ (upd M0 p_l_found (.lst vs_l_found)) _ := ok
      have hs : (upd M0 p_l_found (.lst vs_l_found)) s = some (sto z) := (up_ne n_l_store_l_found hs)
      have hB : ∀ a u, a ≠ s → M0 a = some u → (upd M0 p_l_found (.lst vs_l_found)) a = some u := (hB_own hB h0_l_found)
      have hp_l_found : (upd M0 p_l_found (.lst vs_l_found)) p_l_found = some (.lst vs_l_found) := upd_same
      obtain ⟨M, eM⟩ : ∃ m, m = (upd M0 p_l_found (.lst vs_l_found)) := ⟨_, rfl⟩
      rw [← eM] at ok hs hB hp_l_found
      clear eM
      obtain ⟨t1, e_t1, hm⟩ := bs hm
      obtain ⟨t2, e_t2, hm⟩ := bs hm
      obtain ⟨fin3, e_fin3, hm⟩ := bs hm
      have hmo6 := hm
      refine q_forO (ea := Dat.int) (src_rngO e_t2 (ea_d (ev_callD (a := (a.2.2.1 + (1 : Int))) (r := t1.1) (z' := t1.2) hs e_t1 (ea_cons mo_ow (ev_own rfl) (ea_d (ev_add (ev_d (K := K) rfl (.int _)) (ev_int (K := K))) ea_nil))) ea_nil)) ok (fun (st4 : (List Dat) × Sto) σ1 G1 M1 => ∃ (y_l_turn : Option V) (vs_l_found : List V), σ1 = [some (.ref s), some v_l_kit_here, some (.int a.2.1), some (.int a.2.2.1), some (.int a.2.2.2), some (.ref p_l_found), y_l_turn] ∧ (DqAll K G1 vs_l_found (st4.1.map id)) ∧ (M1 p_l_found = some (.lst vs_l_found)) ∧ (M1 s = some (sto st4.2)) ∧ (∀ a u, a ≠ s → M0 a = some u → M1 a = some u)) e_fin3 (fun G1 s1 => ⟨_, _, rfl, dpAll_up s1 _ hd_l_found, (up_ne n_l_found_l_store hp_l_found), upd_same, (hB_draw hB)⟩) (by rintro _ _ _ _ _ ⟨y_l_turn, vs_l_found, rfl, hd_l_found, hp_l_found, hs, hB⟩ s2; exact ⟨_, _, rfl, dpAll_up s2 _ hd_l_found, hp_l_found, hs, hB⟩) (fun x5 xv8 st4 st' σ1 G M H N hm hj s1 ok hv hN => ?_) (fun σ1 G M H s1 ok hj => ?_)
      · obtain ⟨y_l_turn, vs_l_found, rfl, hd_l_found, hp_l_found, hs, hB⟩ := hj
        have h_l_kit_here := dp_up s1 _ h_l_kit_here
        have sg := sg.trans s1
        have sl9 := Same.refl G
        refine gn ?_
        have h_l_turn := hv
        cases h_l_turn
        refine nrm (σ' := [some (.ref s), some v_l_kit_here, some (.int a.2.1), some (.int a.2.2.1), some (.int a.2.2.2), some (.ref p_l_found), some (.int x5)]) rfl ?_
        obtain ⟨t11, e_t11, hm⟩ := bs hm
        refine q_if (et_andG (c := t11.1) (M2 := upd M s (sto t11.2)) (et_test (ev_gt (ev_d (K := K) rfl (.int _)) (ev_int (K := K)))) (fun eb => by have e1 := cond_t eb e_t11; (obtain ⟨t10, e_t10, e1⟩ := bs e1); cases e1; exact (et_test (ev_eqI (ev_callD (a := (3 : Int)) (r := t10.1) (z' := t10.2) hs e_t10 (ea_cons mo_ow (ev_own rfl) (ea_d (ev_int (K := K)) ea_nil))) (ev_int (K := K))))) (fun eb => by have e1 := cond_f eb e_t11; cases e1; exact ⟨rfl, upd_back hs⟩)) ok (fun hb G H s1 ok => ?_) (fun hb G H s1 ok => ?_)
        · have hm := cond_t hb hm
          have h_l_kit_here := dp_up s1 _ h_l_kit_here
          have hd_l_found := dpAll_up s1 _ hd_l_found
          have sg := sg.trans s1
          have sl9 := sl9.trans s1
          have ok : Ok _ (upd M s (sto t11.2)) _ := ok
          have hs : (upd M s (sto t11.2)) s = some (sto t11.2) := upd_same
          have hB : ∀ a u, a ≠ s → M0 a = some u → (upd M s (sto t11.2)) a = some u := (hB_draw hB)
          have hp_l_found : (upd M s (sto t11.2)) p_l_found = some (.lst vs_l_found) := (up_ne n_l_found_l_store hp_l_found)
          obtain ⟨M, eM⟩ : ∃ m, m = (upd M s (sto t11.2)) := ⟨_, rfl⟩
          rw [← eM] at ok hs hB hp_l_found
          clear eM
          obtain ⟨t12, e_t12, hm⟩ := bs hm
          obtain ⟨t13, e_t13, hm⟩ := bs hm
          obtain ⟨t14, e_t14, hm⟩ := bs hm
          obtain ⟨hl_t14, ea_t14⟩ := appO_of e_t14
          refine q_append (ev_own rfl) (ea_d (ev_tup (ea_consD (ev_callD (a := (a.1, (a.2.1 - (1 : Int)), a.2.2.1, a.2.2.2)) (r := t12.1) (z' := t12.2) hs e_t12 (ea_cons mo_ow (ev_own rfl) (ea_d (ev_d (K := K) rfl h_l_kit_here) (ea_d (ev_sub (ev_d (K := K) rfl (.int _)) (ev_int (K := K))) (ea_d (ev_d (K := K) rfl (.int _)) (ea_d (ev_d (K := K) rfl (.int _)) ea_nil)))))) (ea_consD (ev_add (ev_int (K := K)) (ev_callD (a := a.2.2.2) (r := t13.1) (z' := t13.2) upd_same e_t13 (ea_cons mo_ow (ev_own rfl) (ea_d (ev_d (K := K) rfl (.int _)) ea_nil)))) (ea_nilD (K := K))))) ea_nil) hp_l_found (up_ne n_l_found_l_store (up_ne n_l_found_l_store hp_l_found)) (by rw [dpAll_len hd_l_found, List.length_map]; exact szlt hl_t14) ok (fun v G H s1 ok hv => ?_)
          have h_l_kit_here := dp_up s1 _ h_l_kit_here
          have hd_l_found := dpAll_up s1 _ hd_l_found
          have sg := sg.trans s1
          have sl9 := sl9.trans s1
          have hd_l_found : DqAll K G (vs_l_found ++ [v]) (t14.map id) := by rw [ea_t14, List.map_append]; exact dpAll_app hd_l_found (.cons hv .nil)
          have ok : Ok _ (upd (upd (upd M s (sto t12.2)) s (sto t13.2)) p_l_found (.lst (vs_l_found ++ [v]))) _ := ok
          have hs : (upd (upd (upd M s (sto t12.2)) s (sto t13.2)) p_l_found (.lst (vs_l_found ++ [v]))) s = some (sto t13.2) := (up_ne n_l_store_l_found upd_same)
          have hB : ∀ a u, a ≠ s → M0 a = some u → (upd (upd (upd M s (sto t12.2)) s (sto t13.2)) p_l_found (.lst (vs_l_found ++ [v]))) a = some u := (hB_own (hB_draw (hB_draw hB)) h0_l_found)
          have hp_l_found : (upd (upd (upd M s (sto t12.2)) s (sto t13.2)) p_l_found (.lst (vs_l_found ++ [v]))) p_l_found = some (.lst (vs_l_found ++ [v])) := upd_same
          obtain ⟨M, eM⟩ : ∃ m, m = (upd (upd (upd M s (sto t12.2)) s (sto t13.2)) p_l_found (.lst (vs_l_found ++ [v]))) := ⟨_, rfl⟩
          rw [← eM] at ok hs hB hp_l_found
          clear eM
          obtain ⟨vs_l_found, e_vs⟩ : ∃ m, m = (vs_l_found ++ [v]) := ⟨_, rfl⟩
          rw [← e_vs] at hp_l_found hd_l_found
          clear e_vs
          refine q_nilU ?_
          refine q_nil ?_
          cases hm
          exact hN _ _ _ _ sl9 ok ⟨_, _, rfl, hd_l_found, hp_l_found, hs, hB⟩
        · have hm := cond_f hb hm
          have h_l_kit_here := dp_up s1 _ h_l_kit_here
          have hd_l_found := dpAll_up s1 _ hd_l_found
          have sg := sg.trans s1
          have sl9 := sl9.trans s1
          have ok : Ok _ (upd M s (sto t11.2)) _ := ok
          have hs : (upd M s (sto t11.2)) s = some (sto t11.2) := upd_same
          have hB : ∀ a u, a ≠ s → M0 a = some u → (upd M s (sto t11.2)) a = some u := (hB_draw hB)
          have hp_l_found : (upd M s (sto t11.2)) p_l_found = some (.lst vs_l_found) := (up_ne n_l_found_l_store hp_l_found)
          obtain ⟨M, eM⟩ : ∃ m, m = (upd M s (sto t11.2)) := ⟨_, rfl⟩
          rw [← eM] at ok hs hB hp_l_found
          clear eM
          obtain ⟨t15, e_t15, hm⟩ := bs hm
          obtain ⟨t16, e_t16, hm⟩ := bs hm
          obtain ⟨t17, e_t17, hm⟩ := bs hm
          obtain ⟨hl_t17, ea_t17⟩ := appO_of e_t17
          refine q_append (ev_own rfl) (ea_d (ev_ixT (d := Dat.str t16.1) rfl (ev_ixTM (e := (eP2 Dat.str Dat.int)) e_t16 (ev_ixT (d := (eT (eP2 Dat.str Dat.int)) a.1.1) rfl (ev_d (K := K) rfl h_l_kit_here) ev_int) (ev_callD (a := (a.1.1.length : Int)) (r := t15.1) (z' := t15.2) hs e_t15 (ea_cons mo_ow (ev_own rfl) (ea_d (ev_lenTM (e := (eP2 Dat.str Dat.int)) (ea_d (ev_ixT (d := (eT (eP2 Dat.str Dat.int)) a.1.1) rfl (ev_d (K := K) rfl h_l_kit_here) ev_int) ea_nil)) ea_nil)))) ev_int) ea_nil) hp_l_found (up_ne n_l_found_l_store hp_l_found) (by rw [dpAll_len hd_l_found, List.length_map]; exact szlt hl_t17) ok (fun v G H s1 ok hv => ?_)
          have h_l_kit_here := dp_up s1 _ h_l_kit_here
          have hd_l_found := dpAll_up s1 _ hd_l_found
          have sg := sg.trans s1
          have sl9 := sl9.trans s1
          have hd_l_found : DqAll K G (vs_l_found ++ [v]) (t17.map id) := by rw [ea_t17, List.map_append]; exact dpAll_app hd_l_found (.cons hv .nil)
          have ok : Ok _ (upd (upd M s (sto t15.2)) p_l_found (.lst (vs_l_found ++ [v]))) _ := ok
          have hs : (upd (upd M s (sto t15.2)) p_l_found (.lst (vs_l_found ++ [v]))) s = some (sto t15.2) := (up_ne n_l_store_l_found upd_same)
          have hB : ∀ a u, a ≠ s → M0 a = some u → (upd (upd M s (sto t15.2)) p_l_found (.lst (vs_l_found ++ [v]))) a = some u := (hB_own (hB_draw hB) h0_l_found)
          have hp_l_found : (upd (upd M s (sto t15.2)) p_l_found (.lst (vs_l_found ++ [v]))) p_l_found = some (.lst (vs_l_found ++ [v])) := upd_same
          obtain ⟨M, eM⟩ : ∃ m, m = (upd (upd M s (sto t15.2)) p_l_found (.lst (vs_l_found ++ [v]))) := ⟨_, rfl⟩
          rw [← eM] at ok hs hB hp_l_found
          clear eM
          obtain ⟨vs_l_found, e_vs⟩ : ∃ m, m = (vs_l_found ++ [v]) := ⟨_, rfl⟩
          rw [← e_vs] at hp_l_found hd_l_found
          clear e_vs
          refine q_nilU ?_
          refine q_nil ?_
          cases hm
          exact hN _ _ _ _ sl9 ok ⟨_, _, rfl, hd_l_found, hp_l_found, hs, hB⟩
      · obtain ⟨y_l_turn, vs_l_found, rfl, hd_l_found, hp_l_found, hs, hB⟩ := hj
        have h_l_kit_here := dp_up s1 _ h_l_kit_here
        have sg := sg.trans s1
        refine q_ret (ev_tupO hp_l_found hd_l_found (ea_cons mo_ow (ev_own rfl) ea_nil)) ok (fun v G H s1 ok hv => ?_)
        have sg := sg.trans s1
        cases hm
        exact q v G H sg (ok.less (same_fin hB hs)) hv
/-! ### _law_same -/
theorem sc__law_same : FnScope ["_law_found", "_law_due", "_law_k"] ["_law_found", "_law_due"] (defScope s__law_same) := ⟨rfl, rfl, rfl, by decide +kernel, rfl, by decide +kernel, by decide +kernel⟩
def a__law_same (K : PySem.W.Frag) (a : Dat × Dat) : List V → Hp → Prop := conP (DD K (id a.1)) (conP (DD K (id a.2)) (nilP))
def m__law_same : Nat → (Dat × Dat) → Option Bool
  | 0, _ => none
  | n + 1, a => (isO isT a.2).bind fun t1 => cond t1 ((isO isT a.1).bind fun t2 => (cond (!t2) (some true) ((lenD a.1).bind fun t3 => (lenD a.2).bind fun t4 => some (!decide (t3 = t4)))).bind fun t5 => cond t5 (some false) ((lenD a.2).bind fun t6 => (rngO t6).bind fun t7 => (lcO (fun x8 : Int => (atD a.1 x8).bind fun t14 => (atD a.2 x8).bind fun t15 => (m__law_same n (t14, t15)).bind fun t16 => some t16) t7).bind fun t17 => some (t17.all id))) (cond ((isND a.2) || (isND a.1)) (some ((isND a.2) && (isND a.1))) ((isO isB a.2).bind fun t18 => (cond t18 (some true) ((isO isB a.1).bind fun t19 => some t19)).bind fun t20 => cond t20 ((isO isB a.2).bind fun t21 => (cond t21 ((isO isB a.1).bind fun t22 => (cond t22 ((eqDO a.1 a.2).bind fun t23 => some t23) (some false)).bind fun t24 => some t24) (some false)).bind fun t25 => some t25) ((isO isI a.2).bind fun t26 => cond t26 ((isO isI a.1).bind fun t27 => (cond t27 ((eqDO a.1 a.2).bind fun t28 => some t28) (some false)).bind fun t29 => some t29) ((isO isS a.1).bind fun t30 => (cond t30 ((eqDO a.1 a.2).bind fun t31 => some t31) (some false)).bind fun t32 => some t32))))
abbrev sp__law_same [Tb] (K : PySem.W.Frag) (n : Nat) : Sp := spP (a__law_same K) (m__law_same n) fun r => DD K (Dat.bool r)
theorem ok__law_same [Tb] {P : Program} {w : World} {K : PySem.W.Frag} {mg : Str → Option Value} {base : Heap} (T : Txt K mg) : ∀ n : Nat, FnOk P w K mg base CX0 (n + 1) T.a__law_same T.d__law_same ["_law_found", "_law_due"] (sp__law_same K n)
  | 0 => by
    refine T.F__law_same.ok sc__law_same (fun vs H Q E h => ?_) (fun cdv A outer s0 H vs Q E hr h => ?_)
    · obtain ⟨G, M0, a, r, ok, ⟨v_l_found, _, rfl, h_l_found, v_l_due, _, rfl, h_l_due, rfl⟩, hm, q⟩ := h
      unfold m__law_same at hm
      cases hm
    · obtain ⟨G, M0, a, r, ok, ⟨v_l_found, _, rfl, h_l_found, v_l_due, _, rfl, h_l_due, rfl⟩, hm, q⟩ := h
      unfold m__law_same at hm
      cases hm
  | n + 1 => by
    have O__law_same := ok__law_same (P := P) (w := w) (base := base) T  n
    refine T.F__law_same.ok sc__law_same (fun vs H Q E h => ?_) (fun cdv A outer s0 H vs Q E hr h => ?_)
    · obtain ⟨G, M0, a, r, ok, ⟨v_l_found, _, rfl, h_l_found, v_l_due, _, rfl, h_l_due, rfl⟩, hm, q⟩ := h
      rfl
    · obtain ⟨G, M0, a, r, ok, ⟨v_l_found, _, rfl, h_l_found, v_l_due, _, rfl, h_l_due, rfl⟩, hm, q⟩ := h
      unfold m__law_same at hm
      have sg := Same.refl G
      have hB := Same.refl M0
      refine ⟨_, (pss_cons (ps_if (pt_val (pe_callB (call_isiKK (K := K)) (by rfl) T.n_isinstance (by decide +kernel) (pa_cons (pv 1) (pa_cons (pe_bltn (v := .ty "tuple") (by rfl) T.n_tuple (by decide +kernel) rfl) pa_nil)))) (pss_cons (ps_if (PW.pt (pw_or (pt_not (pt_val (pe_callB (call_isiKK (K := K)) (by rfl) T.n_isinstance (by decide +kernel) (pa_cons (pv 0) (pa_cons (pe_bltn (v := .ty "tuple") (by rfl) T.n_tuple (by decide +kernel) rfl) pa_nil))))) (pw_or1 (pt_cmpR op_ne (pe_callB (cl_lenK (K := K)) (by rfl) T.n_len (by decide +kernel) (pa_cons (pv 0) pa_nil)) (pe_callB (cl_lenK (K := K)) (by rfl) T.n_len (by decide +kernel) (pa_cons (pv 1) pa_nil)) (nomark _))))) (pss_cons (ps_ret pe_bl) pss_nil) pss_nil) (pss_cons (ps_ret (pe_callB (cr_allK (K := K) rfl) (by rfl) T.n_all (by decide +kernel) (pa_cons (pe_lc (own := [("_law_k", 2)]) (g := (gName 2)) (tt := tYes) rfl sc__law_same.nd (pi_range1 (by rfl) T.n_range (pa_cons (pe_callB (cl_lenK (K := K)) (by rfl) T.n_len (by decide +kernel) (pa_cons (pv 1) pa_nil)) pa_nil)) (blkOk_by (own := [("_law_k", 2)]) (N := ["_law_found", "_law_due", "_law_k"]) (sc := defScope s__law_same) (by decide +kernel)) (fun _ _ _ _ _ => (pg_name (i := 2) sc__law_same.nd rfl (by first | exact .inl rfl | exact .inr rfl))) (fun _ _ _ _ _ => pts_nil) (fun _ _ _ _ _ => (pe_call O__law_same (hr.mono (by omega)) (by rfl) T.g__law_same T.F__law_same.kp T.b__law_same .nil pass0 (pa_cons (pe_ix (ix_seqK (K := K)) (pv 0) (pv 2) (fun _ _ => rfl)) (pa_cons (pe_ix (ix_seqK (K := K)) (pv 1) (pv 2) (fun _ _ => rfl)) pa_nil))))) pa_nil))) pss_nil)) pss_nil) (pss_cons (ps_if (PW.pt (pw_or (pt_cmpR op_isN (pv 1) pe_non (nomark _)) (pw_or1 (pt_cmpR op_isN (pv 0) pe_non (nomark _))))) (pss_cons (ps_ret (pe_and (pe_cmpR op_isN (pv 1) pe_non (nomark _)) (pe_one (pe_cmpR op_isN (pv 0) pe_non (nomark _))))) pss_nil) pss_nil) (pss_cons (ps_if (PW.pt (pw_or (pt_val (pe_callB (call_isiKK (K := K)) (by rfl) T.n_isinstance (by decide +kernel) (pa_cons (pv 1) (pa_cons (pe_bltn (v := .ty "bool") (by rfl) T.n_bool (by decide +kernel) rfl) pa_nil)))) (pw_or1 (pt_val (pe_callB (call_isiKK (K := K)) (by rfl) T.n_isinstance (by decide +kernel) (pa_cons (pv 0) (pa_cons (pe_bltn (v := .ty "bool") (by rfl) T.n_bool (by decide +kernel) rfl) pa_nil))))))) (pss_cons (ps_ret (pe_and (pe_callB (call_isiKK (K := K)) (by rfl) T.n_isinstance (by decide +kernel) (pa_cons (pv 1) (pa_cons (pe_bltn (v := .ty "bool") (by rfl) T.n_bool (by decide +kernel) rfl) pa_nil))) (pe_and (pe_callB (call_isiKK (K := K)) (by rfl) T.n_isinstance (by decide +kernel) (pa_cons (pv 0) (pa_cons (pe_bltn (v := .ty "bool") (by rfl) T.n_bool (by decide +kernel) rfl) pa_nil))) (pe_one (pe_cmpR (op_eqDK (K := K) hr.units) (pv 0) (pv 1) (nomark _)))))) pss_nil) pss_nil) (pss_cons (ps_if (pt_val (pe_callB (call_isiKK (K := K)) (by rfl) T.n_isinstance (by decide +kernel) (pa_cons (pv 1) (pa_cons (pe_bltn (v := .ty "int") (by rfl) T.n_int (by decide +kernel) rfl) pa_nil)))) (pss_cons (ps_ret (pe_and (pe_callB (call_isiKK (K := K)) (by rfl) T.n_isinstance (by decide +kernel) (pa_cons (pv 0) (pa_cons (pe_bltn (v := .ty "int") (by rfl) T.n_int (by decide +kernel) rfl) pa_nil))) (pe_one (pe_cmpR (op_eqDK (K := K) hr.units) (pv 0) (pv 1) (nomark _))))) pss_nil) pss_nil) (pss_cons (ps_ret (pe_and (pe_callB (call_isiKK (K := K)) (by rfl) T.n_isinstance (by decide +kernel) (pa_cons (pv 0) (pa_cons (pe_bltn (v := .ty "str") (by rfl) T.n_str (by decide +kernel) rfl) pa_nil))) (pe_one (pe_cmpR (op_eqDK (K := K) hr.units) (pv 0) (pv 1) (nomark _))))) pss_nil))))), ?_⟩
      refine nrm (σ' := [some v_l_found, some v_l_due, none]) rfl ?_
      obtain ⟨t1, e_t1, hm⟩ := bs hm
      refine q_if (et_B (ev_isiD isc_T e_t1 (ea_d (ev_d (K := K) rfl h_l_due) (ea_cons mo_cls ev_cls ea_nil)))) ok (fun hb G H s1 ok => ?_) (fun hb G H s1 ok => ?_)
      · have hm := cond_t hb hm
        have h_l_found := dp_up s1 _ h_l_found
        have h_l_due := dp_up s1 _ h_l_due
        have sg := sg.trans s1
        obtain ⟨t2, e_t2, hm⟩ := bs hm
        obtain ⟨t5, e_t5, hm⟩ := bs hm
        refine q_if (et_orG (c := t5) (et_not (et_B (ev_isiD isc_T e_t2 (ea_d (ev_d (K := K) rfl h_l_found) (ea_cons mo_cls ev_cls ea_nil))))) (fun eb => by have e1 := cond_f eb e_t5; (obtain ⟨t3, e_t3, e1⟩ := bs e1); (obtain ⟨t4, e_t4, e1⟩ := bs e1); (have e1 := Option.some.inj e1); subst e1; exact (et_test (ev_neI (ev_lenD e_t3 (ea_d (ev_d (K := K) rfl h_l_found) ea_nil)) (ev_lenD e_t4 (ea_d (ev_d (K := K) rfl h_l_due) ea_nil))))) (fun eb => by have e1 := cond_t eb e_t5; cases e1; exact ⟨rfl, rfl⟩)) ok (fun hb G H s1 ok => ?_) (fun hb G H s1 ok => ?_)
        · have hm := cond_t hb hm
          have h_l_found := dp_up s1 _ h_l_found
          have h_l_due := dp_up s1 _ h_l_due
          have sg := sg.trans s1
          refine q_ret (ev_bl (K := K)) ok (fun v G H s1 ok hv => ?_)
          have sg := sg.trans s1
          cases hm
          exact q v G H sg (ok.less hB) hv
        · have hm := cond_f hb hm
          have h_l_found := dp_up s1 _ h_l_found
          have h_l_due := dp_up s1 _ h_l_due
          have sg := sg.trans s1
          refine q_nilU ?_
          obtain ⟨t6, e_t6, hm⟩ := bs hm
          obtain ⟨t7, e_t7, hm⟩ := bs hm
          obtain ⟨t17, e_t17, hm⟩ := bs hm
          refine q_ret (ev_allL (ea_d (EvL.ev (el_lcM (ea := Dat.int) (eb := Dat.bool) (xs := t7) (ys := t17) (hf := e_t17) (src_rngO e_t7 (ea_d (ev_lenD e_t6 (ea_d (ev_d (K := K) rfl h_l_due) ea_nil)) ea_nil)) (fun x8 _ Mx12 _ _ he13 sM11 sG10 hv9 => by (obtain ⟨t14, e_t14, he13⟩ := bs he13); (obtain ⟨t15, e_t15, he13⟩ := bs he13); (obtain ⟨t16, e_t16, he13⟩ := bs he13); (have he13 := Option.some.inj he13); subst he13; exact (tg_name ⟨rfl, (ev_callP (res := fun r => DD K (Dat.bool r)) (a := (t14, t15)) e_t16 (ea_d (ev_ixD e_t14 (ev_d (K := K) rfl (dp_up sG10 _ h_l_found)) (ev_d (K := K) rfl hv9)) (ea_d (ev_ixD e_t15 (ev_d (K := K) rfl (dp_up sG10 _ h_l_due)) (ev_d (K := K) rfl hv9)) ea_nil)))⟩)))) ea_nil)) ok (fun v G H s1 ok hv => ?_)
          have sg := sg.trans s1
          cases hm
          exact q v G H sg (ok.less hB) hv
      · have hm := cond_f hb hm
        have h_l_found := dp_up s1 _ h_l_found
        have h_l_due := dp_up s1 _ h_l_due
        have sg := sg.trans s1
        refine q_nilU ?_
        refine q_if (et_or (et_test (ev_isN (ev_d (K := K) rfl h_l_due) (ev_non (K := K)))) fun _ => (et_test (ev_isN (ev_d (K := K) rfl h_l_found) (ev_non (K := K))))) ok (fun hb G H s1 ok => ?_) (fun hb G H s1 ok => ?_)
        · have hm := cond_t hb hm
          have h_l_found := dp_up s1 _ h_l_found
          have h_l_due := dp_up s1 _ h_l_due
          have sg := sg.trans s1
          refine q_ret (ev_and (ev_isN (ev_d (K := K) rfl h_l_due) (ev_non (K := K))) fun _ => (ev_isN (ev_d (K := K) rfl h_l_found) (ev_non (K := K)))) ok (fun v G H s1 ok hv => ?_)
          have sg := sg.trans s1
          cases hm
          exact q v G H sg (ok.less hB) hv
        · have hm := cond_f hb hm
          have h_l_found := dp_up s1 _ h_l_found
          have h_l_due := dp_up s1 _ h_l_due
          have sg := sg.trans s1
          refine q_nilU ?_
          obtain ⟨t18, e_t18, hm⟩ := bs hm
          obtain ⟨t20, e_t20, hm⟩ := bs hm
          refine q_if (et_orG (c := t20) (et_B (ev_isiD isc_B e_t18 (ea_d (ev_d (K := K) rfl h_l_due) (ea_cons mo_cls ev_cls ea_nil)))) (fun eb => by have e1 := cond_f eb e_t20; (obtain ⟨t19, e_t19, e1⟩ := bs e1); (have e1 := Option.some.inj e1); subst e1; exact (et_B (ev_isiD isc_B e_t19 (ea_d (ev_d (K := K) rfl h_l_found) (ea_cons mo_cls ev_cls ea_nil))))) (fun eb => by have e1 := cond_t eb e_t20; cases e1; exact ⟨rfl, rfl⟩)) ok (fun hb G H s1 ok => ?_) (fun hb G H s1 ok => ?_)
          · have hm := cond_t hb hm
            have h_l_found := dp_up s1 _ h_l_found
            have h_l_due := dp_up s1 _ h_l_due
            have sg := sg.trans s1
            obtain ⟨t21, e_t21, hm⟩ := bs hm
            obtain ⟨t25, e_t25, hm⟩ := bs hm
            refine q_ret (ev_andG (c := t25) (ev_isiD isc_B e_t21 (ea_d (ev_d (K := K) rfl h_l_due) (ea_cons mo_cls ev_cls ea_nil))) (fun eb => by have e1 := cond_t eb e_t25; (obtain ⟨t22, e_t22, e1⟩ := bs e1); (obtain ⟨t24, e_t24, e1⟩ := bs e1); (have e1 := Option.some.inj e1); subst e1; exact (ev_andG (c := t24) (ev_isiD isc_B e_t22 (ea_d (ev_d (K := K) rfl h_l_found) (ea_cons mo_cls ev_cls ea_nil))) (fun eb => by have e1 := cond_t eb e_t24; (obtain ⟨t23, e_t23, e1⟩ := bs e1); (have e1 := Option.some.inj e1); subst e1; exact (ev_eqDO e_t23 (ev_d (K := K) rfl h_l_found) (ev_d (K := K) rfl h_l_due))) (fun eb => by have e1 := cond_f eb e_t24; cases e1; exact ⟨rfl, rfl⟩))) (fun eb => by have e1 := cond_f eb e_t25; cases e1; exact ⟨rfl, rfl⟩)) ok (fun v G H s1 ok hv => ?_)
            have sg := sg.trans s1
            cases hm
            exact q v G H sg (ok.less hB) hv
          · have hm := cond_f hb hm
            have h_l_found := dp_up s1 _ h_l_found
            have h_l_due := dp_up s1 _ h_l_due
            have sg := sg.trans s1
            refine q_nilU ?_
            obtain ⟨t26, e_t26, hm⟩ := bs hm
            refine q_if (et_B (ev_isiD isc_I e_t26 (ea_d (ev_d (K := K) rfl h_l_due) (ea_cons mo_cls ev_cls ea_nil)))) ok (fun hb G H s1 ok => ?_) (fun hb G H s1 ok => ?_)
            · have hm := cond_t hb hm
              have h_l_found := dp_up s1 _ h_l_found
              have h_l_due := dp_up s1 _ h_l_due
              have sg := sg.trans s1
              obtain ⟨t27, e_t27, hm⟩ := bs hm
              obtain ⟨t29, e_t29, hm⟩ := bs hm
              refine q_ret (ev_andG (c := t29) (ev_isiD isc_I e_t27 (ea_d (ev_d (K := K) rfl h_l_found) (ea_cons mo_cls ev_cls ea_nil))) (fun eb => by have e1 := cond_t eb e_t29; (obtain ⟨t28, e_t28, e1⟩ := bs e1); (have e1 := Option.some.inj e1); subst e1; exact (ev_eqDO e_t28 (ev_d (K := K) rfl h_l_found) (ev_d (K := K) rfl h_l_due))) (fun eb => by have e1 := cond_f eb e_t29; cases e1; exact ⟨rfl, rfl⟩)) ok (fun v G H s1 ok hv => ?_)
              have sg := sg.trans s1
              cases hm
              exact q v G H sg (ok.less hB) hv
            · have hm := cond_f hb hm
              have h_l_found := dp_up s1 _ h_l_found
              have h_l_due := dp_up s1 _ h_l_due
              have sg := sg.trans s1
              refine q_nilU ?_
              obtain ⟨t30, e_t30, hm⟩ := bs hm
              obtain ⟨t32, e_t32, hm⟩ := bs hm
              refine q_ret (ev_andG (c := t32) (ev_isiD isc_S e_t30 (ea_d (ev_d (K := K) rfl h_l_found) (ea_cons mo_cls ev_cls ea_nil))) (fun eb => by have e1 := cond_t eb e_t32; (obtain ⟨t31, e_t31, e1⟩ := bs e1); (have e1 := Option.some.inj e1); subst e1; exact (ev_eqDO e_t31 (ev_d (K := K) rfl h_l_found) (ev_d (K := K) rfl h_l_due))) (fun eb => by have e1 := cond_f eb e_t32; cases e1; exact ⟨rfl, rfl⟩)) ok (fun v G H s1 ok hv => ?_)
              have sg := sg.trans s1
              cases hm
              exact q v G H sg (ok.less hB) hv
/-! ### _law_text_of -/
theorem sc__law_text_of : FnScope ["_law_tune_here", "_law_words", "_law_part"] ["_law_tune_here"] (defScope s__law_text_of) := ⟨rfl, rfl, rfl, by decide +kernel, rfl, by decide +kernel, by decide +kernel⟩
def a__law_text_of (K : PySem.W.Frag) (a : (List Dat)) : List V → Hp → Prop := conP (DD K ((eT id) a)) (nilP)
def m__law_text_of : Nat → ((List Dat)) → Option Str
  | 0, _ => none
  | n + 1, a => (lcO (fun x1 : Dat => (isO isS x1).bind fun t7 => (cond t7 ((strD x1).bind fun t8 => some t8) ((atD x1 (0 : Int)).bind fun t9 => (tupD t9).bind fun t10 => (m__law_text_of n t10).bind fun t11 => (addS (Str.ofString "(") t11).bind fun t12 => (addS t12 (Str.ofString ")x")).bind fun t13 => (atD x1 (1 : Int)).bind fun t14 => (intD t14).bind fun t15 => (strIO t15).bind fun t16 => (addS t13 t16).bind fun t17 => some t17)).bind fun t18 => some t18) a).bind fun t19 => (cond (!decide (t19 = ([] : (List Str)))) ((joinO (Str.ofString " ") t19).bind fun t20 => some t20) (some (Str.ofString "-"))).bind fun t21 => some t21
abbrev sp__law_text_of [Tb] (K : PySem.W.Frag) (n : Nat) : Sp := spP (a__law_text_of K) (m__law_text_of n) fun r => DD K (Dat.str r)
theorem ok__law_text_of [Tb] {P : Program} {w : World} {K : PySem.W.Frag} {mg : Str → Option Value} {base : Heap} (T : Txt K mg) : ∀ n : Nat, FnOk P w K mg base CX0 (n + 1) T.a__law_text_of T.d__law_text_of ["_law_tune_here"] (sp__law_text_of K n)
  | 0 => by
    refine T.F__law_text_of.ok sc__law_text_of (fun vs H Q E h => ?_) (fun cdv A outer s0 H vs Q E hr h => ?_)
    · obtain ⟨G, M0, a, r, ok, ⟨v_l_tune_here, _, rfl, h_l_tune_here, rfl⟩, hm, q⟩ := h
      unfold m__law_text_of at hm
      cases hm
    · obtain ⟨G, M0, a, r, ok, ⟨v_l_tune_here, _, rfl, h_l_tune_here, rfl⟩, hm, q⟩ := h
      unfold m__law_text_of at hm
      cases hm
  | n + 1 => by
    have O__law_text_of := ok__law_text_of (P := P) (w := w) (base := base) T  n
    refine T.F__law_text_of.ok sc__law_text_of (fun vs H Q E h => ?_) (fun cdv A outer s0 H vs Q E hr h => ?_)
    · obtain ⟨G, M0, a, r, ok, ⟨v_l_tune_here, _, rfl, h_l_tune_here, rfl⟩, hm, q⟩ := h
      rfl
    · obtain ⟨G, M0, a, r, ok, ⟨v_l_tune_here, _, rfl, h_l_tune_here, rfl⟩, hm, q⟩ := h
      unfold m__law_text_of at hm
      have sg := Same.refl G
      have hB := Same.refl M0
      refine ⟨_, (pss_cons (ps_setLc (i := 1) (own := [("_law_part", 2)]) (g := (gName 2)) (tt := tYes) rfl sc__law_text_of.nd rfl rfl (sw_true rfl rfl rfl (by decide +kernel)) (pi_tupK (K := K) (pv 0)) (blkOk_by (own := [("_law_part", 2)]) (N := ["_law_tune_here", "_law_words", "_law_part"]) (sc := defScope s__law_text_of) (by decide +kernel)) (fun _ _ _ _ _ => (pg_name (i := 2) sc__law_text_of.nd rfl (by first | exact .inl rfl | exact .inr rfl))) (fun _ _ _ _ _ => pts_nil) (fun _ _ _ _ _ => (pe_ifExp (pt_val (pe_callB (call_isiKK (K := K)) (by rfl) T.n_isinstance (by decide +kernel) (pa_cons (pv 2) (pa_cons (pe_bltn (v := .ty "str") (by rfl) T.n_str (by decide +kernel) rfl) pa_nil)))) (pv 2) (pe_op op_add_str (pe_op op_add_str (pe_op op_add_str pe_str (pe_call O__law_text_of (hr.mono (by omega)) (by rfl) T.g__law_text_of T.F__law_text_of.kp T.b__law_text_of .nil pass0 (pa_cons (pe_ix (ix_seqK (K := K)) (pv 2) pe_int (fun _ _ => rfl)) pa_nil))) pe_str) (pe_callTy call_str_int (by rfl) T.n_str (by decide +kernel) (pa_cons (pe_ix (ix_seqK (K := K)) (pv 2) pe_int (fun _ _ => rfl)) pa_nil)))))) (pss_cons (ps_ret (pe_ifExp (pt_cmpR (op_neDK (K := K) hr.units) (pv 1) (pe_lst pa_nil) (nomark _)) (pe_m1 PySem.F.slot_str_join PySem.F.type_str_join (mt_joinK (K := K) rfl) pe_str (pv 1)) pe_str)) pss_nil)), ?_⟩
      refine nrm (σ' := [some v_l_tune_here, none, none]) rfl ?_
      obtain ⟨t19, e_t19, hm⟩ := bs hm
      refine q_set (σ' := fun v => [some v_l_tune_here, some v, none]) (EvL.ev (el_lcM (ea := id) (eb := Dat.str) (xs := a) (ys := t19) (hf := e_t19) (src_tup (ev_d (K := K) rfl h_l_tune_here)) (fun x1 _ Mx5 _ _ he6 sM4 sG3 hv2 => by (obtain ⟨t7, e_t7, he6⟩ := bs he6); (obtain ⟨t18, e_t18, he6⟩ := bs he6); (have he6 := Option.some.inj he6); subst he6; exact (tg_name ⟨rfl, (ev_if (P := DD K (Dat.str t18)) (et_B (ev_isiD isc_S e_t7 (ea_d (ev_d (K := K) rfl hv2) (ea_cons mo_cls ev_cls ea_nil)))) (fun eb => by have e1 := cond_t eb e_t18; (obtain ⟨t8, e_t8, e1⟩ := bs e1); cases e1; exact (ev_strD e_t8 (ev_d (K := K) rfl hv2))) (fun eb => by have e1 := cond_f eb e_t18; (obtain ⟨t9, e_t9, e1⟩ := bs e1); (obtain ⟨t10, e_t10, e1⟩ := bs e1); (obtain ⟨t11, e_t11, e1⟩ := bs e1); (obtain ⟨t12, e_t12, e1⟩ := bs e1); (obtain ⟨t13, e_t13, e1⟩ := bs e1); (obtain ⟨t14, e_t14, e1⟩ := bs e1); (obtain ⟨t15, e_t15, e1⟩ := bs e1); (obtain ⟨t16, e_t16, e1⟩ := bs e1); (obtain ⟨t17, e_t17, e1⟩ := bs e1); cases e1; exact (ev_addS e_t17 (ev_addS e_t13 (ev_addS e_t12 (ev_str (K := K) (by decide +kernel)) (ev_callP (res := fun r => DD K (Dat.str r)) (a := t10) e_t11 (ea_d (ev_tupD e_t10 (ev_ixD e_t9 (ev_d (K := K) rfl hv2) (ev_int (K := K)))) ea_nil))) (ev_str (K := K) (by decide +kernel))) (ev_strI e_t16 (ea_d (ev_intD e_t15 (ev_ixD e_t14 (ev_d (K := K) rfl hv2) (ev_int (K := K)))) ea_nil)))))⟩)))) ok (fun _ => rfl) (fun v_l_words G H s1 ok h_l_words => ?_)
      have h_l_tune_here := dp_up s1 _ h_l_tune_here
      have sg := sg.trans s1
      obtain ⟨t21, e_t21, hm⟩ := bs hm
      refine q_ret (ev_if (P := DD K (Dat.str t21)) (et_test (ev_neE (e := (eL Dat.str)) (x := t19) (y := ([] : (List Str))) (eqe_L eqe_str) (by decide) (ev_d (K := K) rfl h_l_words) (EvL.ev (el_lst (ea_nilD (K := K)))))) (fun eb => by have e1 := cond_t eb e_t21; (obtain ⟨t20, e_t20, e1⟩ := bs e1); cases e1; exact (ev_joinL e_t20 (ev_str (K := K) (by decide +kernel)) (ev_d (K := K) rfl h_l_words))) (fun eb => by have e1 := cond_f eb e_t21; cases e1; exact (ev_str (K := K) (by decide +kernel)))) ok (fun v G H s1 ok hv => ?_)
      have sg := sg.trans s1
      cases hm
      exact q v G H sg (ok.less hB) hv
theorem kwp_read_course_text_peal {K : PySem.W.Frag} {G : Hp} {vs : List V} {a : ((List (Str × Int)) × (List (Str × Str × Int)) × (List (Str × Int)) × (List ((Str × Str) × Int))) × Str} (h : (conP (DD K (Dat.str a.2)) (conP (DD K (eX_Peal a.1)) (nilP))) vs G) : vs.length = 2 ∧ a_read_course K a (kw_read_course_text_peal vs) G := by
  obtain ⟨v_text, _, rfl, h_text, v_peal, _, rfl, h_peal, rfl⟩ := h
  exact ⟨rfl, v_peal, _, rfl, h_peal, v_text, _, rfl, h_text, rfl⟩
theorem kwp_show_course_course_peal {K : PySem.W.Frag} {G : Hp} {vs : List V} {a : ((List (Str × Int)) × (List (Str × Str × Int)) × (List (Str × Int)) × (List ((Str × Str) × Int))) × (List Dat)} (h : (conP (DD K ((eT id) a.2)) (conP (DD K (eX_Peal a.1)) (nilP))) vs G) : vs.length = 2 ∧ a_show_course K a (kw_show_course_course_peal vs) G := by
  obtain ⟨v_course, _, rfl, h_course, v_peal, _, rfl, h_peal, rfl⟩ := h
  exact ⟨rfl, v_peal, _, rfl, h_peal, v_course, _, rfl, h_course, rfl⟩
/-! ### _law_one_right -/
theorem sc__law_one_right : FnScope ["_law_tower", "_law_tune_here", "_law_due", "_law_shown", "_law_written", "_law_read", "_law_told"] ["_law_tower", "_law_tune_here"] (defScope s__law_one_right) := ⟨rfl, rfl, rfl, by decide +kernel, rfl, by decide +kernel, by decide +kernel⟩
def a__law_one_right (K : PySem.W.Frag) (a : ((List (Str × Int)) × (List (Str × Str × Int)) × (List (Str × Int)) × (List ((Str × Str) × Int))) × (List Dat)) : List V → Hp → Prop := conP (DD K (eX_Peal a.1)) (conP (DD K ((eT id) a.2)) (nilP))
def m__law_one_right (a : ((List (Str × Int)) × (List (Str × Str × Int)) × (List (Str × Int)) × (List ((Str × Str) × Int))) × (List Dat)) : Option Bool :=
  (m__law_text_of 8 a.2).bind fun t1 => (reprD ((eT id) a.2)).bind fun t2 => (m_show_course (a.1, a.2)).bind fun t3 => (m_show_course (a.1, a.2)).bind fun t4 => (m_show_course (a.1, a.2)).bind fun t5 => (lcO (fun x6 : Str => (m__law_same 12 ((Dat.str x6), (Dat.str t1))).bind fun t12 => some t12) ([t3, t4, t5] : (List Str))).bind fun t13 => cond (!(t13.all id)) (some false) ((m_read_course_2 (a.1, t1)).bind fun t14 => (m__law_caught (outU t14)).bind fun t15 => cond (!decide (t15 = ((Str.ofString "told"), (Str.ofString "")))) (some false) ((m_read_course (a.1, t1)).bind fun t16 => (m_read_course (a.1, t1)).bind fun t17 => (m_read_course (a.1, t1)).bind fun t18 => (lcO (fun x19 : (List Dat) => (m__law_same 12 (((eT id) x19), ((eT id) a.2))).bind fun t25 => some t25) ([t16, t17, t18] : (List (List Dat)))).bind fun t26 => (cond (t26.all id) ((reprD ((eT id) a.2)).bind fun t27 => some (decide (t27 = t2))) (some false)).bind fun t28 => some t28))
abbrev sp__law_one_right [Tb] (K : PySem.W.Frag) : Sp := spP (a__law_one_right K) (m__law_one_right) fun r => DD K (Dat.bool r)
theorem ok__law_one_right [Tb] {P : Program} {w : World} {K : PySem.W.Frag} {mg : Str → Option Value} {base : Heap} (T : Txt K mg) (O__law_text_of : FnOk P w K mg base CX0 9 T.a__law_text_of T.d__law_text_of ["_law_tune_here"] (sp__law_text_of K 8)) (O_show_course : FnOk P w K mg base CX0 18 T.a_show_course T.d_show_course ["peal", "course"] (sp_show_course K)) (O__law_same : FnOk P w K mg base CX0 13 T.a__law_same T.d__law_same ["_law_found", "_law_due"] (sp__law_same K 12)) (O__law_caught : FnLam P w K mg base 2 T.a__law_caught T.d__law_caught "_law_caught" "_law_act" (spL K m__law_caught fun r => DD K ((eP2 Dat.str Dat.str) r))) (O_read_course_2 : FnOk P w K mg base (L2N.CX P w) 19 T.a_read_course T.d_read_course ["peal", "text"] (sp_read_course_2 K)) (O_read_course : FnOk P w K mg base CX0 19 T.a_read_course T.d_read_course ["peal", "text"] (sp_read_course K)) (TB__law_one_right : LamX.TabB base mg T.lc__law_one_right T.lp__law_one_right) (tm__law_one_right : (T.lp__law_one_right, (("_law_one_right" : Str) ++ ".<locals>." ++ "<lambda>")) ∈ Tb.t) (tu__law_one_right : ∀ p ∈ Tb.t, p.1 = T.lp__law_one_right → p.2 = (("_law_one_right" : Str) ++ ".<locals>." ++ "<lambda>")) : FnOkG P w K mg base CX0 (23) T.a__law_one_right T.d__law_one_right ["_law_tower", "_law_tune_here"] (sp__law_one_right K) := by
  refine okGc T.F__law_one_right T.ld__law_one_right sc__law_one_right (fun vs H Q E h => ?_) (fun A outer s0 H vs Q E hr hgd h => ?_)
  · obtain ⟨G, M0, a, r, ok, ⟨v_l_tower, _, rfl, h_l_tower, v_l_tune_here, _, rfl, h_l_tune_here, rfl⟩, hm, q⟩ := h
    rfl
  · obtain ⟨G, M0, a, r, ok, ⟨v_l_tower, _, rfl, h_l_tower, v_l_tune_here, _, rfl, h_l_tune_here, rfl⟩, hm, q⟩ := h
    unfold m__law_one_right at hm
    have sg := Same.refl G
    have hB := Same.refl M0
    refine ⟨_, (pss_cons (ps_asg (pe_tup (pa_cons (pe_call O__law_text_of (hr.mono (by decide)) (by rfl) T.g__law_text_of T.F__law_text_of.kp T.b__law_text_of .nil pass0 (pa_cons (pv 1) pa_nil)) (pa_cons (pe_callB (cl_reprD (K := K) hgd hr.units rfl) (by rfl) T.n_repr (by decide +kernel) (pa_cons (pv 1) pa_nil)) pa_nil))) (pg_tup rfl (pgs_cons (pg_name (i := 2) sc__law_one_right.nd rfl (.inr rfl)) (pgs_cons (pg_name (i := 3) sc__law_one_right.nd rfl (.inl rfl)) pgs_nil)))) (pss_cons (ps_set (i := 4) sc__law_one_right.nd rfl (.inl rfl) (pe_lst (pa_cons (pe_call O_show_course (hr.mono (by decide)) (by rfl) T.g_show_course T.F_show_course.kp T.b_show_course .nil pass0 (pa_cons (pv 0) (pa_cons (pv 1) pa_nil))) (pa_cons (pe_callKw (g := @kw_show_course_course_peal) O_show_course (hr.mono (by decide)) (by rfl) T.g_show_course T.F_show_course.kp T.kb_show_course_course_peal pass0 (pk_cons (pv 1) (pk_cons (pv 0) pk_nil))) (pa_cons (pe_call O_show_course (hr.mono (by decide)) (by rfl) T.g_show_course T.F_show_course.kp T.b_show_course .nil pass0 (pa_cons (pv 0) (pa_cons (pv 1) pa_nil))) pa_nil))))) (pss_cons (ps_if (pt_not (pt_val (pe_callB (cr_allK (K := K) rfl) (by rfl) T.n_all (by decide +kernel) (pa_cons (pe_lc (own := [("_law_told", 6)]) (g := (gName 6)) (tt := tYes) rfl sc__law_one_right.nd (pi_listK (K := K) (pv 4)) (blkOk_by (own := [("_law_told", 6)]) (N := ["_law_tower", "_law_tune_here", "_law_due", "_law_shown", "_law_written", "_law_read", "_law_told"]) (sc := defScope s__law_one_right) (by decide +kernel)) (fun _ _ _ _ _ => (pg_name (i := 6) sc__law_one_right.nd rfl (by first | exact .inl rfl | exact .inr rfl))) (fun _ _ _ _ _ => pts_nil) (fun _ _ _ _ _ => (pe_call O__law_same (hr.mono (by decide)) (by rfl) T.g__law_same T.F__law_same.kp T.b__law_same .nil pass0 (pa_cons (pv 6) (pa_cons (pv 2) pa_nil))))) pa_nil)))) (pss_cons (ps_ret pe_bl) pss_nil) pss_nil) (pss_cons (ps_if (pt_cmpR (op_neDK (K := K) hr.units) (pe_lamN (k := 20) (O__law_caught.up (by decide)) (by rfl) T.g__law_caught T.F__law_caught.kp T.b__law_caught TB__law_one_right rfl tm__law_one_right tu__law_one_right (hr.mono (by decide)) hgd (LamX.lamS_by (sc := defScope s__law_one_right) (by decide +kernel)) rfl (fun _ _ _ _ _ => rfl) (fun A out s H E f c' hr hgd => (pe_call O_read_course_2 (hr.mono (by decide)) (by rfl) T.g_read_course T.F_read_course.kp T.b_read_course .nil (L2N.passes_call (L2N.takes_of rfl rfl rfl rfl) (fun _ _ _ _ h => h)) (pa_cons (pv 0) (pa_cons (pv 2) pa_nil))))) (pe_tupF (pa_cons pe_str (pa_cons pe_str pa_nil))) (nomark _)) (pss_cons (ps_ret pe_bl) pss_nil) pss_nil) (pss_cons (ps_set (i := 5) sc__law_one_right.nd rfl (.inl rfl) (pe_lst (pa_cons (pe_call O_read_course (hr.mono (by decide)) (by rfl) T.g_read_course T.F_read_course.kp T.b_read_course .nil pass0 (pa_cons (pv 0) (pa_cons (pv 2) pa_nil))) (pa_cons (pe_callKw (g := @kw_read_course_text_peal) O_read_course (hr.mono (by decide)) (by rfl) T.g_read_course T.F_read_course.kp T.kb_read_course_text_peal pass0 (pk_cons (pv 2) (pk_cons (pv 0) pk_nil))) (pa_cons (pe_call O_read_course (hr.mono (by decide)) (by rfl) T.g_read_course T.F_read_course.kp T.b_read_course .nil pass0 (pa_cons (pv 0) (pa_cons (pv 2) pa_nil))) pa_nil))))) (pss_cons (ps_ret (pe_and (pe_callB (cr_allK (K := K) rfl) (by rfl) T.n_all (by decide +kernel) (pa_cons (pe_lc (own := [("_law_told", 6)]) (g := (gName 6)) (tt := tYes) rfl sc__law_one_right.nd (pi_listK (K := K) (pv 5)) (blkOk_by (own := [("_law_told", 6)]) (N := ["_law_tower", "_law_tune_here", "_law_due", "_law_shown", "_law_written", "_law_read", "_law_told"]) (sc := defScope s__law_one_right) (by decide +kernel)) (fun _ _ _ _ _ => (pg_name (i := 6) sc__law_one_right.nd rfl (by first | exact .inl rfl | exact .inr rfl))) (fun _ _ _ _ _ => pts_nil) (fun _ _ _ _ _ => (pe_call O__law_same (hr.mono (by decide)) (by rfl) T.g__law_same T.F__law_same.kp T.b__law_same .nil pass0 (pa_cons (pv 6) (pa_cons (pv 1) pa_nil))))) pa_nil)) (pe_one (pe_cmpR op_eq (pe_callB (cl_reprD (K := K) hgd hr.units rfl) (by rfl) T.n_repr (by decide +kernel) (pa_cons (pv 1) pa_nil)) (pv 3) (nomark _))))) pss_nil)))))), ?_⟩
    refine nrm (σ' := [some v_l_tower, some v_l_tune_here, none, none, none, none, none]) rfl ?_
    obtain ⟨t1, e_t1, hm⟩ := bs hm
    obtain ⟨t2, e_t2, hm⟩ := bs hm
    refine q_tupDD (σ' := fun v w => [some v_l_tower, some v_l_tune_here, some v, some w, none, none, none]) (ev_callP (res := fun r => DD K (Dat.str r)) (a := a.2) e_t1 (ea_d (ev_d (K := K) rfl h_l_tune_here) ea_nil)) mo_dd (ev_reprD (d := (eT id) a.2) e_t2 (ea_d (ev_d (K := K) rfl h_l_tune_here) ea_nil)) mo_dd ok (fun _ _ => rfl) (fun v_l_due v_l_shown G H s1 ok h_l_due h_l_shown => ?_)
    have h_l_tower := dp_up s1 _ h_l_tower
    have h_l_tune_here := dp_up s1 _ h_l_tune_here
    have sg := sg.trans s1
    obtain ⟨t3, e_t3, hm⟩ := bs hm
    obtain ⟨t4, e_t4, hm⟩ := bs hm
    obtain ⟨t5, e_t5, hm⟩ := bs hm
    refine q_set (σ' := fun v => [some v_l_tower, some v_l_tune_here, some v_l_due, some v_l_shown, some v, none, none]) (EvL.ev (el_lst (ea_consD (ev_callP (res := fun r => DD K (Dat.str r)) (a := (a.1, a.2)) e_t3 (ea_d (ev_d (K := K) rfl h_l_tower) (ea_d (ev_d (K := K) rfl h_l_tune_here) ea_nil))) (ea_consD (ev_callKP (res := fun r => DD K (Dat.str r)) (a := (a.1, a.2)) e_t4 (fun _ _ h => kwp_show_course_course_peal h) (ea_d (ev_d (K := K) rfl h_l_tune_here) (ea_d (ev_d (K := K) rfl h_l_tower) ea_nil))) (ea_consD (ev_callP (res := fun r => DD K (Dat.str r)) (a := (a.1, a.2)) e_t5 (ea_d (ev_d (K := K) rfl h_l_tower) (ea_d (ev_d (K := K) rfl h_l_tune_here) ea_nil))) (ea_nilD (K := K))))))) ok (fun _ => rfl) (fun v_l_written G H s1 ok h_l_written => ?_)
    have h_l_tower := dp_up s1 _ h_l_tower
    have h_l_tune_here := dp_up s1 _ h_l_tune_here
    have h_l_due := dp_up s1 _ h_l_due
    have h_l_shown := dp_up s1 _ h_l_shown
    have sg := sg.trans s1
    obtain ⟨t13, e_t13, hm⟩ := bs hm
    refine q_if (et_not (et_B (ev_allL (ea_d (EvL.ev (el_lcM (ea := Dat.str) (eb := Dat.bool) (xs := ([t3, t4, t5] : (List Str))) (ys := t13) (hf := e_t13) (src_list (ev_d (K := K) rfl h_l_written)) (fun x6 _ Mx10 _ _ he11 sM9 sG8 hv7 => by (obtain ⟨t12, e_t12, he11⟩ := bs he11); (have he11 := Option.some.inj he11); subst he11; exact (tg_name ⟨rfl, (ev_callP (res := fun r => DD K (Dat.bool r)) (a := ((Dat.str x6), (Dat.str t1))) e_t12 (ea_d (ev_d (K := K) rfl hv7) (ea_d (ev_d (K := K) rfl (dp_up sG8 _ h_l_due)) ea_nil)))⟩)))) ea_nil)))) ok (fun hb G H s1 ok => ?_) (fun hb G H s1 ok => ?_)
    · have hm := cond_t hb hm
      have h_l_tower := dp_up s1 _ h_l_tower
      have h_l_tune_here := dp_up s1 _ h_l_tune_here
      have h_l_due := dp_up s1 _ h_l_due
      have h_l_shown := dp_up s1 _ h_l_shown
      have h_l_written := dp_up s1 _ h_l_written
      have sg := sg.trans s1
      refine q_ret (ev_bl (K := K)) ok (fun v G H s1 ok hv => ?_)
      have sg := sg.trans s1
      cases hm
      exact q v G H sg (ok.less hB) hv
    · have hm := cond_f hb hm
      have h_l_tower := dp_up s1 _ h_l_tower
      have h_l_tune_here := dp_up s1 _ h_l_tune_here
      have h_l_due := dp_up s1 _ h_l_due
      have h_l_shown := dp_up s1 _ h_l_shown
      have h_l_written := dp_up s1 _ h_l_written
      have sg := sg.trans s1
      refine q_nilU ?_
      obtain ⟨t14, e_t14, hm⟩ := bs hm
      obtain ⟨t15, e_t15, hm⟩ := bs hm
      refine q_if (et_test (ev_neE (e := (eP2 Dat.str Dat.str)) (x := t15) (y := ((Str.ofString "told"), (Str.ofString ""))) (eqe_P2 eqe_str eqe_str) (by decide) (ev_lam e_t15 (fun E => (evr_call (res := fun r => DD K ((eT id) r)) (a := (a.1, t1)) e_t14 (ea_d (ev_d (K := K) rfl h_l_tower) (ea_d (ev_d (K := K) rfl h_l_due) ea_nil))))) (ev_tup (ea_consD (ev_str (K := K) (by decide +kernel)) (ea_consD (ev_str (K := K) (by decide +kernel)) (ea_nilD (K := K))))))) ok (fun hb G H s1 ok => ?_) (fun hb G H s1 ok => ?_)
      · have hm := cond_t hb hm
        have h_l_tower := dp_up s1 _ h_l_tower
        have h_l_tune_here := dp_up s1 _ h_l_tune_here
        have h_l_due := dp_up s1 _ h_l_due
        have h_l_shown := dp_up s1 _ h_l_shown
        have h_l_written := dp_up s1 _ h_l_written
        have sg := sg.trans s1
        refine q_ret (ev_bl (K := K)) ok (fun v G H s1 ok hv => ?_)
        have sg := sg.trans s1
        cases hm
        exact q v G H sg (ok.less hB) hv
      · have hm := cond_f hb hm
        have h_l_tower := dp_up s1 _ h_l_tower
        have h_l_tune_here := dp_up s1 _ h_l_tune_here
        have h_l_due := dp_up s1 _ h_l_due
        have h_l_shown := dp_up s1 _ h_l_shown
        have h_l_written := dp_up s1 _ h_l_written
        have sg := sg.trans s1
        refine q_nilU ?_
        obtain ⟨t16, e_t16, hm⟩ := bs hm
        obtain ⟨t17, e_t17, hm⟩ := bs hm
        obtain ⟨t18, e_t18, hm⟩ := bs hm
        refine q_set (σ' := fun v => [some v_l_tower, some v_l_tune_here, some v_l_due, some v_l_shown, some v_l_written, some v, none]) (EvL.ev (el_lst (ea_consD (ev_callP (res := fun r => DD K ((eT id) r)) (a := (a.1, t1)) e_t16 (ea_d (ev_d (K := K) rfl h_l_tower) (ea_d (ev_d (K := K) rfl h_l_due) ea_nil))) (ea_consD (ev_callKP (res := fun r => DD K ((eT id) r)) (a := (a.1, t1)) e_t17 (fun _ _ h => kwp_read_course_text_peal h) (ea_d (ev_d (K := K) rfl h_l_due) (ea_d (ev_d (K := K) rfl h_l_tower) ea_nil))) (ea_consD (ev_callP (res := fun r => DD K ((eT id) r)) (a := (a.1, t1)) e_t18 (ea_d (ev_d (K := K) rfl h_l_tower) (ea_d (ev_d (K := K) rfl h_l_due) ea_nil))) (ea_nilD (K := K))))))) ok (fun _ => rfl) (fun v_l_read G H s1 ok h_l_read => ?_)
        have h_l_tower := dp_up s1 _ h_l_tower
        have h_l_tune_here := dp_up s1 _ h_l_tune_here
        have h_l_due := dp_up s1 _ h_l_due
        have h_l_shown := dp_up s1 _ h_l_shown
        have h_l_written := dp_up s1 _ h_l_written
        have sg := sg.trans s1
        obtain ⟨t26, e_t26, hm⟩ := bs hm
        obtain ⟨t28, e_t28, hm⟩ := bs hm
        refine q_ret (ev_andG (c := t28) (ev_allL (ea_d (EvL.ev (el_lcM (ea := (eT id)) (eb := Dat.bool) (xs := ([t16, t17, t18] : (List (List Dat)))) (ys := t26) (hf := e_t26) (src_list (ev_d (K := K) rfl h_l_read)) (fun x19 _ Mx23 _ _ he24 sM22 sG21 hv20 => by (obtain ⟨t25, e_t25, he24⟩ := bs he24); (have he24 := Option.some.inj he24); subst he24; exact (tg_name ⟨rfl, (ev_callP (res := fun r => DD K (Dat.bool r)) (a := (((eT id) x19), ((eT id) a.2))) e_t25 (ea_d (ev_d (K := K) rfl hv20) (ea_d (ev_d (K := K) rfl (dp_up sG21 _ h_l_tune_here)) ea_nil)))⟩)))) ea_nil)) (fun eb => by have e1 := cond_t eb e_t28; (obtain ⟨t27, e_t27, e1⟩ := bs e1); (have e1 := Option.some.inj e1); subst e1; exact (ev_eqS (ev_reprD (d := (eT id) a.2) e_t27 (ea_d (ev_d (K := K) rfl h_l_tune_here) ea_nil)) (ev_d (K := K) rfl h_l_shown))) (fun eb => by have e1 := cond_f eb e_t28; cases e1; exact ⟨rfl, rfl⟩)) ok (fun v G H s1 ok hv => ?_)
        have sg := sg.trans s1
        cases hm
        exact q v G H sg (ok.less hB) hv
/-! ### _law_deep -/
theorem sc__law_deep : FnScope ["_law_call", "_law_tune_here", "_law_often"] ["_law_call"] (defScope s__law_deep) := ⟨rfl, rfl, rfl, by decide +kernel, rfl, by decide +kernel, by decide +kernel⟩
def a__law_deep (K : PySem.W.Frag) (a : Str) : List V → Hp → Prop := conP (DD K (Dat.str a)) (nilP)
def m__law_deep (a : Str) : Option (List Dat) :=
  (powO (10 : Int) (30 : Int)).bind fun t1 => (forO (fun (st3 : (List Dat)) (x4 : Int) => some ([((eP2 (eT id) Dat.int) (st3, x4))] : (List Dat))) ([(2 : Int), (3 : Int), (40 : Int), t1] : (List Int)) ([(Dat.str a)] : (List Dat))).bind fun fin2 => some fin2
abbrev sp__law_deep [Tb] (K : PySem.W.Frag) : Sp := spP (a__law_deep K) (m__law_deep) fun r => DD K ((eT id) r)
theorem ok__law_deep [Tb] {P : Program} {w : World} {K : PySem.W.Frag} {mg : Str → Option Value} {base : Heap} (T : Txt K mg) : FnOk P w K mg base CX0 (1) T.a__law_deep T.d__law_deep ["_law_call"] (sp__law_deep K) := by
  refine T.F__law_deep.ok sc__law_deep (fun vs H Q E h => ?_) (fun cdv A outer s0 H vs Q E hr h => ?_)
  · obtain ⟨G, M0, a, r, ok, ⟨v_l_call, _, rfl, h_l_call, rfl⟩, hm, q⟩ := h
    rfl
  · obtain ⟨G, M0, a, r, ok, ⟨v_l_call, _, rfl, h_l_call, rfl⟩, hm, q⟩ := h
    unfold m__law_deep at hm
    have sg := Same.refl G
    have hB := Same.refl M0
    refine ⟨_, (pss_cons (ps_set (i := 1) sc__law_deep.nd rfl (.inl rfl) (pe_tupF (pa_cons (pv 0) pa_nil))) (pss_cons (ps_for PassesOwn.never rfl (pi_listK (K := K) (pe_lst (pa_cons pe_int (pa_cons pe_int (pa_cons pe_int (pa_cons (pe_op op_pow pe_int pe_int) pa_nil)))))) (pg_name (i := 2) sc__law_deep.nd rfl (.inl rfl)) (pss_cons (ps_set (i := 1) sc__law_deep.nd rfl (.inl rfl) (pe_tupF (pa_cons (pe_tupF (pa_cons (pv 1) (pa_cons (pv 2) pa_nil))) pa_nil))) pss_nil)) (pss_cons (ps_ret (pv 1)) pss_nil))), ?_⟩
    refine nrm (σ' := [some v_l_call, none, none]) rfl ?_
    refine q_set (σ' := fun v => [some v_l_call, some v, none]) (ev_tup (ea_consD (ev_d (K := K) rfl h_l_call) (ea_nilD (K := K)))) ok (fun _ => rfl) (fun v_l_tune_here G H s1 ok h_l_tune_here => ?_)
    have h_l_call := dp_up s1 _ h_l_call
    have sg := sg.trans s1
    obtain ⟨t1, e_t1, hm⟩ := bs hm
    obtain ⟨fin2, e_fin2, hm⟩ := bs hm
    have hmo5 := hm
    refine q_forO (ea := Dat.int) (src_list (EvL.ev (el_lst (ea_consD (ev_int (K := K)) (ea_consD (ev_int (K := K)) (ea_consD (ev_int (K := K)) (ea_consD (ev_powO e_t1 (ev_int (K := K)) (ev_int (K := K))) (ea_nilD (K := K))))))))) ok (fun (st3 : (List Dat)) σ1 G1 M1 => ∃ (y_l_often : Option V) (v_l_tune_here : V), σ1 = [some v_l_call, some v_l_tune_here, y_l_often] ∧ (Dq K G1 v_l_tune_here ((eT id) st3)) ∧ (Same M0 M1)) e_fin2 (fun G1 s1 => ⟨_, _, rfl, dp_up s1 _ h_l_tune_here, hB⟩) (by rintro _ _ _ _ _ ⟨y_l_often, v_l_tune_here, rfl, h_l_tune_here, hB⟩ s2; exact ⟨_, _, rfl, dp_up s2 _ h_l_tune_here, hB⟩) (fun x4 xv7 st3 st' σ1 G M H N hm hj s1 ok hv hN => ?_) (fun σ1 G M H s1 ok hj => ?_)
    · obtain ⟨y_l_often, v_l_tune_here, rfl, h_l_tune_here, hB⟩ := hj
      have h_l_call := dp_up s1 _ h_l_call
      have sg := sg.trans s1
      have sl8 := Same.refl G
      refine gn ?_
      have h_l_often := hv
      cases h_l_often
      refine nrm (σ' := [some v_l_call, some v_l_tune_here, some (.int x4)]) rfl ?_
      refine q_set (σ' := fun v => [some v_l_call, some v, some (.int x4)]) (ev_tup (ea_consD (ev_tup (ea_consD (ev_d (K := K) rfl h_l_tune_here) (ea_consD (ev_d (K := K) rfl (.int _)) (ea_nilD (K := K))))) (ea_nilD (K := K)))) ok (fun _ => rfl) (fun v_l_tune_here G H s1 ok h_l_tune_here => ?_)
      have h_l_call := dp_up s1 _ h_l_call
      have sg := sg.trans s1
      have sl8 := sl8.trans s1
      refine q_nil ?_
      cases hm
      exact hN _ _ _ _ sl8 ok ⟨_, _, rfl, h_l_tune_here, hB⟩
    · obtain ⟨y_l_often, v_l_tune_here, rfl, h_l_tune_here, hB⟩ := hj
      have h_l_call := dp_up s1 _ h_l_call
      have sg := sg.trans s1
      refine q_ret (ev_d (K := K) rfl h_l_tune_here) ok (fun v G H s1 ok hv => ?_)
      have sg := sg.trans s1
      cases hm
      exact q v G H sg (ok.less hB) hv
/-! ### _law_right -/
theorem sc__law_right : FnScope ["_law_store", "_law_kit_here", "_law_tower", "_law_call", "_law_mate", "_law_tunes", "_law_turn", "_law_wide", "_law_tune_here"] ["_law_store"] (defScope s__law_right) := ⟨rfl, rfl, rfl, by decide +kernel, rfl, by decide +kernel, by decide +kernel⟩
def a__law_right (K : PySem.W.Frag) (a : Unit) : List V → Hp → Prop := nilP
def m__law_right (a : Unit) (z : Sto) : Option (Bool × Sto) :=
  (m__law_kit ((8 : Int), (24 : Int)) z).bind fun t1 => (m_Peal___init__ (t1.1.1, t1.1.2)).bind fun t2 => (atI t1.1.1 (0 : Int)).bind fun t3 => (atI t1.1.1 (-(1 : Int))).bind fun t4 => (powO (10 : Int) (30 : Int)).bind fun t5 => (mulTO ([(([] : (List Dat)), t5)] : (List ((List Dat) × Int))) (120 : Int)).bind fun t6 => (m__law_deep t4.1).bind fun t7 => (catO t7 ([(Dat.str t3.1)] : (List Dat))).bind fun t8 => (mulTO ([t3.1, t4.1] : (List Str)) (60 : Int)).bind fun t9 => (rngO (10 : Int)).bind fun t10 => (forO (fun (st12 : (List (List Dat)) × Sto) (x13 : Int) => (m__law_pull (4 : Int) st12.2).bind fun t18 => (atI ([([(4 : Int), (3 : Int)] : (List Int)), ([(2 : Int), (5 : Int)] : (List Int)), ([(9 : Int), (2 : Int)] : (List Int)), ([(30 : Int), (1 : Int)] : (List Int))] : (List (List Int))) t18.1).bind fun t19 => (atI t19 (1 : Int)).bind fun t20 => (atI t19 (0 : Int)).bind fun t21 => (powO (10 : Int) (30 : Int)).bind fun t22 => (m__law_pull (3 : Int) t18.2).bind fun t23 => (atI ([(3 : Int), (99 : Int), t22] : (List Int)) t23.1).bind fun t24 => (m__law_tune 6 (t1.1, t20, t21, t24) t23.2).bind fun t25 => (appO st12.1 t25.1).bind fun t26 => some (t26, t25.2)) t10 (([([] : (List Dat)), ([(Dat.str t3.1)] : (List Dat)), ([((eP2 (eT id) Dat.int) ([], (1 : Int)))] : (List Dat)), (t6.map (eP2 (eT id) Dat.int)), t8, (t9.map Dat.str)] : (List (List Dat))), t1.2)).bind fun fin11 => (lcO (fun x27 : (List Dat) => (m__law_one_right (t2, x27)).bind fun t33 => some t33) fin11.1).bind fun t34 => some ((t34.all id), fin11.2)
abbrev sp__law_right [Tb] (K : PySem.W.Frag) : Sp := spD (a__law_right K) (m__law_right) fun r => DD K (Dat.bool r)
theorem ok__law_right [Tb] {P : Program} {w : World} {K : PySem.W.Frag} {mg : Str → Option Value} {base : Heap} (T : Txt K mg) (O__law_kit : FnOk P w K mg base CX0 3 T.a__law_kit T.d__law_kit ["_law_store", "_law_upto", "_law_most"] (sp__law_kit K)) (O_Peal___init__ : FnOk P w K mg base CX0 5 T.a_Peal___init__ T.d_Peal___init__ ["self", "bells", "notches"] (sp_Peal___init__ K)) (O__law_deep : FnOk P w K mg base CX0 1 T.a__law_deep T.d__law_deep ["_law_call"] (sp__law_deep K)) (O__law_pull : FnOk P w K mg base CX0 1 T.a__law_pull T.d__law_pull ["_law_store", "_law_many"] (sp__law_pull K)) (O__law_tune : FnOk P w K mg base CX0 8 T.a__law_tune T.d__law_tune ["_law_store", "_law_kit_here", "_law_deep_here", "_law_wide", "_law_often"] (sp__law_tune K 6)) (O__law_one_right : FnOkG P w K mg base CX0 23 T.a__law_one_right T.d__law_one_right ["_law_tower", "_law_tune_here"] (sp__law_one_right K)) : FnOkG P w K mg base CX0 (24) T.a__law_right T.d__law_right ["_law_store"] (sp__law_right K) := by
  refine okG T.F__law_right sc__law_right (fun vs H Q E h => ?_) (fun cdv A outer s0 H vs Q E hr hgd h => ?_)
  · obtain ⟨G, M0, s, z, z1, a, r, ws, rfl, ok, hs, rfl, hm, q⟩ := h
    rfl
  · obtain ⟨G, M0, s, z, z1, a, r, ws, rfl, ok, hs, rfl, hm, q⟩ := h
    unfold m__law_right at hm
    have sg := Same.refl G
    have hB : ∀ a u, a ≠ s → M0 a = some u → M0 a = some u := fun _ _ _ h => h
    refine ⟨_, (pss_cons (ps_set (i := 1) sc__law_right.nd rfl (.inl rfl) (pe_call O__law_kit (hr.mono (by decide)) (by rfl) T.g__law_kit T.F__law_kit.kp T.b__law_kit .nil pass0 (pa_cons (pv 0) (pa_cons pe_int (pa_cons pe_int pa_nil))))) (pss_cons (ps_asg (pe_tup (pa_cons (pe_make T.mk_Peal O_Peal___init__ (hr.mono (by decide)) (by rfl) T.mg_Peal T.b_Peal___init__ .nil pass0 (pa_cons (pe_ix (ix_tupK (K := K)) (pv 1) pe_int (fun _ _ => rfl)) (pa_cons (pe_ix (ix_tupK (K := K)) (pv 1) pe_int (fun _ _ => rfl)) pa_nil))) (pa_cons (pe_ix (ix_tupK (K := K)) (pe_ix (ix_tupK (K := K)) (pe_ix (ix_tupK (K := K)) (pv 1) pe_int (fun _ _ => rfl)) pe_int (fun _ _ => rfl)) pe_int (fun _ _ => rfl)) (pa_cons (pe_ix (ix_tupK (K := K)) (pe_ix (ix_tupK (K := K)) (pe_ix (ix_tupK (K := K)) (pv 1) pe_int (fun _ _ => rfl)) (pe_un un_neg pe_int) (fun _ _ => rfl)) pe_int (fun _ _ => rfl)) pa_nil)))) (pg_tup rfl (pgs_cons (pg_name (i := 2) sc__law_right.nd rfl (.inr rfl)) (pgs_cons (pg_name (i := 3) sc__law_right.nd rfl (.inl rfl)) (pgs_cons (pg_name (i := 4) sc__law_right.nd rfl (.inl rfl)) pgs_nil))))) (pss_cons (ps_set (i := 5) sc__law_right.nd rfl (.inl rfl) (pe_lst (pa_cons (pe_tupF pa_nil) (pa_cons (pe_tupF (pa_cons (pv 3) pa_nil)) (pa_cons (pe_tupF (pa_cons (pe_tupF (pa_cons (pe_tupF pa_nil) (pa_cons pe_int pa_nil))) pa_nil)) (pa_cons (pe_op (op_mulT (K := K)) (pe_tupF (pa_cons (pe_tupF (pa_cons (pe_tupF pa_nil) (pa_cons (pe_op op_pow pe_int pe_int) pa_nil))) pa_nil)) pe_int) (pa_cons (pe_op (op_catAK (K := K)) (pe_call O__law_deep (hr.mono (by decide)) (by rfl) T.g__law_deep T.F__law_deep.kp T.b__law_deep .nil pass0 (pa_cons (pv 4) pa_nil)) (pe_tupF (pa_cons (pv 3) pa_nil))) (pa_cons (pe_op (op_mulT (K := K)) (pe_tupF (pa_cons (pv 3) (pa_cons (pv 4) pa_nil))) pe_int) pa_nil)))))))) (pss_cons (ps_for PassesOwn.never rfl (pi_range1 (by rfl) T.n_range (pa_cons pe_int pa_nil)) (pg_name (i := 6) sc__law_right.nd rfl (.inl rfl)) (pss_cons (ps_set (i := 7) sc__law_right.nd rfl (.inl rfl) (pe_ix (ix_listK (K := K)) (pe_lst (pa_cons (pe_lst (pa_cons pe_int (pa_cons pe_int pa_nil))) (pa_cons (pe_lst (pa_cons pe_int (pa_cons pe_int pa_nil))) (pa_cons (pe_lst (pa_cons pe_int (pa_cons pe_int pa_nil))) (pa_cons (pe_lst (pa_cons pe_int (pa_cons pe_int pa_nil))) pa_nil))))) (pe_call O__law_pull (hr.mono (by decide)) (by rfl) T.g__law_pull T.F__law_pull.kp T.b__law_pull .nil pass0 (pa_cons (pv 0) (pa_cons pe_int pa_nil))) (fun _ _ => rfl))) (pss_cons (ps_expr (pe_bm PySem.F.plainAttrs_list PySem.F.slot_list_append PySem.F.type_list_append mt_append (pv 5) (pa_cons (pe_call O__law_tune (hr.mono (by decide)) (by rfl) T.g__law_tune T.F__law_tune.kp T.b__law_tune .nil pass0 (pa_cons (pv 0) (pa_cons (pv 1) (pa_cons (pe_ix (ix_listK (K := K)) (pv 7) pe_int (fun _ _ => rfl)) (pa_cons (pe_ix (ix_listK (K := K)) (pv 7) pe_int (fun _ _ => rfl)) (pa_cons (pe_ix (ix_listK (K := K)) (pe_lst (pa_cons pe_int (pa_cons pe_int (pa_cons (pe_op op_pow pe_int pe_int) pa_nil)))) (pe_call O__law_pull (hr.mono (by decide)) (by rfl) T.g__law_pull T.F__law_pull.kp T.b__law_pull .nil pass0 (pa_cons (pv 0) (pa_cons pe_int pa_nil))) (fun _ _ => rfl)) pa_nil)))))) pa_nil))) pss_nil))) (pss_cons (ps_ret (pe_callB (cr_allK (K := K) rfl) (by rfl) T.n_all (by decide +kernel) (pa_cons (pe_lc (own := [("_law_tune_here", 8)]) (g := (gName 8)) (tt := tYes) rfl sc__law_right.nd (pi_listK (K := K) (pv 5)) (blkOk_by (own := [("_law_tune_here", 8)]) (N := ["_law_store", "_law_kit_here", "_law_tower", "_law_call", "_law_mate", "_law_tunes", "_law_turn", "_law_wide", "_law_tune_here"]) (sc := defScope s__law_right) (by decide +kernel)) (fun _ _ _ _ _ => (pg_name (i := 8) sc__law_right.nd rfl (by first | exact .inl rfl | exact .inr rfl))) (fun _ _ _ _ _ => pts_nil) (fun _ _ _ _ _ => (pe_callG O__law_one_right hgd (hr.mono (by decide)) (by rfl) T.g__law_one_right T.F__law_one_right.kp T.b__law_one_right .nil pass0 (pa_cons (pv 2) (pa_cons (pv 8) pa_nil))))) pa_nil))) pss_nil))))), ?_⟩
    refine nrm (σ' := [some (.ref s), none, none, none, none, none, none, none, none]) rfl ?_
    obtain ⟨t1, e_t1, hm⟩ := bs hm
    refine q_set (σ' := fun v => [some (.ref s), some v, none, none, none, none, none, none, none]) (ev_callD (a := ((8 : Int), (24 : Int))) (r := t1.1) (z' := t1.2) hs e_t1 (ea_cons mo_ow (ev_own rfl) (ea_d (ev_int (K := K)) (ea_d (ev_int (K := K)) ea_nil)))) ok (fun _ => rfl) (fun v_l_kit_here G H s1 ok h_l_kit_here => ?_)
    have sg := sg.trans s1
    have ok : Ok _ (upd M0 s (sto t1.2)) _ := ok
    have hs : (upd M0 s (sto t1.2)) s = some (sto t1.2) := upd_same
    have hB : ∀ a u, a ≠ s → M0 a = some u → (upd M0 s (sto t1.2)) a = some u := (hB_draw hB)
    obtain ⟨M, eM⟩ : ∃ m, m = (upd M0 s (sto t1.2)) := ⟨_, rfl⟩
    rw [← eM] at ok hs hB
    clear eM
    obtain ⟨t2, e_t2, hm⟩ := bs hm
    obtain ⟨t3, e_t3, hm⟩ := bs hm
    obtain ⟨t4, e_t4, hm⟩ := bs hm
    refine q_tupX (ex_D mo_dd (ev_make (a := (t1.1.1, t1.1.2)) e_t2 (ea_d (ev_ixT (d := (eT (eP2 Dat.str Dat.int)) t1.1.1) rfl (ev_d (K := K) rfl h_l_kit_here) ev_int) (ea_d (ev_ixT (d := (eT (eP3 Dat.str Dat.str Dat.int)) t1.1.2) rfl (ev_d (K := K) rfl h_l_kit_here) ev_int) ea_nil))) (ex_D mo_dd (ev_ixT (d := Dat.str t3.1) rfl (ev_ixTM (e := (eP2 Dat.str Dat.int)) e_t3 (ev_ixT (d := (eT (eP2 Dat.str Dat.int)) t1.1.1) rfl (ev_d (K := K) rfl h_l_kit_here) ev_int) (ev_int (K := K))) ev_int) (ex_D mo_dd (ev_ixT (d := Dat.str t4.1) rfl (ev_ixTM (e := (eP2 Dat.str Dat.int)) e_t4 (ev_ixT (d := (eT (eP2 Dat.str Dat.int)) t1.1.1) rfl (ev_d (K := K) rfl h_l_kit_here) ev_int) (ev_neg (ev_int (K := K)))) ev_int) ex_nil))) ok (fun vs G M H s1 okN hx => ?_)
    obtain ⟨v_l_tower, _, rfl, h_l_tower, v_l_call, _, rfl, h_l_call, v_l_mate, _, rfl, h_l_mate, rfl, rfl⟩ := hx
    have ok := okN
    refine tup_go3 (K := K) ok fun G H s2 ok => ?_
    have s1 := s1.trans s2
    have h_l_tower := dp_up s2 _ h_l_tower
    have h_l_call := dp_up s2 _ h_l_call
    have h_l_mate := dp_up s2 _ h_l_mate
    have h_l_kit_here := dp_up s1 _ h_l_kit_here
    have sg := sg.trans s1
    refine nrm (σ' := [some (.ref s), some v_l_kit_here, some v_l_tower, some v_l_call, some v_l_mate, none, none, none, none]) rfl ?_
    obtain ⟨t5, e_t5, hm⟩ := bs hm
    obtain ⟨t6, e_t6, hm⟩ := bs hm
    obtain ⟨t7, e_t7, hm⟩ := bs hm
    obtain ⟨t8, e_t8, hm⟩ := bs hm
    obtain ⟨t9, e_t9, hm⟩ := bs hm
    refine q_setL (σ' := fun v => [some (.ref s), some v_l_kit_here, some v_l_tower, some v_l_call, some v_l_mate, some v, none, none, none]) (el_lst (ea_consD (ev_tup (ea_nilD (K := K))) (ea_consD (ev_tup (ea_consD (ev_d (K := K) rfl h_l_call) (ea_nilD (K := K)))) (ea_consD (ev_tup (ea_consD (ev_tup (ea_consD (ev_tup (ea_nilD (K := K))) (ea_consD (ev_int (K := K)) (ea_nilD (K := K))))) (ea_nilD (K := K)))) (ea_consD (ev_TD (e := (eP2 (eT id) Dat.int)) (ev_mulT (e := (eP2 (eT id) Dat.int)) e_t6 (ev_tup (ea_consD (ev_tup (ea_consD (ev_tup (ea_nilD (K := K))) (ea_consD (ev_powO e_t5 (ev_int (K := K)) (ev_int (K := K))) (ea_nilD (K := K))))) (ea_nilD (K := K)))) (ev_int (K := K)))) (ea_consD (ev_catTO (e := id) e_t8 (ev_callP (res := fun r => DD K ((eT id) r)) (a := t4.1) e_t7 (ea_d (ev_d (K := K) rfl h_l_mate) ea_nil)) (ev_tup (ea_consD (ev_d (K := K) rfl h_l_call) (ea_nilD (K := K))))) (ea_consD (ev_TD (e := Dat.str) (ev_mulT (e := Dat.str) e_t9 (ev_tup (ea_consD (ev_d (K := K) rfl h_l_call) (ea_consD (ev_d (K := K) rfl h_l_mate) (ea_nilD (K := K))))) (ev_int (K := K)))) (ea_nilD (K := K))))))))) ok (fun _ => rfl) (fun p_l_tunes vs_l_tunes G H s1 ok hn hd_l_tunes => ?_)
    have h_l_kit_here := dp_up s1 _ h_l_kit_here
    have h_l_tower := dp_up s1 _ h_l_tower
    have h_l_call := dp_up s1 _ h_l_call
    have h_l_mate := dp_up s1 _ h_l_mate
    have sg := sg.trans s1
    have n_l_store_l_tunes : s ≠ p_l_tunes := ne_of_none hs hn
    have n_l_tunes_l_store := n_l_store_l_tunes.symm
    have h0_l_tunes : M0 p_l_tunes = none := hB_none (M := M) hB hs hn
    have hd_l_tunes : DqAll K G vs_l_tunes (([([] : (List Dat)), ([(Dat.str t3.1)] : (List Dat)), ([((eP2 (eT id) Dat.int) ([], (1 : Int)))] : (List Dat)), (t6.map (eP2 (eT id) Dat.int)), t8, (t9.map Dat.str)] : (List (List Dat))).map (eT id)) := hd_l_tunes
    have ok : Ok _ (upd M p_l_tunes (.lst vs_l_tunes)) _ := ok
    have hs : (upd M p_l_tunes (.lst vs_l_tunes)) s = some (sto t1.2) := (up_ne n_l_store_l_tunes hs)
    have hB : ∀ a u, a ≠ s → M0 a = some u → (upd M p_l_tunes (.lst vs_l_tunes)) a = some u := (hB_own hB h0_l_tunes)
    have hp_l_tunes : (upd M p_l_tunes (.lst vs_l_tunes)) p_l_tunes = some (.lst vs_l_tunes) := upd_same
    obtain ⟨M, eM⟩ : ∃ m, m = (upd M p_l_tunes (.lst vs_l_tunes)) := ⟨_, rfl⟩
    rw [← eM] at ok hs hB hp_l_tunes
    clear eM
    obtain ⟨t10, e_t10, hm⟩ := bs hm
    obtain ⟨fin11, e_fin11, hm⟩ := bs hm
    have hmo14 := hm
    refine q_forO (ea := Dat.int) (src_rngO e_t10 (ea_d (ev_int (K := K)) ea_nil)) ok (fun (st12 : (List (List Dat)) × Sto) σ1 G1 M1 => ∃ (y_l_wide : Option V) (y_l_turn : Option V) (vs_l_tunes : List V), σ1 = [some (.ref s), some v_l_kit_here, some v_l_tower, some v_l_call, some v_l_mate, some (.ref p_l_tunes), y_l_turn, y_l_wide, none] ∧ (DqAll K G1 vs_l_tunes (st12.1.map (eT id))) ∧ (M1 p_l_tunes = some (.lst vs_l_tunes)) ∧ (M1 s = some (sto st12.2)) ∧ (∀ a u, a ≠ s → M0 a = some u → M1 a = some u)) e_fin11 (fun G1 s1 => ⟨_, _, _, rfl, dpAll_up s1 _ hd_l_tunes, hp_l_tunes, hs, hB⟩) (by rintro _ _ _ _ _ ⟨y_l_wide, y_l_turn, vs_l_tunes, rfl, hd_l_tunes, hp_l_tunes, hs, hB⟩ s2; exact ⟨_, _, _, rfl, dpAll_up s2 _ hd_l_tunes, hp_l_tunes, hs, hB⟩) (fun x13 xv16 st12 st' σ1 G M H N hm hj s1 ok hv hN => ?_) (fun σ1 G M H s1 ok hj => ?_)
    · obtain ⟨y_l_wide, y_l_turn, vs_l_tunes, rfl, hd_l_tunes, hp_l_tunes, hs, hB⟩ := hj
      have h_l_kit_here := dp_up s1 _ h_l_kit_here
      have h_l_tower := dp_up s1 _ h_l_tower
      have h_l_call := dp_up s1 _ h_l_call
      have h_l_mate := dp_up s1 _ h_l_mate
      have sg := sg.trans s1
      have sl17 := Same.refl G
      refine gn ?_
      have h_l_turn := hv
      cases h_l_turn
      refine nrm (σ' := [some (.ref s), some v_l_kit_here, some v_l_tower, some v_l_call, some v_l_mate, some (.ref p_l_tunes), some (.int x13), y_l_wide, none]) rfl ?_
      obtain ⟨t18, e_t18, hm⟩ := bs hm
      obtain ⟨t19, e_t19, hm⟩ := bs hm
      refine q_set (σ' := fun v => [some (.ref s), some v_l_kit_here, some v_l_tower, some v_l_call, some v_l_mate, some (.ref p_l_tunes), some (.int x13), some v, none]) (ev_ixLM (e := (eL Dat.int)) e_t19 (EvL.ev (el_lst (ea_consD (EvL.ev (el_lst (ea_consD (ev_int (K := K)) (ea_consD (ev_int (K := K)) (ea_nilD (K := K)))))) (ea_consD (EvL.ev (el_lst (ea_consD (ev_int (K := K)) (ea_consD (ev_int (K := K)) (ea_nilD (K := K)))))) (ea_consD (EvL.ev (el_lst (ea_consD (ev_int (K := K)) (ea_consD (ev_int (K := K)) (ea_nilD (K := K)))))) (ea_consD (EvL.ev (el_lst (ea_consD (ev_int (K := K)) (ea_consD (ev_int (K := K)) (ea_nilD (K := K)))))) (ea_nilD (K := K)))))))) (ev_callD (a := (4 : Int)) (r := t18.1) (z' := t18.2) hs e_t18 (ea_cons mo_ow (ev_own rfl) (ea_d (ev_int (K := K)) ea_nil)))) ok (fun _ => rfl) (fun v_l_wide G H s1 ok h_l_wide => ?_)
      have h_l_kit_here := dp_up s1 _ h_l_kit_here
      have h_l_tower := dp_up s1 _ h_l_tower
      have h_l_call := dp_up s1 _ h_l_call
      have h_l_mate := dp_up s1 _ h_l_mate
      have hd_l_tunes := dpAll_up s1 _ hd_l_tunes
      have sg := sg.trans s1
      have sl17 := sl17.trans s1
      have ok : Ok _ (upd M s (sto t18.2)) _ := ok
      have hs : (upd M s (sto t18.2)) s = some (sto t18.2) := upd_same
      have hB : ∀ a u, a ≠ s → M0 a = some u → (upd M s (sto t18.2)) a = some u := (hB_draw hB)
      have hp_l_tunes : (upd M s (sto t18.2)) p_l_tunes = some (.lst vs_l_tunes) := (up_ne n_l_tunes_l_store hp_l_tunes)
      obtain ⟨M, eM⟩ : ∃ m, m = (upd M s (sto t18.2)) := ⟨_, rfl⟩
      rw [← eM] at ok hs hB hp_l_tunes
      clear eM
      obtain ⟨t20, e_t20, hm⟩ := bs hm
      obtain ⟨t21, e_t21, hm⟩ := bs hm
      obtain ⟨t22, e_t22, hm⟩ := bs hm
      obtain ⟨t23, e_t23, hm⟩ := bs hm
      obtain ⟨t24, e_t24, hm⟩ := bs hm
      obtain ⟨t25, e_t25, hm⟩ := bs hm
      obtain ⟨t26, e_t26, hm⟩ := bs hm
      obtain ⟨hl_t26, ea_t26⟩ := appO_of e_t26
      refine q_append (ev_own rfl) (ea_d (ev_callD (a := (t1.1, t20, t21, t24)) (r := t25.1) (z' := t25.2) upd_same e_t25 (ea_cons mo_ow (ev_own rfl) (ea_d (ev_d (K := K) rfl h_l_kit_here) (ea_d (ev_ixLM (e := Dat.int) e_t20 (ev_d (K := K) rfl h_l_wide) (ev_int (K := K))) (ea_d (ev_ixLM (e := Dat.int) e_t21 (ev_d (K := K) rfl h_l_wide) (ev_int (K := K))) (ea_d (ev_ixLM (e := Dat.int) e_t24 (EvL.ev (el_lst (ea_consD (ev_int (K := K)) (ea_consD (ev_int (K := K)) (ea_consD (ev_powO e_t22 (ev_int (K := K)) (ev_int (K := K))) (ea_nilD (K := K))))))) (ev_callD (a := (3 : Int)) (r := t23.1) (z' := t23.2) hs e_t23 (ea_cons mo_ow (ev_own rfl) (ea_d (ev_int (K := K)) ea_nil)))) ea_nil)))))) ea_nil) hp_l_tunes (up_ne n_l_tunes_l_store (up_ne n_l_tunes_l_store hp_l_tunes)) (by rw [dpAll_len hd_l_tunes, List.length_map]; exact szlt hl_t26) ok (fun v G H s1 ok hv => ?_)
      have h_l_kit_here := dp_up s1 _ h_l_kit_here
      have h_l_tower := dp_up s1 _ h_l_tower
      have h_l_call := dp_up s1 _ h_l_call
      have h_l_mate := dp_up s1 _ h_l_mate
      have hd_l_tunes := dpAll_up s1 _ hd_l_tunes
      have h_l_wide := dp_up s1 _ h_l_wide
      have sg := sg.trans s1
      have sl17 := sl17.trans s1
      have hd_l_tunes : DqAll K G (vs_l_tunes ++ [v]) (t26.map (eT id)) := by rw [ea_t26, List.map_append]; exact dpAll_app hd_l_tunes (.cons hv .nil)
      have ok : Ok _ (upd (upd (upd M s (sto t23.2)) s (sto t25.2)) p_l_tunes (.lst (vs_l_tunes ++ [v]))) _ := ok
      have hs : (upd (upd (upd M s (sto t23.2)) s (sto t25.2)) p_l_tunes (.lst (vs_l_tunes ++ [v]))) s = some (sto t25.2) := (up_ne n_l_store_l_tunes upd_same)
      have hB : ∀ a u, a ≠ s → M0 a = some u → (upd (upd (upd M s (sto t23.2)) s (sto t25.2)) p_l_tunes (.lst (vs_l_tunes ++ [v]))) a = some u := (hB_own (hB_draw (hB_draw hB)) h0_l_tunes)
      have hp_l_tunes : (upd (upd (upd M s (sto t23.2)) s (sto t25.2)) p_l_tunes (.lst (vs_l_tunes ++ [v]))) p_l_tunes = some (.lst (vs_l_tunes ++ [v])) := upd_same
      obtain ⟨M, eM⟩ : ∃ m, m = (upd (upd (upd M s (sto t23.2)) s (sto t25.2)) p_l_tunes (.lst (vs_l_tunes ++ [v]))) := ⟨_, rfl⟩
      rw [← eM] at ok hs hB hp_l_tunes
      clear eM
      obtain ⟨vs_l_tunes, e_vs⟩ : ∃ m, m = (vs_l_tunes ++ [v]) := ⟨_, rfl⟩
      rw [← e_vs] at hp_l_tunes hd_l_tunes
      clear e_vs
      refine q_nil ?_
      cases hm
      exact hN _ _ _ _ sl17 ok ⟨_, _, _, rfl, hd_l_tunes, hp_l_tunes, hs, hB⟩
    · obtain ⟨y_l_wide, y_l_turn, vs_l_tunes, rfl, hd_l_tunes, hp_l_tunes, hs, hB⟩ := hj
      have h_l_kit_here := dp_up s1 _ h_l_kit_here
      have h_l_tower := dp_up s1 _ h_l_tower
      have h_l_call := dp_up s1 _ h_l_call
      have h_l_mate := dp_up s1 _ h_l_mate
      have sg := sg.trans s1
      refine k_del ok hp_l_tunes (fun G M1 s1 hg hM ok => ?_)
      have h_l_kit_here := dp_up s1 _ h_l_kit_here
      have h_l_tower := dp_up s1 _ h_l_tower
      have h_l_call := dp_up s1 _ h_l_call
      have h_l_mate := dp_up s1 _ h_l_mate
      have hd_l_tunes := dpAll_up s1 _ hd_l_tunes
      have sg := sg.trans s1
      have h_l_tunes : Dq K G (.ref p_l_tunes) ((eL (eT id)) fin11.1) := .lst hg hd_l_tunes
      have hB := hB_del hM h0_l_tunes hB
      have hs := (hM _ n_l_store_l_tunes).trans hs
      obtain ⟨t34, e_t34, hm⟩ := bs hm
      refine q_ret (ev_allL (ea_d (EvL.ev (el_lcM (ea := (eT id)) (eb := Dat.bool) (xs := fin11.1) (ys := t34) (hf := e_t34) (src_list (ev_d (K := K) rfl h_l_tunes)) (fun x27 _ Mx31 _ _ he32 sM30 sG29 hv28 => by (obtain ⟨t33, e_t33, he32⟩ := bs he32); (have he32 := Option.some.inj he32); subst he32; exact (tg_name ⟨rfl, (ev_callP (res := fun r => DD K (Dat.bool r)) (a := (t2, x27)) e_t33 (ea_d (ev_d (K := K) rfl (dp_up sG29 _ h_l_tower)) (ea_d (ev_d (K := K) rfl hv28) ea_nil)))⟩)))) ea_nil)) ok (fun v G H s1 ok hv => ?_)
      have sg := sg.trans s1
      cases hm
      exact q v G H sg (ok.less (same_fin hB hs)) hv
/-! ### law -/
theorem sc_law : FnScope ["_law_script", "_law_tower", "_law_k"] ["_law_script"] (defScope s_law) := ⟨rfl, rfl, rfl, by decide +kernel, rfl, by decide +kernel, by decide +kernel⟩
def a_law (K : PySem.W.Frag) (a : (List Int)) : List V → Hp → Prop := conP (SCP K a) (nilP)
def m_law (a : (List Int)) : Option Bool :=
  (m_Peal___init__ (([((Str.ofString "a"), (2 : Int)), ((Str.ofString "b"), (2 : Int))] : (List (Str × Int))), ([] : (List (Str × Str × Int))))).bind fun t1 => (m_show_course (t1, ([(Dat.str (Str.ofString "a")), ((eP2 (eP3 Dat.str (eP2 (eT id) Dat.int) Dat.str) Dat.int) (((Str.ofString "b"), ([], (3 : Int)), (Str.ofString "a")), (12 : Int)))] : (List Dat)))).bind fun t2 => cond (!decide (t2 = (Str.ofString "a (b (-)x3 a)x12"))) (some false) ((rngO (if (if (6 : Int) < (a.length : Int) then (6 : Int) else (a.length : Int)) > (2 : Int) then (if (6 : Int) < (a.length : Int) then (6 : Int) else (a.length : Int)) else (2 : Int))).bind fun t3 => (lcO (fun x4 : Int => (m__law_opened (a, x4)).bind fun t10 => (m__law_right () t10).bind fun t11 => some t11.1) t3).bind fun t12 => some (t12.all id))
abbrev sp_law [Tb] (K : PySem.W.Frag) : Sp := spP (a_law K) (m_law) fun r => DD K (Dat.bool r)
theorem ok_law [Tb] {P : Program} {w : World} {K : PySem.W.Frag} {mg : Str → Option Value} {base : Heap} (T : Txt K mg) (O_Peal___init__ : FnOk P w K mg base CX0 5 T.a_Peal___init__ T.d_Peal___init__ ["self", "bells", "notches"] (sp_Peal___init__ K)) (O_show_course : FnOk P w K mg base CX0 18 T.a_show_course T.d_show_course ["peal", "course"] (sp_show_course K)) (O__law_right : FnOkG P w K mg base CX0 24 T.a__law_right T.d__law_right ["_law_store"] (sp__law_right K)) (O__law_opened : FnOk P w K mg base CX0 1 T.a__law_opened T.d__law_opened ["_law_script", "_law_k"] (sp__law_opened K)) : FnOkG P w K mg base CX0 (25) T.a_law T.d_law ["_law_script"] (sp_law K) := by
  refine okG T.F_law sc_law (fun vs H Q E h => ?_) (fun cdv A outer s0 H vs Q E hr hgd h => ?_)
  · obtain ⟨G, M0, a, r, ok, ⟨v_l_script, _, rfl, h_l_script, rfl⟩, hm, q⟩ := h
    rfl
  · obtain ⟨G, M0, a, r, ok, ⟨v_l_script, _, rfl, h_l_script, rfl⟩, hm, q⟩ := h
    unfold m_law at hm
    have sg := Same.refl G
    have hB := Same.refl M0
    refine ⟨_, (pss_cons (ps_set (i := 1) sc_law.nd rfl (.inl rfl) (pe_make T.mk_Peal O_Peal___init__ (hr.mono (by decide)) (by rfl) T.mg_Peal T.bd_Peal___init__ valsE pass0 (pa_cons (pe_tupF (pa_cons (pe_tupF (pa_cons pe_str (pa_cons pe_int pa_nil))) (pa_cons (pe_tupF (pa_cons pe_str (pa_cons pe_int pa_nil))) pa_nil))) pa_nil))) (pss_cons (ps_if (pt_cmpR op_ne (pe_call O_show_course (hr.mono (by decide)) (by rfl) T.g_show_course T.F_show_course.kp T.b_show_course .nil pass0 (pa_cons (pv 1) (pa_cons (pe_tupF (pa_cons pe_str (pa_cons (pe_tupF (pa_cons (pe_tupF (pa_cons pe_str (pa_cons (pe_tupF (pa_cons (pe_tupF pa_nil) (pa_cons pe_int pa_nil))) (pa_cons pe_str pa_nil)))) (pa_cons pe_int pa_nil))) pa_nil))) pa_nil))) pe_str (nomark _)) (pss_cons (ps_ret pe_bl) pss_nil) pss_nil) (pss_cons (ps_ret (pe_callB (cr_allK (K := K) rfl) (by rfl) T.n_all (by decide +kernel) (pa_cons (pe_lc (own := [("_law_k", 2)]) (g := (gName 2)) (tt := tYes) rfl sc_law.nd (pi_range1 (by rfl) T.n_range (pa_cons (pe_callB (cl_max2 rfl) (by rfl) T.n_max (by decide +kernel) (pa_cons pe_int (pa_cons (pe_callB (cl_min2 rfl) (by rfl) T.n_min (by decide +kernel) (pa_cons (pe_callB (cl_lenK (K := K)) (by rfl) T.n_len (by decide +kernel) (pa_cons (pv 0) pa_nil)) (pa_cons pe_int pa_nil))) pa_nil))) pa_nil)) (blkOk_by (own := [("_law_k", 2)]) (N := ["_law_script", "_law_tower", "_law_k"]) (sc := defScope s_law) (by decide +kernel)) (fun _ _ _ _ _ => (pg_name (i := 2) sc_law.nd rfl (by first | exact .inl rfl | exact .inr rfl))) (fun _ _ _ _ _ => pts_nil) (fun _ _ _ _ _ => (pe_callG O__law_right hgd (hr.mono (by decide)) (by rfl) T.g__law_right T.F__law_right.kp T.b__law_right .nil pass0 (pa_cons (pe_call O__law_opened (hr.mono (by decide)) (by rfl) T.g__law_opened T.F__law_opened.kp T.b__law_opened .nil pass0 (pa_cons (pv 0) (pa_cons (pv 2) pa_nil))) pa_nil)))) pa_nil))) pss_nil))), ?_⟩
    refine nrm (σ' := [some v_l_script, none, none]) rfl ?_
    obtain ⟨t1, e_t1, hm⟩ := bs hm
    refine q_set (σ' := fun v => [some v_l_script, some v, none]) (ev_makeE (a := (([((Str.ofString "a"), (2 : Int)), ((Str.ofString "b"), (2 : Int))] : (List (Str × Int))), ([] : (List (Str × Str × Int))))) (dv := [.ref T.e_Peal___init__]) e_t1 (fun _ _ h => by obtain ⟨v0, _, rfl, h0, rfl⟩ := h; exact ⟨v0, _, rfl, h0, _, _, rfl, nilT_dd T.nt_Peal___init__, rfl⟩) (ea_d (ev_tup (ea_consD (ev_tup (ea_consD (ev_str (K := K) (by decide +kernel)) (ea_consD (ev_int (K := K)) (ea_nilD (K := K))))) (ea_consD (ev_tup (ea_consD (ev_str (K := K) (by decide +kernel)) (ea_consD (ev_int (K := K)) (ea_nilD (K := K))))) (ea_nilD (K := K))))) ea_nil)) ok (fun _ => rfl) (fun v_l_tower G H s1 ok h_l_tower => ?_)
    have h_l_script := mo_scp _ _ _ s1 h_l_script
    have sg := sg.trans s1
    obtain ⟨t2, e_t2, hm⟩ := bs hm
    refine q_if (et_test (ev_neS (ev_callP (res := fun r => DD K (Dat.str r)) (a := (t1, ([(Dat.str (Str.ofString "a")), ((eP2 (eP3 Dat.str (eP2 (eT id) Dat.int) Dat.str) Dat.int) (((Str.ofString "b"), ([], (3 : Int)), (Str.ofString "a")), (12 : Int)))] : (List Dat)))) e_t2 (ea_d (ev_d (K := K) rfl h_l_tower) (ea_d (ev_tup (ea_consD (ev_str (K := K) (by decide +kernel)) (ea_consD (ev_tup (ea_consD (ev_tup (ea_consD (ev_str (K := K) (by decide +kernel)) (ea_consD (ev_tup (ea_consD (ev_tup (ea_nilD (K := K))) (ea_consD (ev_int (K := K)) (ea_nilD (K := K))))) (ea_consD (ev_str (K := K) (by decide +kernel)) (ea_nilD (K := K)))))) (ea_consD (ev_int (K := K)) (ea_nilD (K := K))))) (ea_nilD (K := K))))) ea_nil))) (ev_str (K := K) (by decide +kernel)))) ok (fun hb G H s1 ok => ?_) (fun hb G H s1 ok => ?_)
    · have hm := cond_t hb hm
      have h_l_script := mo_scp _ _ _ s1 h_l_script
      have h_l_tower := dp_up s1 _ h_l_tower
      have sg := sg.trans s1
      refine q_ret (ev_bl (K := K)) ok (fun v G H s1 ok hv => ?_)
      have sg := sg.trans s1
      cases hm
      exact q v G H sg (ok.less hB) hv
    · have hm := cond_f hb hm
      have h_l_script := mo_scp _ _ _ s1 h_l_script
      have h_l_tower := dp_up s1 _ h_l_tower
      have sg := sg.trans s1
      refine q_nilU ?_
      obtain ⟨t3, e_t3, hm⟩ := bs hm
      obtain ⟨t12, e_t12, hm⟩ := bs hm
      refine q_ret (ev_allL (ea_d (EvL.ev (el_lcM (ea := Dat.int) (eb := Dat.bool) (xs := t3) (ys := t12) (hf := e_t12) (src_rngO e_t3 (ea_d (ev_max2 (ea_d (ev_int (K := K)) (ea_d (ev_min2 (ea_d (ev_lenScr (ea_cons mo_scp (ev_var rfl mo_scp h_l_script) ea_nil)) (ea_d (ev_int (K := K)) ea_nil))) ea_nil))) ea_nil)) (fun x4 _ Mx8 _ _ he9 sM7 sG6 hv5 => by (obtain ⟨t10, e_t10, he9⟩ := bs he9); (obtain ⟨t11, e_t11, he9⟩ := bs he9); cases he9; exact (tg_name ⟨rfl, (ev_open (a := (a, x4)) e_t10 e_t11 (fun _ => rfl) (ea_cons mo_scp (ev_var rfl mo_scp (mo_scp _ _ _ sG6 h_l_script)) (ea_cons mo_dd (ev_d (K := K) rfl hv5) ea_nil)))⟩)))) ea_nil)) ok (fun v G H s1 ok hv => ?_)
      have sg := sg.trans s1
      cases hm
      exact q v G H sg (ok.less hB) hv
end K16
end
section
set_option maxHeartbeats 2000000
namespace Mx
open PySem L2 Kx
/-! ### what a mirror tells, by what is wanted of it -/
def Wp {α : Type} (o : Option α) (P : α → Prop) : Prop := ∃ r, o = some r ∧ P r
section
variable {α β γ S R : Type}
theorem wp_some {r : α} {P : α → Prop} (h : P r) : Wp (some r) P := ⟨r, rfl, h⟩
theorem wp_bind {o : Option α} {f : α → Option β} {P : α → Prop} {Q : β → Prop} (h : Wp o P) (k : ∀ r, P r → Wp (f r) Q) : Wp (o.bind f) Q := by
  obtain ⟨r, e, p⟩ := h
  obtain ⟨s, e2, q⟩ := k r p
  exact ⟨s, by rw [e]; exact e2, q⟩
theorem Wp.imp {o : Option α} {P Q : α → Prop} (h : Wp o P) (k : ∀ r, P r → Q r) : Wp o Q := by
  obtain ⟨r, e, p⟩ := h
  exact ⟨r, e, k r p⟩
theorem wp_cond {b : Bool} {x y : Option α} {P : α → Prop} (h1 : b = true → Wp x P) (h2 : b = false → Wp y P) : Wp (cond b x y) P := by
  cases b with
  | true => exact h1 rfl
  | false => exact h2 rfl
theorem wp_grd {p : Prop} [Decidable p] (h : p) : Wp (grd p) fun _ => True := ⟨(), grd_yes h, trivial⟩
theorem wp_mulO {i j : Int} {P : Int → Prop} (h : CMulO i j) (k : P (i * j)) : Wp (mulO i j) P := wp_bind (wp_grd h) fun _ _ => wp_some k
theorem wp_fdivO {i j : Int} {P : Int → Prop} (h : CDivN i j) (k : P (i.fdiv j)) : Wp (fdivO i j) P := wp_bind (wp_grd (.inl h)) fun _ _ => wp_some k
theorem wp_modO {i j : Int} {P : Int → Prop} (h : j ≠ 0) (k : P (i.fmod j)) : Wp (modO i j) P := wp_bind (wp_grd h) fun _ _ => wp_some k
theorem wp_powO {i j : Int} {P : Int → Prop} (h : CPow i j) (k : P (i ^ j.toNat)) : Wp (powO i j) P := wp_bind (wp_grd h) fun _ _ => wp_some k
theorem cdivw {i j : Int} {n : Nat} (h1 : 0 < j) (h2 : j < 2 ^ 200) : CDivW i j := ⟨h1, Nat.lt_of_lt_of_le (PySem.Flt.log2_lt_of (k := 200) (by decide) (by omega)) (by decide)⟩
theorem wp_dmO {i j : Int} {P : Int × Int → Prop} (h : CDivW i j) (k : P (i / j, i % j)) : Wp (dmO i j) P := wp_bind (wp_grd h) fun _ _ => wp_some k
theorem wp_is {o : Option α} {x : α} {P : α → Prop} (h : o = some x) (k : P x) : Wp o P := ⟨x, h, k⟩
theorem wp_appO {xs : List α} {x : α} {P : List α → Prop} (h : xs.length < 16777216) (k : P (xs ++ [x])) : Wp (appO xs x) P := wp_bind (wp_grd h) fun _ _ => wp_some k
theorem wp_catO {xs ys : List α} {P : List α → Prop} (h : xs.length + ys.length ≤ 16777216) (k : P (xs ++ ys)) : Wp (catO xs ys) P := wp_bind (wp_grd h) fun _ _ => wp_some k
theorem wp_rngO {n : Int} {P : List Int → Prop} (h : -(2 ^ 62) ≤ n ∧ n < 2 ^ 62) (k : P (irange 0 n)) : Wp (rngO n) P := wp_bind (wp_grd h) fun _ _ => wp_some k
theorem wp_rngN {n : Nat} {P : List Int → Prop} (h : n ≤ 16777216) (k : P (irange 0 (n : Int))) : Wp (rngO (n : Int)) P := wp_rngO (by omega) k
theorem atI_nat' {xs : List α} {i : Nat} (h : i < xs.length) : atI xs (i : Int) = some xs[i] := by
  unfold atI ixN
  rw [if_pos (by omega), if_pos (by omega)]
  show xs[(i : Int).toNat]? = _
  rw [Int.toNat_natCast]
  exact List.getElem?_eq_getElem h
theorem wp_atI {xs : List α} {i : Nat} {P : α → Prop} (h : i < xs.length) (k : P xs[i]) : Wp (atI xs (i : Int)) P := ⟨_, atI_nat' h, k⟩
/-- a comprehension: each element by what is wanted of it -/
theorem wp_mapO {f : α → Option β} {T : α → β → Prop} : ∀ {xs : List α}, (∀ x ∈ xs, Wp (f x) (T x)) → Wp (mapO f xs) fun ys => ys.length = xs.length ∧ ∀ (i : Nat) (x : α) (y : β), xs[i]? = some x → ys[i]? = some y → T x y
  | [], _ => wp_some ⟨rfl, fun i x y h => by simp at h⟩
  | a :: xs, h => by
    refine wp_bind (h a List.mem_cons_self) fun b hb => wp_bind (wp_mapO fun x hx => h x (List.mem_cons_of_mem _ hx)) fun ys hys => wp_some ⟨congrArg (· + 1) hys.1, fun i x y hx hy => ?_⟩
    cases i with
    | zero => simp at hx hy; subst hx; subst hy; exact hb
    | succ i => exact hys.2 i x y (by simpa using hx) (by simpa using hy)
theorem wp_lcO {f : α → Option β} {xs : List α} {P : List β → Prop} (T : α → β → Prop) (hl : xs.length ≤ 16777216) (h : ∀ x ∈ xs, Wp (f x) (T x)) (k : ∀ ys, ys.length = xs.length → (∀ (i : Nat) (x : α) (y : β), xs[i]? = some x → ys[i]? = some y → T x y) → P ys) : Wp (lcO f xs) P :=
  wp_bind (wp_grd hl) fun _ _ => (wp_mapO h).imp fun ys hy => k ys hy.1 hy.2
/-- its elements are a function of the items -/
theorem wp_lcO_map {f : α → Option β} {xs : List α} {P : List β → Prop} (g : α → β) (hl : xs.length ≤ 16777216) (h : ∀ x ∈ xs, f x = some (g x)) (k : P (xs.map g)) : Wp (lcO f xs) P :=
  wp_lcO (fun x y => y = g x) hl (fun x hx => ⟨g x, h x hx, rfl⟩) fun ys h1 h2 => by
    have : ys = xs.map g := by
      apply List.ext_getElem?
      intro i
      rw [List.getElem?_map]
      by_cases hi : i < xs.length
      · rw [List.getElem?_eq_getElem hi, List.getElem?_eq_getElem (by omega)]
        exact congrArg some (h2 i xs[i] ys[i] (List.getElem?_eq_getElem hi) (List.getElem?_eq_getElem (by omega)))
      · rw [List.getElem?_eq_none (by omega), List.getElem?_eq_none (by omega)]
        rfl
    rw [this]
    exact k
theorem wp_mapS {f : α → Sto → Option (β × Sto)} {T : α → β → Prop} : ∀ {xs : List α} {z : Sto}, (∀ x ∈ xs, ∀ z, Wp (f x z) fun r => T x r.1) → Wp (mapS f xs z) fun r => r.1.length = xs.length ∧ ∀ (i : Nat) (x : α) (y : β), xs[i]? = some x → r.1[i]? = some y → T x y
  | [], z, _ => wp_some ⟨rfl, fun i x y h => by simp at h⟩
  | a :: xs, z, h => by
    refine wp_bind (h a List.mem_cons_self z) fun b hb => wp_bind (wp_mapS fun x hx => h x (List.mem_cons_of_mem _ hx)) fun ys hys => wp_some ⟨congrArg (· + 1) hys.1, fun i x y hx hy => ?_⟩
    cases i with
    | zero => simp at hx hy; subst hx; subst hy; exact hb
    | succ i => exact hys.2 i x y (by simpa using hx) (by simpa using hy)
theorem wp_lcS {f : α → Sto → Option (β × Sto)} {xs : List α} {z : Sto} {P : List β × Sto → Prop} (T : α → β → Prop) (hl : xs.length ≤ 16777216) (h : ∀ x ∈ xs, ∀ z, Wp (f x z) fun r => T x r.1) (k : ∀ r : List β × Sto, r.1.length = xs.length → (∀ (i : Nat) (x : α) (y : β), xs[i]? = some x → r.1[i]? = some y → T x y) → P r) : Wp (lcS f xs z) P :=
  wp_bind (wp_grd hl) fun _ _ => (wp_mapS h).imp fun ys hy => k ys hy.1 hy.2
/-- a for, by an invariant over the turn -/
theorem wp_forO_at {f : S → α → Option S} {xs : List α} {P : S → Prop} (I : Nat → S → Prop) (hs : ∀ (i : Nat) (x : α) (s : S), xs[i]? = some x → I i s → Wp (f s x) (I (i + 1))) (hd : ∀ s, I xs.length s → P s) : ∀ (i : Nat) (s : S), i ≤ xs.length → I i s → Wp (forO f (xs.drop i) s) P := by
  intro i
  generalize hn : xs.length - i = n
  induction n generalizing i with
  | zero =>
    intro s hi h
    have e : i = xs.length := by omega
    subst e
    rw [List.drop_length]
    exact wp_some (hd s h)
  | succ n ih =>
    intro s hi h
    have hlt : i < xs.length := by omega
    rw [List.drop_eq_getElem_cons hlt]
    exact wp_bind (hs i xs[i] s (List.getElem?_eq_getElem hlt) h) fun s' h' => ih (i + 1) (by omega) s' (by omega) h'
theorem wp_forO {f : S → α → Option S} {xs : List α} {s : S} {P : S → Prop} (I : Nat → S → Prop) (h0 : I 0 s) (hs : ∀ (i : Nat) (x : α) (s : S), xs[i]? = some x → I i s → Wp (f s x) (I (i + 1))) (hd : ∀ s, I xs.length s → P s) : Wp (forO f xs s) P :=
  wp_forO_at I hs hd 0 s (Nat.zero_le _) h0
end
/-! ### ranges -/
theorem irange_nat_len (n : Nat) : (irange 0 (n : Int)).length = n := by rw [irange_len]; omega
theorem irange_at {n i : Nat} {x : Int} (h : (irange 0 (n : Int))[i]? = some x) : i < n ∧ x = (i : Int) := by
  have hl : i < (irange 0 (n : Int)).length := (List.getElem?_eq_some_iff.mp h).1
  rw [irange_nat_len] at hl
  rw [irange_get (by omega)] at h
  cases h
  exact ⟨hl, by omega⟩
theorem irange_mem {n : Nat} {x : Int} (h : x ∈ irange 0 (n : Int)) : ∃ i : Nat, i < n ∧ x = (i : Int) := by
  obtain ⟨i, hi, e⟩ := List.mem_iff_getElem.mp h
  exact ⟨i, irange_at (by rw [← e]; exact List.getElem?_eq_getElem hi)⟩
theorem enum_at {α : Type} {xs : List α} {i : Nat} {p : Int × α} (h : (enum xs)[i]? = some p) : ∃ x, xs[i]? = some x ∧ p = ((i : Int), x) := by
  unfold enum at h
  rw [List.getElem?_mapIdx] at h
  cases e : xs[i]? with
  | none => rw [e] at h; cases h
  | some x => rw [e] at h; cases h; exact ⟨x, rfl, rfl⟩
end Mx
end
section
set_option maxHeartbeats 2000000
namespace Mx
/-! ### rows of numbers as functions -/
abbrev Vc := Nat → Int
def vf (l : List Int) : Vc := fun i => l.getD i 0
theorem vf_at {l : List Int} {i : Nat} (h : i < l.length) : vf l i = l[i] := by unfold vf; simp [List.getD, h]
/-! ### all that is spanned -/
/-! ### rungs: noughts ahead, a step above 0 at the place -/
end Mx
end
section
set_option maxHeartbeats 2000000
namespace K16
open PySem L2 Kx Mx
theorem fm {a b : Int} (h : 0 < b) : a.fmod b = a % b := Int.fmod_eq_emod_of_nonneg a (by omega)
theorem fd {a b : Int} (h : 0 < b) : a.fdiv b = a / b := Int.fdiv_eq_ediv_of_nonneg a (by omega)
/-- moduli -/
structure Mdl (m : List Int) : Prop where
  l1 : 1 ≤ m.length
  l2 : m.length ≤ 12
  b : ∀ x ∈ m, 1 ≤ x ∧ x ≤ 99
theorem Mdl.at {m : List Int} (h : Mdl m) {i : Nat} (hi : i < m.length) : 1 ≤ vf m i ∧ vf m i ≤ 99 := by
  rw [vf_at hi]
  exact h.b _ (List.getElem_mem hi)
theorem small_mul {i j : Int} (h : -(2 ^ 64) < j ∧ j < 2 ^ 64) : CMulO i j := .inl (.inr h)
theorem small_mul' {i j : Int} (h : -(2 ^ 64) < i ∧ i < 2 ^ 64) : CMulO i j := .inl (.inl h)
end K16
end
section
set_option maxHeartbeats 2000000
namespace K16
open PySem L2 Kx Mx
theorem pull_spec {a : Int} (z : Sto) (h1 : 0 < a) (h2 : a < 2 ^ 200) : Wp (m__law_pull a z) fun r => 0 ≤ r.1 ∧ r.1 < a := by
  unfold m__law_pull pullM
  refine wp_cond (fun e => ?_) (fun e => ?_)
  · refine wp_bind (wp_dmO (P := fun t => t = (z.1 / a, z.1 % a)) (cdivw (n := 0) h1 h2) rfl) fun t ht => wp_some ?_
    subst ht
    exact ⟨Int.emod_nonneg _ (by omega), Int.emod_lt_of_pos _ h1⟩
  · refine wp_bind (wp_modO (P := fun t => 0 ≤ t ∧ t < 40961) (by decide) ?_) fun t1 ⟨g1, g2⟩ => ?_
    · rw [fm (by decide)]
      exact ⟨Int.emod_nonneg _ (by decide), Int.emod_lt_of_pos _ (by decide)⟩
    refine wp_bind (wp_mulO (P := fun _ => True) (small_mul ⟨by omega, by omega⟩) trivial) fun t2 _ => wp_bind (wp_mulO (P := fun _ => True) (small_mul' ⟨by decide, by decide⟩) trivial) fun t3 _ => ?_
    refine wp_bind (wp_modO (P := fun _ => True) (by decide) trivial) fun t4 _ => wp_bind (wp_fdivO (P := fun _ => True) ⟨by decide, by decide⟩ trivial) fun t5 _ => wp_bind (wp_modO (P := fun t => 0 ≤ t ∧ t < a) (by omega) ?_) fun t6 h6 => wp_some h6
    rw [fm h1]
    exact ⟨Int.emod_nonneg _ (by omega), Int.emod_lt_of_pos _ h1⟩
theorem opened_spec (ns : List Int) (k : Nat) : Wp (m__law_opened (ns, (k : Int))) fun _ => True := by
  unfold m__law_opened
  dsimp only
  refine wp_bind (wp_mulO (P := fun _ => True) (small_mul' ⟨by decide, by decide⟩) trivial) fun t1 _ => ?_
  refine wp_bind (P := fun _ => True) (wp_cond (fun e => ?_) (fun e => wp_some trivial)) fun j2 _ => ?_
  · have : (k : Int) < (ns.length : Int) := of_decide_eq_true e
    exact wp_bind (wp_atI (i := k) (P := fun _ => True) (by omega) trivial) fun t4 _ => wp_some trivial
  refine wp_bind (P := fun _ => True) (wp_cond (fun e => wp_some trivial) (fun e => wp_bind (wp_powO (P := fun _ => True) ⟨by decide, by decide, by decide⟩ trivial) fun t6 _ => wp_some trivial)) fun t7 _ => ?_
  refine wp_bind (wp_mulO (P := fun _ => True) (small_mul (by split <;> omega)) trivial) fun t8 _ => wp_bind (wp_mulO (P := fun _ => True) (small_mul' ⟨by decide, by decide⟩) trivial) fun t9 _ => wp_bind (wp_mulO (P := fun _ => True) (small_mul' ⟨by decide, by decide⟩) trivial) fun t10 _ => wp_bind (wp_modO (P := fun _ => True) (by decide) trivial) fun t11 _ => wp_some trivial
end K16
end
section
set_option maxHeartbeats 2000000
namespace K16
open PySem L2 Kx Mx
/-! ### _law_same of a thing and itself -/
inductive Pl : Nat → Dat → Prop
  | none (k : Nat) : Pl k .none
  | bool (k : Nat) (b : Bool) : Pl k (.bool b)
  | int (k : Nat) (i : Int) : Pl k (.int i)
  | str (k : Nat) (s : Str) : Pl k (.str s)
  | tup {k : Nat} {xs : List Dat} : xs.length ≤ 16777216 → (∀ x ∈ xs, Pl k x) → Pl (k + 1) (.tuple xs)
theorem eqDO_int (i : Int) : eqDO (.int i) (.int i) = some true := by
  unfold eqDO
  rw [grd_yes (by unfold pur toPy PyData.depth; decide)]
  unfold toPy PyData.eqv
  simp
theorem eqDO_bool (i : Bool) : eqDO (.bool i) (.bool i) = some true := by
  unfold eqDO
  rw [grd_yes (by unfold pur toPy PyData.depth; decide)]
  unfold toPy PyData.eqv
  simp
theorem eqDO_str (i : Str) : eqDO (.str i) (.str i) = some true := by
  unfold eqDO
  rw [grd_yes (by unfold pur toPy PyData.depth; decide)]
  unfold toPy PyData.eqv
  simp
theorem same_refl : ∀ {k : Nat} {d : Dat}, Pl k d → m__law_same (k + 1) (d, d) = some true
  | _, _, .none k => rfl
  | _, _, .bool k b => by
    unfold m__law_same
    simp [isO, isT, isB, isIns, isND, eqDO_bool]
  | _, _, .int k i => by
    unfold m__law_same
    simp [isO, isT, isB, isI, isIns, isND, eqDO_int]
  | _, _, .str k i => by
    unfold m__law_same
    simp [isO, isT, isB, isI, isS, isIns, isND, eqDO_str]
  | _, _, @Pl.tup k xs hl h => by
    have ih : ∀ x ∈ xs, m__law_same (k + 1) (x, x) = some true := fun x hx => same_refl (h x hx)
    have W : Wp (m__law_same (k + 1 + 1) (.tuple xs, .tuple xs)) fun b => b = true := by
      unfold m__law_same
      refine wp_bind (P := fun t => t = true) (wp_some rfl) fun t1 e1 => ?_
      subst e1
      refine wp_cond (fun _ => ?_) fun e => by cases e
      refine wp_bind (P := fun t => t = true) (wp_some rfl) fun t2 e2 => ?_
      subst e2
      refine wp_bind (P := fun t => t = false) ?_ fun t5 e5 => ?_
      · refine wp_cond (fun e => by cases e) fun _ => ?_
        refine wp_bind (P := fun t => t = (xs.length : Int)) (wp_some rfl) fun t3 e3 => wp_bind (P := fun t => t = (xs.length : Int)) (wp_some rfl) fun t4 e4 => wp_some ?_
        subst e3; subst e4; simp
      subst e5
      refine wp_cond (fun e => by cases e) fun _ => ?_
      refine wp_bind (P := fun t => t = (xs.length : Int)) (wp_some rfl) fun t6 e6 => ?_
      subst e6
      refine wp_bind (wp_rngN (P := fun t => t = irange 0 (xs.length : Int)) hl rfl) fun t7 e7 => ?_
      subst e7
      refine wp_bind (P := fun t : List Bool => t.all id = true) (wp_lcO (fun _ y => y = true) (by rw [irange_nat_len]; exact hl) (fun x hx => ?_) ?_) fun t17 h => wp_some h
      · obtain ⟨j, hj, rfl⟩ := irange_mem hx
        refine wp_bind (wp_is (o := atD (.tuple xs) (j : Int)) (x := xs[j]) (P := fun t => t = xs[j]) (atI_nat' hj) rfl) fun t14 e14 => ?_
        refine wp_bind (wp_is (o := atD (.tuple xs) (j : Int)) (x := xs[j]) (P := fun t => t = xs[j]) (atI_nat' hj) rfl) fun t15 e15 => ?_
        subst e14; subst e15
        exact wp_bind (wp_is (P := fun t => t = true) (ih xs[j] (List.getElem_mem hj)) rfl) fun t16 e16 => wp_some e16
      · intro ys hl' h'
        rw [List.all_eq_true]
        intro y hy
        obtain ⟨i, hi⟩ := List.mem_iff_getElem?.mp hy
        have hil := (List.getElem?_eq_some_iff.mp hi).1
        have := h' i _ y (List.getElem?_eq_getElem (by omega)) hi
        rw [this]; rfl
    obtain ⟨r, hr, e⟩ := W
    rw [hr, e]
end K16
end
section
set_option maxHeartbeats 2000000
namespace K16
open PySem L2 Kx Mx
/-! ### names -/
structure NameOk (z : Str) : Prop where
  l1 : 1 ≤ z.cps.toList.length
  l2 : z.cps.toList.length ≤ 6
  b : ∀ c ∈ z.cps.toList, 97 ≤ c ∧ c ≤ 122
theorem letters : (Str.ofString "abcdefghijklmnopqrstuvwxyz").cps.toList = List.range' 97 26 := by decide +kernel
theorem str_len (z : Str) : z.length = z.cps.toList.length := by
  show z.cps.size = _
  rw [Array.length_toList]
theorem letter_at {i : Nat} (h : i < 26) : atS (Str.ofString "abcdefghijklmnopqrstuvwxyz") (i : Int) = some ⟨#[97 + i]⟩ := by
  unfold atS
  rw [grd_yes (by rw [str_len, letters]; decide)]
  show (atI (Str.ofString "abcdefghijklmnopqrstuvwxyz").cps.toList (i : Int)).bind _ = _
  rw [letters, atI_nat' (by simpa using h)]
  simp
theorem is_name_spec {z : Str} (h : NameOk z) : m_is_name z = some true := by
  have W : Wp (m_is_name z) fun b => b = true := by
    unfold m_is_name
    refine wp_bind (P := fun t => t = false) (wp_cond (fun e => by cases e) fun _ => ?_) fun t2 e2 => ?_
    · refine wp_bind (P := fun t => t = (z.cps.toList.length : Int)) ?_ fun t1 e1 => wp_some ?_
      · unfold lenS
        exact wp_bind (wp_grd (by rw [str_len]; have := h.l2; omega)) fun _ _ => wp_some (by rw [str_len])
      · subst e1
        have := h.l1
        have := h.l2
        simp only [Bool.not_eq_false', Bool.and_eq_true, decide_eq_true_eq]
        omega
    · subst e2
      refine wp_cond (fun e => by cases e) fun _ => ?_
      refine wp_bind (P := fun t : List Bool => t.all id = true) (wp_lcO (fun _ y => y = true) ?_ (fun x hx => ?_) ?_) fun t10 h => wp_some h
      · unfold signs
        rw [List.length_map]
        have := h.l2
        omega
      · unfold signs at hx
        obtain ⟨c, hc, rfl⟩ := List.mem_map.mp hx
        have hb := h.b c hc
        refine wp_bind (P := fun t => t = true) (wp_some ?_) fun t9 e => wp_some e
        rw [letters]
        refine decide_eq_true (List.mem_range'.mpr ⟨c - 97, by omega, by omega⟩)
      · intro ys hl h
        rw [List.all_eq_true]
        intro y hy
        obtain ⟨i, hi⟩ := List.mem_iff_getElem?.mp hy
        have hil := (List.getElem?_eq_some_iff.mp hi).1
        have := h i _ y (List.getElem?_eq_getElem (by omega)) hi
        rw [this]; rfl
  obtain ⟨r, hr, e⟩ := W
  rw [hr, e]
/-! ### spelling -/
def dg : Nat → Nat → List Nat
  | 0, _ => []
  | i + 1, n => (97 + n / 26 ^ i % 26) :: dg i n
theorem dg_len : ∀ (w n : Nat), (dg w n).length = w
  | 0, _ => rfl
  | w + 1, n => by rw [dg, List.length_cons, dg_len w n]
theorem dg_b : ∀ (w n : Nat), ∀ c ∈ dg w n, 97 ≤ c ∧ c ≤ 122
  | 0, _, c, h => by simp [dg] at h
  | w + 1, n, c, h => by
    rw [dg] at h
    rcases List.mem_cons.mp h with e | h
    · rw [e]
      have := Nat.mod_lt (n / 26 ^ w) (show 0 < 26 by decide)
      omega
    · exact dg_b w n c h
theorem dg_inj : ∀ {w n m : Nat}, dg w n = dg w m → n % 26 ^ w = m % 26 ^ w
  | 0, n, m, _ => by rw [Nat.pow_zero, Nat.mod_one, Nat.mod_one]
  | w + 1, n, m, h => by
    rw [dg, dg] at h
    obtain ⟨h1, h2⟩ := List.cons.inj h
    have ih := dg_inj h2
    rw [Nat.mod_pow_succ, Nat.mod_pow_succ, ih]
    have : n / 26 ^ w % 26 = m / 26 ^ w % 26 := by omega
    rw [this]
theorem spelt_spec {n w : Nat} (hw : w ≤ 6) : Wp (m__law_spelt ((n : Int), (w : Int))) fun r => r.cps.toList = dg w n := by
  unfold m__law_spelt
  refine wp_bind (wp_rngN (P := fun t => t = irange 0 (w : Int)) (by omega) rfl) fun t1 e1 => ?_
  subst e1
  refine wp_bind (wp_forO (P := fun s => s.1.cps.toList = dg w n) (fun i s => s.1.cps.toList = dg i n ∧ s.2 = ((n / 26 ^ i : Nat) : Int)) ⟨rfl, by simp⟩ ?_ ?_) fun fin h => wp_some h
  · intro i x s hx ⟨h1, h2⟩
    obtain ⟨hi, rfl⟩ := irange_at hx
    refine wp_bind (wp_modO (P := fun t => t = ((n / 26 ^ i % 26 : Nat) : Int)) (by decide) (by rw [fm (by decide), h2]; exact (Int.natCast_emod _ _).symm)) fun t9 e9 => ?_
    subst e9
    have hl := Nat.mod_lt (n / 26 ^ i) (show 0 < 26 by decide)
    refine wp_bind (wp_is (P := fun t : Str => t = ⟨#[97 + n / 26 ^ i % 26]⟩) (letter_at hl) rfl) fun t10 e10 => ?_
    subst e10
    refine wp_bind (P := fun t : Str => t.cps.toList = dg (i + 1) n) ?_ fun t11 h11 => ?_
    · unfold addS
      have ls : s.1.cps.toList.length = i := by rw [h1, dg_len]
      refine wp_bind (wp_grd (by rw [str_len, str_len, ls]; simp; omega)) fun _ _ => wp_some ?_
      show ((#[97 + n / 26 ^ i % 26] : Array Nat) ++ s.1.cps).toList = _
      rw [Array.toList_append, h1]
      rfl
    refine wp_bind (wp_fdivO (P := fun t => t = ((n / 26 ^ (i + 1) : Nat) : Int)) ⟨by decide, by decide⟩ ?_) fun t12 e12 => wp_some ⟨h11, e12⟩
    rw [fd (by decide), h2, Nat.pow_succ, ← Nat.div_div_eq_div_mul]
    exact (Int.natCast_ediv _ _).symm
  · intro s h
    rw [irange_nat_len] at h
    exact h.1
end K16
end
section
set_option maxHeartbeats 2000000
namespace K16
open PySem L2 Kx Mx
theorem pull_nat {a : Int} (z : Sto) (h1 : 0 < a) (h2 : a < 2 ^ 200) : Wp (m__law_pull a z) fun r => ∃ k : Nat, r.1 = (k : Int) ∧ (k : Int) < a :=
  (pull_spec z h1 h2).imp fun r ⟨g1, g2⟩ => ⟨r.1.toNat, by omega, by omega⟩
theorem srt_strict {xs : List Str} (h : xs.Nodup) : (srt xs).Pairwise fun a b => sLt a b = true := by
  have n : (srt xs).Nodup := (srt_perm xs).nodup_iff.mpr h
  refine ((srt_sorted xs).and n).imp fun {a b} ⟨h1, h2⟩ => ?_
  cases e : sLt a b with
  | true => rfl
  | false =>
    unfold sLe at h1
    exact absurd (sLt_tri e (by simpa using h1)) h2
def Nms (cs : List Str) : Prop := (∀ x ∈ cs, NameOk x) ∧ cs.Pairwise fun a b => sLt a b = true
theorem nodup_at {α : Type} {xs : List α} (h : ∀ (i j : Nat) (x y : α), i < j → xs[i]? = some x → xs[j]? = some y → x ≠ y) : xs.Nodup := by
  refine List.pairwise_iff_getElem.mpr fun i j hi hj hij => ?_
  exact h i j _ _ hij (List.getElem?_eq_getElem hi) (List.getElem?_eq_getElem hj)
theorem sort_nmsM {xs : List Str} {P : List Str → Prop} (hl : xs.length < 64) (hn : ∀ x ∈ xs, NameOk x) (hd : xs.Nodup) (k : ∀ ys, ys.length = xs.length → Nms ys → (∀ y ∈ ys, y ∈ xs) → P ys) : Wp (sortS xs) P :=
  wp_bind (wp_grd hl) fun _ _ => wp_some (k _ (srt_perm xs).length_eq ⟨fun x hx => hn x ((srt_perm xs).mem_iff.mp hx), srt_strict hd⟩ fun y hy => (srt_perm xs).mem_iff.mp hy)
def nameB (z : Str) : Bool := decide (1 ≤ z.cps.toList.length) && decide (z.cps.toList.length ≤ 6) && z.cps.toList.all fun c => decide (97 ≤ c) && decide (c ≤ 122)
theorem nameB_of {z : Str} (h : nameB z = true) : NameOk z := by
  unfold nameB at h
  simp only [Bool.and_eq_true, decide_eq_true_eq, List.all_eq_true] at h
  exact ⟨h.1.1, h.1.2, fun c hc => h.2 c hc⟩
abbrev W12 : List Str := [(Str.ofString "bell"), (Str.ofString "turns"), (Str.ofString "ring"), (Str.ofString "go"), (Str.ofString "tell"), (Str.ofString "hang"), (Str.ofString "down"), (Str.ofString "put"), (Str.ofString "strike"), (Str.ofString "back"), (Str.ofString "lots"), (Str.ofString "home")]
theorem w12_ok : W12.all nameB = true := by decide +kernel
theorem w12_nd : W12.Nodup := by decide +kernel
theorem mem4 {α : Type} {a b c d x : α} {k : Nat} (h : ([a, b, c, d] : List α)[k]? = some x) : x = a ∨ x = b ∨ x = c ∨ x = d := by
  have := List.mem_of_getElem? h
  simpa using this
theorem wp_at4 {a b c d : Int} {k : Nat} (hk : k < 4) : Wp (atI ([a, b, c, d] : List Int) (k : Int)) fun x => x = a ∨ x = b ∨ x = c ∨ x = d :=
  wp_atI (by simpa using hk) (mem4 (List.getElem?_eq_getElem (by simpa using hk)))
theorem pow6 {k : Nat} (h : k < 6) : atI ([(26 : Int), (676 : Int), (17576 : Int), (456976 : Int), (11881376 : Int), (308915776 : Int)] : List Int) (k : Int) = some ((26 ^ (k + 1) : Nat) : Int) := by
  match k, h with
  | 0, _ => rfl
  | 1, _ => rfl
  | 2, _ => rfl
  | 3, _ => rfl
  | 4, _ => rfl
  | 5, _ => rfl
/-- words, or of one width -/
def Wd (cs : List Str) : Prop := (∀ x ∈ cs, x ∈ W12) ∨ ∃ w, ∀ x ∈ cs, x.cps.toList.length = w
theorem calls_specW {n : Nat} (z : Sto) (h2 : n ≤ 8) : Wp (m__law_calls (n : Int) z) fun r => r.1.length = n ∧ Nms r.1 ∧ Wd r.1 := by
  unfold m__law_calls
  refine wp_bind (pull_nat z (by decide) (by decide)) fun t1 _ => wp_cond (fun _ => ?_) fun _ => ?_
  · refine wp_bind (pull_nat _ (by decide) (by decide)) fun t2 ⟨f, e2, hf⟩ => wp_bind (pull_nat _ (by decide) (by decide)) fun t3 ⟨l, e3, hl⟩ => ?_
    rw [e2, e3]
    refine wp_bind (wp_at4 (by omega)) fun t4 h4 => ?_
    refine wp_bind (wp_rngN (P := fun t => t = irange 0 (n : Int)) (by omega) rfl) fun t5 e5 => ?_
    subst e5
    refine wp_bind (P := fun t : List Str => t.length = n ∧ (∀ x ∈ t, NameOk x) ∧ t.Nodup ∧ ∀ x ∈ t, x ∈ W12) (wp_lcO (fun x y => W12[((f : Int) + t4 * x).toNat % 12]? = some y) (by rw [irange_nat_len]; omega) (fun x hx => ?_) ?_) fun t15 ⟨a1, a2, a3, a4⟩ => ?_
    · obtain ⟨j, hj, rfl⟩ := irange_mem hx
      refine wp_bind (wp_mulO (P := fun t => t = t4 * (j : Int)) (small_mul ⟨by omega, by omega⟩) rfl) fun t12 e12 => ?_
      subst e12
      obtain ⟨l4, rfl⟩ : ∃ l4 : Nat, t4 = (l4 : Int) := ⟨t4.toNat, by omega⟩
      have en : (f : Int) + (l4 : Int) * (j : Int) = ((f + l4 * j : Nat) : Int) := by push_cast; rfl
      rw [en]
      refine wp_bind (wp_modO (P := fun t => t = (((f + l4 * j) % 12 : Nat) : Int)) (by decide) (by rw [fm (by decide)]; exact (Int.natCast_emod _ _).symm)) fun t13 e13 => ?_
      subst e13
      have hm := Nat.mod_lt (f + l4 * j) (show 0 < 12 by decide)
      refine wp_bind (wp_atI (xs := W12) (P := fun y => W12[(f + l4 * j) % 12]? = some y) (by simpa using hm) (List.getElem?_eq_getElem (by simpa using hm))) fun t14 h14 => wp_some ?_
      rw [Int.toNat_natCast]
      exact h14
    · intro ys hl hy
      rw [irange_nat_len] at hl
      have at' : ∀ i y, ys[i]? = some y → i < n ∧ W12[((f : Int) + t4 * (i : Int)).toNat % 12]? = some y := fun i y e => by
        have hi : i < n := by have := (List.getElem?_eq_some_iff.mp e).1; omega
        have hx : (irange 0 (n : Int))[i]? = some (i : Int) := by rw [irange_get (by omega)]; simp
        exact ⟨hi, hy i (i : Int) y hx e⟩
      refine ⟨hl, fun x hx => ?_, nodup_at fun i j x y hij hx hy' e => ?_, fun x hx => ?_⟩
      · obtain ⟨i, hi⟩ := List.mem_iff_getElem?.mp hx
        exact nameB_of ((List.all_eq_true.mp w12_ok) x (List.mem_of_getElem? (at' i x hi).2))
      · subst e
        obtain ⟨b1, b2⟩ := at' i x hx
        obtain ⟨b3, b4⟩ := at' j x hy'
        have q : ((f : Int) + t4 * (i : Int)).toNat % 12 = ((f : Int) + t4 * (j : Int)).toNat % 12 := by
          have hi := (List.getElem?_eq_some_iff.mp b2).1
          exact (List.getElem?_inj hi w12_nd).mp (b2.trans b4.symm)
        rcases h4 with rfl | rfl | rfl | rfl <;> omega
      · obtain ⟨i, hi⟩ := List.mem_iff_getElem?.mp hx
        exact List.mem_of_getElem? (at' i x hi).2
    · exact wp_bind (sort_nmsM (P := fun ys => ys.length = n ∧ Nms ys ∧ Wd ys) (by omega) a2 a3 fun ys h1 h2 h3 => ⟨by omega, h2, .inl fun y hy => a4 y (h3 y hy)⟩) fun t16 h => wp_some h
  · refine wp_bind (pull_nat _ (by decide) (by decide)) fun t17 ⟨w, e17, hw⟩ => wp_bind (pull_nat _ (by decide) (by decide)) fun t18 ⟨l, e18, hl⟩ => ?_
    rw [e17, e18]
    refine wp_bind (wp_at4 (by omega)) fun t19 h19 => ?_
    have ew : ((1 : Int) + (w : Int)) - 1 = (w : Int) := by omega
    rw [ew]
    have hw6 : w < 6 := by omega
    refine wp_bind (wp_is (P := fun t => t = ((26 ^ (w + 1) : Nat) : Int)) (pow6 hw6) rfl) fun t20 e20 => ?_
    subst e20
    have hpos : 0 < 26 ^ (w + 1) := Nat.pos_of_ne_zero (by simp)
    have hbig : 26 ^ (w + 1) ≤ 308915776 := Nat.le_trans (Nat.pow_le_pow_right (by decide) (by omega : w + 1 ≤ 6)) (by decide)
    refine wp_bind (pull_nat _ (by omega) (by omega)) fun t21 ⟨f, e21, hf⟩ => ?_
    rw [e21]
    refine wp_bind (wp_rngN (P := fun t => t = irange 0 (n : Int)) (by omega) rfl) fun t22 e22 => ?_
    subst e22
    refine wp_bind (P := fun t : List Str => t.length = n ∧ (∀ x ∈ t, NameOk x) ∧ t.Nodup ∧ ∀ x ∈ t, x.cps.toList.length = w + 1) (wp_lcO (fun x y => y.cps.toList = dg (w + 1) (((f : Int) + t19 * x).toNat % 26 ^ (w + 1))) (by rw [irange_nat_len]; omega) (fun x hx => ?_) ?_) fun t32 ⟨a1, a2, a3, a4⟩ => ?_
    · obtain ⟨j, hj, rfl⟩ := irange_mem hx
      refine wp_bind (wp_mulO (P := fun t => t = t19 * (j : Int)) (small_mul ⟨by omega, by omega⟩) rfl) fun t29 e29 => ?_
      subst e29
      obtain ⟨l4, rfl⟩ : ∃ l4 : Nat, t19 = (l4 : Int) := ⟨t19.toNat, by omega⟩
      have en : (f : Int) + (l4 : Int) * (j : Int) = ((f + l4 * j : Nat) : Int) := by push_cast; rfl
      rw [en]
      refine wp_bind (wp_modO (P := fun t => t = (((f + l4 * j) % 26 ^ (w + 1) : Nat) : Int)) (by omega) (by rw [fm (by omega)]; exact (Int.natCast_emod _ _).symm)) fun t30 e30 => ?_
      subst e30
      have e1 : (1 : Int) + (w : Int) = ((w + 1 : Nat) : Int) := by omega
      rw [e1]
      refine wp_bind (spelt_spec (by omega)) fun t31 h31 => wp_some ?_
      rw [Int.toNat_natCast]
      exact h31
    · intro ys hl hy
      rw [irange_nat_len] at hl
      have at' : ∀ i y, ys[i]? = some y → i < n ∧ y.cps.toList = dg (w + 1) (((f : Int) + t19 * (i : Int)).toNat % 26 ^ (w + 1)) := fun i y e => by
        have hi : i < n := by have := (List.getElem?_eq_some_iff.mp e).1; omega
        have hx : (irange 0 (n : Int))[i]? = some (i : Int) := by rw [irange_get (by omega)]; simp
        exact ⟨hi, hy i (i : Int) y hx e⟩
      refine ⟨hl, fun x hx => ?_, nodup_at fun i j x y hij hx hy' e => ?_, fun x hx => ?_⟩
      · obtain ⟨i, hi⟩ := List.mem_iff_getElem?.mp hx
        have e := (at' i x hi).2
        exact ⟨by rw [e, dg_len]; omega, by rw [e, dg_len]; omega, fun c hc => dg_b _ _ c (by rw [← e]; exact hc)⟩
      · subst e
        obtain ⟨b1, b2⟩ := at' i x hx
        obtain ⟨b3, b4⟩ := at' j x hy'
        have q := dg_inj (b2.symm.trans b4)
        rw [Nat.mod_mod, Nat.mod_mod] at q
        clear b2 b4
        by_cases hw0 : w = 0
        · subst hw0
          rw [show (26 : Nat) ^ (0 + 1) = 26 from rfl] at q
          rcases h19 with rfl | rfl | rfl | rfl <;> omega
        · have hM : 676 ≤ 26 ^ (w + 1) := Nat.le_trans (by decide : 676 ≤ 26 ^ 2) (Nat.pow_le_pow_right (by decide) (by omega))
          have hlt : ((f : Int) + t19 * (i : Int)).toNat < ((f : Int) + t19 * (j : Int)).toNat ∧ ((f : Int) + t19 * (j : Int)).toNat - ((f : Int) + t19 * (i : Int)).toNat < 676 := by
            rcases h19 with rfl | rfl | rfl | rfl <;> omega
          have z := Nat.sub_mod_eq_zero_of_mod_eq q.symm
          rw [Nat.mod_eq_of_lt (by omega)] at z
          omega
      · obtain ⟨i, hi⟩ := List.mem_iff_getElem?.mp hx
        rw [(at' i x hi).2, dg_len]
    · exact wp_bind (sort_nmsM (P := fun ys => ys.length = n ∧ Nms ys ∧ Wd ys) (by omega) a2 a3 fun ys h1 h2 h3 => ⟨by omega, h2, .inr ⟨w + 1, fun y hy => a4 y (h3 y hy)⟩⟩) fun t16 h => wp_some h
theorem figure_spec {m : Nat} {s : Int} (z : Sto) (hm : m ≤ 5) (h1 : 2 ≤ s) (h2 : s ≤ 24) : Wp (m__law_figure ((m : Int), s) z) fun r => 0 ≤ r.1 ∧ r.1 ≤ 99 := by
  unfold m__law_figure
  refine wp_bind (pull_nat z (by omega) (by omega)) fun t1 ⟨a, e1, ha⟩ => wp_bind (pull_nat _ (by decide) (by decide)) fun t2 ⟨b, e2, hb⟩ => ?_
  rw [e1, e2]
  refine wp_bind (wp_mulO (P := fun t => t = 2 * s) (small_mul' ⟨by decide, by decide⟩) rfl) fun t3 e3 => wp_bind (wp_fdivO (P := fun t => t = s / 2) ⟨by decide, by decide⟩ (fd (by decide))) fun t4 e4 => ?_
  subst e3; subst e4
  refine wp_bind (pull_nat _ (by decide) (by decide)) fun t5 ⟨c, e5, hc⟩ => ?_
  rw [e5]
  refine wp_bind (wp_at4 (by omega)) fun t6 h6 => ?_
  have b6 : 0 ≤ t6 ∧ t6 ≤ 99 := by rcases h6 with rfl | rfl | rfl | rfl <;> omega
  refine wp_bind (wp_appO (P := fun t => t = [(1 : Int), 1 + (a : Int), 1 + (b : Int), t6]) (by simp) rfl) fun t7 e7 => ?_
  subst e7
  refine wp_cond (fun e => ?_) fun e => ?_
  · have : (m : Int) < 4 := of_decide_eq_true e
    refine wp_bind (wp_at4 (by omega)) fun t8 h8 => wp_some ?_
    rcases h8 with rfl | rfl | rfl | rfl <;> constructor <;> dsimp only <;> omega
  · have : ¬ (m : Int) < 4 := of_decide_eq_false e
    refine wp_bind (wp_is (P := fun t => t = 1 + (a : Int)) rfl rfl) fun t9 e9 => ?_
    subst e9
    refine wp_bind (pull_nat _ (by omega) (by omega)) fun t10 _ => ?_
    refine wp_bind (wp_mulO (P := fun t => 0 ≤ t ∧ t ≤ 99) (small_mul (by split <;> omega)) ?_) fun t11 h => wp_some h
    split
    · rw [Int.mul_one]; omega
    · rw [Int.mul_zero]; omega
end K16
end
section
set_option maxHeartbeats 2000000
namespace K16
open PySem L2 Kx Mx
/-! ### kits -/
def NotOk (cs : List Str) (ns : List (Str × Str × Int)) : Prop :=
  (∀ n ∈ ns, n.1 ∈ cs ∧ n.2.1 ∈ cs ∧ n.1 ≠ n.2.1 ∧ 1 ≤ n.2.2 ∧ n.2.2 ≤ 99) ∧ ns.Pairwise fun a b => ltP (a.1, a.2.1) (b.1, b.2.1) = true
structure Kit (k : List (Str × Int) × List (Str × Str × Int)) : Prop where
  l1 : 1 ≤ k.1.length
  l2 : k.1.length ≤ 8
  nm : Nms (k.1.map (·.1))
  sz : ∀ x ∈ k.1, 2 ≤ x.2 ∧ x.2 ≤ 24
  nt : NotOk (k.1.map (·.1)) k.2
  nl : k.2.length ≤ 64
theorem slt_ne {a b : Str} (h : sLt a b = true) : a ≠ b := fun e => by
  rw [e, sLt_irr] at h
  cases h
theorem pw_at {α : Type} {R : α → α → Prop} {xs : List α} (h : xs.Pairwise R) {i j : Nat} {x y : α} (hij : i < j) (hx : xs[i]? = some x) (hy : xs[j]? = some y) : R x y := by
  obtain ⟨h1, rfl⟩ := List.getElem?_eq_some_iff.mp hx
  obtain ⟨h2, rfl⟩ := List.getElem?_eq_some_iff.mp hy
  exact List.pairwise_iff_getElem.mp h i j h1 h2 hij
theorem pw_snoc {α : Type} {R : α → α → Prop} {xs : List α} {x : α} (h : xs.Pairwise R) (hx : ∀ y ∈ xs, R y x) : (xs ++ [x]).Pairwise R :=
  List.pairwise_append.mpr ⟨h, List.pairwise_singleton _ _, fun a ha b hb => by rw [List.mem_singleton.mp hb]; exact hx a ha⟩
theorem kit_specW {u m : Int} (z : Sto) (hu1 : 1 ≤ u) (hu2 : u ≤ 8) (hm1 : 2 ≤ m) (hm2 : m ≤ 24) : Wp (m__law_kit (u, m) z) fun r => Kit r.1 ∧ (r.1.1.length : Int) ≤ u ∧ (∀ b ∈ r.1.1, b.2 ≤ m) ∧ Wd (r.1.1.map (·.1)) := by
  unfold m__law_kit
  dsimp only
  refine wp_bind (pull_nat z (by omega) (by omega)) fun t1 ⟨n, e1, hn⟩ => ?_
  rw [e1]
  have en : (1 : Int) + (n : Int) = ((n + 1 : Nat) : Int) := by omega
  rw [en]
  refine wp_bind (calls_specW _ (by omega)) fun t2 ⟨hl2, hc, hwd⟩ => wp_bind (pull_nat _ (by omega) (by omega)) fun t3 ⟨s3, e3, h3⟩ => wp_bind (pull_nat _ (by decide) (by decide)) fun t4 _ => wp_bind (pull_nat _ (by decide) (by decide)) fun t5 ⟨md, e5, h5⟩ => ?_
  rw [e3, e5]
  generalize hcs : t2.1 = cs at hl2 hc hwd
  refine wp_bind (wp_lcS (P := fun r : List Int × Sto => r.1.length = n + 1 ∧ ∀ s ∈ r.1, 2 ≤ s ∧ s ≤ m) (fun _ y => 2 ≤ y ∧ y ≤ m) (by omega) (fun x hx z => ?_) ?_) fun t14 ⟨hl14, h14⟩ => ?_
  · refine wp_bind (P := fun t : Int × Sto => 2 ≤ t.1 ∧ t.1 ≤ m) (wp_cond (fun _ => wp_some ⟨by dsimp only; omega, by dsimp only; omega⟩) fun _ => wp_bind (pull_nat _ (by omega) (by omega)) fun t12 ⟨a, e, h⟩ => wp_some ⟨by dsimp only; omega, by dsimp only; omega⟩) fun t13 h => wp_some h
  · intro r hl h
    refine ⟨by omega, fun s hs => ?_⟩
    obtain ⟨i, hi⟩ := List.mem_iff_getElem?.mp hs
    have hil := (List.getElem?_eq_some_iff.mp hi).1
    exact h i _ s (List.getElem?_eq_getElem (by omega)) hi
  have uq : ∀ {i j : Nat} {x y : Str}, i < j → cs[i]? = some x → cs[j]? = some y → sLt x y = true := fun hij hx hy => pw_at hc.2 hij hx hy
  refine wp_bind (wp_forO (P := fun s : List (Str × Str × Int) × Sto => NotOk cs s.1 ∧ s.1.length ≤ 64) (fun i s => NotOk cs s.1 ∧ (∀ q ∈ s.1, ∃ j, j < i ∧ cs[j]? = some q.1) ∧ s.1.length ≤ i * 8) ⟨⟨fun q hq => (nomatch hq), List.Pairwise.nil⟩, fun q hq => (nomatch hq), by simp⟩ ?_ ?_) fun fin ⟨hf, hf2⟩ => ?_
  · intro i x s hx ⟨g1, g2, g3⟩
    have hi : i < n + 1 := by have := (List.getElem?_eq_some_iff.mp hx).1; omega
    rw [hl2]
    refine wp_bind (wp_rngN (P := fun t => t = irange 0 ((n + 1 : Nat) : Int)) (by omega) rfl) fun t22 e22 => ?_
    subst e22
    refine wp_bind (wp_forO (P := fun s : List (Str × Str × Int) × Sto => NotOk cs s.1 ∧ (∀ q ∈ s.1, ∃ j, j < i + 1 ∧ cs[j]? = some q.1) ∧ s.1.length ≤ (i + 1) * 8) (fun k s => NotOk cs s.1 ∧ (∀ q ∈ s.1, (∃ j, j < i ∧ cs[j]? = some q.1) ∨ (q.1 = x ∧ ∃ j, j < k ∧ cs[j]? = some q.2.1)) ∧ s.1.length ≤ i * 8 + k) ⟨g1, fun q hq => .inl (g2 q hq), by dsimp only; omega⟩ ?_ ?_) fun f2 h => wp_some h
    · intro k y s hy ⟨b1, b2, b3⟩
      obtain ⟨hk, rfl⟩ := irange_at hy
      refine wp_bind (wp_atI (P := fun t => 2 ≤ t ∧ t ≤ m) (by omega) (h14 _ (List.getElem_mem _))) fun t30 h30 => ?_
      refine wp_bind (figure_spec _ (by omega) h30.1 (by omega)) fun t31 h31 => ?_
      have hk' : k < cs.length := by omega
      have ey : cs[k]? = some cs[k] := List.getElem?_eq_getElem hk'
      refine wp_bind (wp_is (P := fun t => t = cs[k]) (atI_nat' hk') rfl) fun t32 e32 => ?_
      subst e32
      refine wp_cond (fun e => ?_) fun e => wp_some ⟨b1, fun q hq => (b2 q hq).imp id fun ⟨c1, j, c2, c3⟩ => ⟨c1, j, by omega, c3⟩, by dsimp only; omega⟩
      rw [Bool.and_eq_true] at e
      have e1 : cs[k] ≠ x := by simpa using e.1
      have e2 : 0 < t31.1 := by simpa using e.2
      refine wp_bind (wp_is (P := fun t => t = cs[k]) (atI_nat' hk') rfl) fun t33 e33 => ?_
      subst e33
      refine wp_bind (wp_appO (P := fun t => t = s.1 ++ [(x, cs[k], t31.1)]) (by omega) rfl) fun t34 e34 => wp_some ?_
      subst e34
      refine ⟨⟨fun q hq => ?_, pw_snoc b1.2 fun q hq => ?_⟩, fun q hq => ?_, by dsimp only; rw [List.length_append]; simp; omega⟩
      · rcases List.mem_append.mp hq with hq | hq
        · exact b1.1 q hq
        · rw [List.mem_singleton.mp hq]
          exact ⟨List.mem_of_getElem? hx, List.mem_of_getElem? ey, fun z => e1 z.symm, by dsimp only; omega, by dsimp only; omega⟩
      · unfold ltP
        dsimp only
        rcases b2 q hq with ⟨j, c1, c2⟩ | ⟨c1, j, c2, c3⟩
        · have := uq c1 c2 hx
          rw [if_neg (slt_ne this)]
          exact this
        · rw [if_pos c1]
          exact uq c2 c3 ey
      · rcases List.mem_append.mp hq with hq | hq
        · exact (b2 q hq).imp id fun ⟨c1, j, c2, c3⟩ => ⟨c1, j, by omega, c3⟩
        · rw [List.mem_singleton.mp hq]
          exact .inr ⟨rfl, k, by omega, ey⟩
    · intro s ⟨b1, b2, b3⟩
      rw [irange_nat_len] at b2 b3
      refine ⟨b1, fun q hq => ?_, by omega⟩
      rcases b2 q hq with ⟨j, c1, c2⟩ | ⟨c1, j, c2, c3⟩
      · exact ⟨j, by omega, c2⟩
      · exact ⟨i, by omega, by rw [c1]; exact hx⟩
  · intro s ⟨g1, g2, g3⟩
    exact ⟨g1, by omega⟩
  rw [hl2]
  refine wp_bind (wp_rngN (P := fun t => t = irange 0 ((n + 1 : Nat) : Int)) (by omega) rfl) fun t35 e35 => ?_
  subst e35
  refine wp_bind (P := fun t : List (Str × Int) => t.length = n + 1 ∧ t.map (·.1) = cs ∧ ∀ x ∈ t, 2 ≤ x.2 ∧ x.2 ≤ m) (wp_lcO (fun x y => ∃ k : Nat, x = (k : Int) ∧ cs[k]? = some y.1 ∧ 2 ≤ y.2 ∧ y.2 ≤ m) (by rw [irange_nat_len]; omega) (fun x hx => ?_) ?_) fun t44 ⟨d1, d2, d3⟩ => wp_some ?_
  · obtain ⟨k, hk, rfl⟩ := irange_mem hx
    have hk' : k < cs.length := by omega
    refine wp_bind (wp_is (P := fun t => t = cs[k]) (atI_nat' hk') rfl) fun t42 e42 => ?_
    subst e42
    refine wp_bind (wp_atI (P := fun t => 2 ≤ t ∧ t ≤ m) (by omega) (h14 _ (List.getElem_mem _))) fun t43 h43 => wp_some ⟨k, rfl, List.getElem?_eq_getElem hk', h43⟩
  · intro ys hl h
    rw [irange_nat_len] at hl
    have at' : ∀ (i : Nat) (y : Str × Int), ys[i]? = some y → cs[i]? = some y.1 ∧ 2 ≤ y.2 ∧ y.2 ≤ m := fun i y e => by
      have hi : i < n + 1 := by have := (List.getElem?_eq_some_iff.mp e).1; omega
      obtain ⟨k, c1, c2⟩ := h i (i : Int) y (by rw [irange_get (by omega)]; simp) e
      have : i = k := by omega
      subst this
      exact c2
    refine ⟨hl, List.ext_getElem? fun i => ?_, fun x hx => ?_⟩
    · rw [List.getElem?_map]
      by_cases hi : i < n + 1
      · have := (at' i _ (List.getElem?_eq_getElem (by omega))).1
        rw [List.getElem?_eq_getElem (by omega : i < ys.length), this]
        rfl
      · rw [List.getElem?_eq_none (by omega), List.getElem?_eq_none (by omega)]
        rfl
    · obtain ⟨i, hi⟩ := List.mem_iff_getElem?.mp hx
      exact (at' i x hi).2
  · refine ⟨⟨by dsimp only; omega, by dsimp only; omega, ?_, fun x hx => (by have := d3 x hx; omega), ?_, hf2⟩, by dsimp only; omega, fun x hx => (d3 x hx).2, by dsimp only; rw [d2]; exact hwd⟩
    · dsimp only; rw [d2]; exact hc
    · dsimp only; rw [d2]; exact hf
theorem kit_spec {u m : Int} (z : Sto) (hu1 : 1 ≤ u) (hu2 : u ≤ 8) (hm1 : 2 ≤ m) (hm2 : m ≤ 24) : Wp (m__law_kit (u, m) z) fun r => Kit r.1 ∧ (r.1.1.length : Int) ≤ u ∧ ∀ b ∈ r.1.1, b.2 ≤ m := (kit_specW z hu1 hu2 hm1 hm2).imp fun _ h => ⟨h.1, h.2.1, h.2.2.1⟩
end K16
end
section
set_option maxHeartbeats 2000000
namespace K16
open PySem L2 Kx Mx
theorem within_spec {x lo hi : Int} (h1 : lo ≤ x) (h2 : x ≤ hi) : m_is_within (x, lo, hi) = some true := by
  unfold m_is_within m_is_whole
  simp [h1, h2]
/-! ### tables whose keys differ -/
section
variable {α β : Type} [DecidableEq α]
theorem putA_new {xs : List (α × β)} {k : α} {v : β} (h : k ∉ xs.map (·.1)) : putA xs k v = xs ++ [(k, v)] := by
  unfold putA
  rw [if_neg]
  intro e
  obtain ⟨x, hx, e⟩ := List.any_eq_true.mp e
  exact h (List.mem_map.mpr ⟨x, hx, of_decide_eq_true e⟩)
theorem mergeA_nodup : ∀ {more acc : List (α × β)}, ((acc ++ more).map (·.1)).Nodup → mergeA acc more = acc ++ more
  | [], acc, _ => by rw [List.append_nil]; rfl
  | p :: more, acc, h => by
    have hn : p.1 ∉ acc.map (·.1) := fun e => by
      rw [List.map_append] at h
      have := (List.nodup_append.mp h).2.2 p.1 e p.1 (by simp)
      exact this rfl
    show mergeA (putA acc p.1 p.2) more = _
    rw [putA_new hn, mergeA_nodup (by simpa using h)]
    simp
theorem dictO_nodup {xs : List (α × β)} (hl : xs.length ≤ 16777216) (h : (xs.map (·.1)).Nodup) : dictO xs = some xs := by
  unfold dictO
  rw [grd_yes hl, mergeA_nodup (by simpa using h)]
  rfl
theorem getA_mem {xs : List (α × β)} {k : α} (h : k ∈ xs.map (·.1)) : ∃ b, getA xs k = some b := by
  induction xs with
  | nil => simp at h
  | cons p xs ih =>
    by_cases e : p.1 = k
    · exact ⟨_, getA_pos e⟩
    · rw [getA_neg e]
      refine ih ?_
      rcases List.mem_cons.mp h with q | q
      · exact absurd q.symm e
      · exact q
end
def cs (k : List (Str × Int) × List (Str × Str × Int)) : List Str := k.1.map (·.1)
def tb (k : List (Str × Int) × List (Str × Str × Int)) : List ((Str × Str) × Int) := k.2.map fun n => ((n.1, n.2.1), n.2.2)
abbrev pl (k : List (Str × Int) × List (Str × Str × Int)) : List (Str × Int) × List (Str × Str × Int) × List (Str × Int) × List ((Str × Str) × Int) := (k.1, k.2, k.1, tb k)
def tk (k : List (Str × Int) × List (Str × Str × Int)) (a b : Str) : Int := getD' (tb k) (a, b) 0
theorem nms_nodup {xs : List Str} (h : Nms xs) : xs.Nodup := h.2.imp fun h => slt_ne h
theorem ltP_ne {a b : Str × Str} (h : ltP a b = true) : a ≠ b := fun e => by
  unfold ltP at h
  rw [e, if_pos rfl, sLt_irr] at h
  cases h
section
variable {k : List (Str × Int) × List (Str × Str × Int)}
theorem Kit.nd (h : Kit k) : (cs k).Nodup := nms_nodup h.nm
theorem Kit.tnd (h : Kit k) : ((tb k).map (·.1)).Nodup := by
  unfold tb
  rw [List.map_map]
  exact (List.pairwise_map.mpr (h.nt.2.imp fun h => ltP_ne h))
theorem dcO_spec (h : Kit k) : dcO (fun x : Str × Str × Int => some ((x.1, x.2.1), x.2.2)) k.2 = some (tb k) := by
  unfold dcO
  have : lcO (fun x : Str × Str × Int => some ((x.1, x.2.1), x.2.2)) k.2 = some (tb k) := by
    obtain ⟨r, e1, e2⟩ := wp_lcO_map (P := fun t => t = tb k) (f := fun x : Str × Str × Int => some ((x.1, x.2.1), x.2.2)) (fun n => ((n.1, n.2.1), n.2.2)) (by have := h.nl; omega) (fun _ _ => rfl) rfl
    rw [e1, e2]
  rw [this]
  show some (mergeA [] (tb k)) = _
  rw [mergeA_nodup (by simpa using h.tnd)]
  rfl
theorem is_bell_spec {b : Str × Int} (h1 : NameOk b.1) (h2 : 2 ≤ b.2 ∧ b.2 ≤ 24) : m_is_bell b = some true := by
  unfold m_is_bell
  rw [is_name_spec h1, within_spec h2.1 h2.2]
  rfl
theorem Kit.name (h : Kit k) {x : Str × Int} (hx : x ∈ k.1) : NameOk x.1 := h.nm.1 _ (List.mem_map.mpr ⟨x, hx, rfl⟩)
theorem check_bells_spec (h : Kit k) : m_check_bells k.1 = some () := by
  have W : Wp (m_check_bells k.1) fun _ => True := by
    unfold m_check_bells
    refine wp_cond (fun e => ?_) fun _ => ?_
    · have h1 := h.l1
      have h2 := h.l2
      have e1 : decide ((1 : Int) ≤ (k.1.length : Int)) = true := decide_eq_true (by omega)
      have e2 : decide ((k.1.length : Int) ≤ 8) = true := decide_eq_true (by omega)
      rw [e1, e2] at e
      cases e
    refine wp_bind (wp_forO (P := fun _ => True) (fun _ _ => True) trivial (fun i p s hp _ => ?_) fun _ _ => trivial) fun _ _ => wp_some trivial
    obtain ⟨x, hx, rfl⟩ := enum_at hp
    have hxm := List.mem_of_getElem? hx
    refine wp_bind (wp_is (P := fun t => t = true) (is_bell_spec (h.name hxm) (h.sz x hxm)) rfl) fun t e => ?_
    subst e
    refine wp_bind (P := fun t => t = false) (wp_cond (fun e => by cases e) fun _ => wp_bind (P := fun t => t = false) (wp_cond (fun e => ?_) fun _ => wp_some rfl) fun t e => wp_some e) fun t e => ?_
    · have hi : 0 < i := by have : (0 : Int) < (i : Int) := of_decide_eq_true e; omega
      have hil := (List.getElem?_eq_some_iff.mp hx).1
      have e1 : (i : Int) - 1 = ((i - 1 : Nat) : Int) := by omega
      dsimp only
      rw [e1]
      refine wp_bind (wp_is (P := fun t => t = k.1[i - 1]) (atI_nat' (by omega)) rfl) fun t13 e13 => wp_some ?_
      subst e13
      have := pw_at h.nm.2 (i := i - 1) (j := i) (x := (k.1[i - 1]).1) (y := x.1) (by omega) (by rw [List.getElem?_map, List.getElem?_eq_getElem (by omega)]; rfl) (by rw [List.getElem?_map, hx]; rfl)
      rw [this]
      rfl
    · subst e
      exact wp_cond (fun e => by cases e) fun _ => wp_some trivial
  obtain ⟨⟨⟩, hr, _⟩ := W
  exact hr
theorem is_notch_spec (h : Kit k) {n : Str × Str × Int} (hn : n ∈ k.2) : m_is_notch (n, cs k) = some true := by
  obtain ⟨h1, h2, h3, h4, h5⟩ := h.nt.1 n hn
  have n1 := h.nm.1 _ h1
  have n2 := h.nm.1 _ h2
  have W : Wp (m_is_notch (n, cs k)) fun b => b = true := by
    unfold m_is_notch
    refine wp_cond (fun e => by cases e) fun _ => ?_
    refine wp_bind (P := fun t : List Bool => t.all id = true) ?_ fun t8 h8 => ?_
    · refine (wp_is (x := [true, true]) ?_ rfl)
      unfold lcO
      rw [grd_yes (by simp)]
      have m1 : memB n.1 (cs k) = true := decide_eq_true h1
      have m2 : memB n.2.1 (cs k) = true := decide_eq_true h2
      simp [mapO, is_name_spec n1, is_name_spec n2, m1, m2]
    · rw [h8]
      refine wp_cond (fun e => by cases e) fun _ => wp_bind (P := fun t => t = true) (wp_cond (fun _ => ?_) fun e => ?_) fun t e => wp_some e
      · rw [within_spec h4 h5]
        exact wp_some rfl
      · exact absurd (by simpa using e) h3
  obtain ⟨r, hr, e⟩ := W
  rw [hr, e]
theorem check_notches_spec (h : Kit k) : m_check_notches (k.2, cs k) = some () := by
  have W : Wp (m_check_notches (k.2, cs k)) fun _ => True := by
    unfold m_check_notches
    refine wp_cond (fun e => by cases e) fun _ => ?_
    refine wp_bind (wp_forO (P := fun _ => True) (fun _ _ => True) trivial (fun i p s hp _ => ?_) fun _ _ => trivial) fun _ _ => wp_some trivial
    obtain ⟨x, hx, rfl⟩ := enum_at hp
    have hxm := List.mem_of_getElem? hx
    refine wp_bind (wp_is (P := fun t => t = true) (is_notch_spec h hxm) rfl) fun t e => ?_
    subst e
    refine wp_bind (P := fun t => t = false) (wp_cond (fun e => by cases e) fun _ => wp_bind (P := fun t => t = false) (wp_cond (fun e => ?_) fun _ => wp_some rfl) fun t e => wp_some e) fun t e => ?_
    · have hi : 0 < i := by have : (0 : Int) < (i : Int) := of_decide_eq_true e; omega
      have hil := (List.getElem?_eq_some_iff.mp hx).1
      have e1 : (i : Int) - 1 = ((i - 1 : Nat) : Int) := by omega
      dsimp only at hil ⊢
      rw [e1]
      refine wp_bind (wp_is (P := fun t => t = k.2[i - 1]) (atI_nat' (by omega)) rfl) fun t13 e13 => wp_some ?_
      subst e13
      have := pw_at h.nt.2 (i := i - 1) (j := i) (x := k.2[i - 1]) (y := x) (by omega) (List.getElem?_eq_getElem (by omega)) hx
      rw [this]
      rfl
    · subst e
      exact wp_cond (fun e => by cases e) fun _ => wp_some trivial
  obtain ⟨⟨⟩, hr, _⟩ := W
  exact hr
theorem names_lc (h : Kit k) : lcO (fun x : Str × Int => some x.1) k.1 = some (cs k) := by
  obtain ⟨r, e1, e2⟩ := wp_lcO_map (P := fun t => t = cs k) (f := fun x : Str × Int => some x.1) (fun n => n.1) (by have := h.l2; omega) (fun _ _ => rfl) rfl
  rw [e1, e2]
theorem init_spec (h : Kit k) : m_Peal___init__ (k.1, k.2) = some (pl k) := by
  unfold m_Peal___init__
  rw [check_bells_spec h]
  show (lcO _ k.1).bind _ = _
  rw [names_lc h]
  show (m_check_notches (k.2, cs k)).bind _ = _
  rw [check_notches_spec h]
  show (dictO k.1).bind _ = _
  rw [dictO_nodup (by have := h.l2; omega) h.nd]
  show (dcO _ k.2).bind _ = _
  rw [dcO_spec h]
  rfl
end
end K16
end
section
set_option maxHeartbeats 2000000
namespace K16
open PySem L2 Kx Mx
/-! ### the pairs of a row: the one ahead of the other -/
/-! places -/
/-! ahead_in -/
/-! ### sums -/
def sumF {α : Type} (xs : List α) (f : α → Int) : Int := (xs.map f).sum
theorem sumF_nil {α : Type} {f : α → Int} : sumF [] f = 0 := rfl
theorem sumF_cons {α : Type} {x : α} {xs : List α} {f : α → Int} : sumF (x :: xs) f = f x + sumF xs f := by unfold sumF; simp
end K16
end
section
set_option maxHeartbeats 2000000
namespace K16
open PySem L2 Kx Mx
abbrev KT0 := List (Str × Int) × List (Str × Str × Int)
end K16
end
section
set_option maxHeartbeats 2000000
namespace K16
open PySem L2 Kx Mx
/-! ### standings: the row, each dial by its bell -/
abbrev SS := List Str × (Str × Int → Int)
/-- the bells ahead of x -/
def ahd (r : List Str) (x : Str) : List Str := r.takeWhile fun y => !decide (y = x)
end K16
end
section
set_option maxHeartbeats 2000000
namespace K16
open PySem L2 Kx Mx
/-! ### repr of standings -/
theorem toPy_str (x : Str) : toPy (.str x) = .str x := by unfold toPy; rfl
theorem toPy_int (x : Int) : toPy (.int x) = .int x := by unfold toPy; rfl
structure Rep (n m : Nat) (x : PyData) : Prop where
  w : x.weight + 1 ≤ n
  i : x.intsShort 40 = true
  s : x.showable = true
  d : x.depth ≤ m
theorem rep_str {x : Str} {m : Nat} (h : NameOk x) : Rep 10 m (.str x) := by
  refine ⟨?_, ?_, ?_, ?_⟩
  · unfold PyData.weight; have := h.l2; simp at this; omega
  · unfold PyData.intsShort; rfl
  · unfold PyData.showable; rfl
  · unfold PyData.depth; omega
theorem Rep.ok {n m : Nat} {x : PyData} (h : Rep n m x) (hn : n ≤ 100000) (hm : m ≤ 50) : ∃ t, reprO x = some t := by
  refine ⟨x.shown, ?_⟩
  unfold reprO
  rw [if_pos]
  unfold repOk
  have h1 := h.w
  have h2 := h.d
  rw [h.i, h.s, decide_eq_true (by omega), decide_eq_true (by omega)]
  rfl
theorem Rep.mono {n m n' m' : Nat} {x : PyData} (h : Rep n m x) (hn : n ≤ n') (hm : m ≤ m') : Rep n' m' x := ⟨Nat.le_trans h.w hn, h.i, h.s, Nat.le_trans h.d hm⟩
end K16
end
section
set_option maxHeartbeats 2000000
namespace K16
open PySem L2 Kx Mx
/-! ### rows behind rings, and what is turned -/
section
variable {r rs : List Str} {x y : Str}
/-- what each bell that goes ahead of another one adds -/
def tot (g : Str × Str → Int) : List Str → List Str → Int
  | _, [] => 0
  | r, x :: rs => sumF (ahd r x) (fun o => g (x, o)) + tot g (x :: r.erase x) rs
theorem tot_cons {g : Str × Str → Int} : tot g r (x :: rs) = sumF (ahd r x) (fun o => g (x, o)) + tot g (x :: r.erase x) rs := rfl
theorem sumF_range {α : Type} {g : α → Int} (h0 : ∀ p, 0 ≤ g p ∧ g p ≤ 1) : ∀ l : List α, 0 ≤ sumF l g ∧ sumF l g ≤ l.length
  | [] => by simp [sumF_nil]
  | a :: l => by
    have := sumF_range h0 l
    have := h0 a
    rw [sumF_cons, List.length_cons]
    omega
theorem ahd_len : (ahd r x).length ≤ r.length := by
  unfold ahd
  exact (List.takeWhile_sublist _).length_le
theorem tot_range {g : Str × Str → Int} (h0 : ∀ p, 0 ≤ g p ∧ g p ≤ 1) : ∀ {rs r : List Str}, (∀ x ∈ rs, x ∈ r) → r.length ≤ 8 → 0 ≤ tot g r rs ∧ tot g r rs ≤ 8 * rs.length
  | [], r, _, _ => by simp [tot]
  | x :: rs, r, hm, hl => by
    have p : (x :: r.erase x).Perm r := (List.perm_cons_erase (hm x List.mem_cons_self)).symm
    have ih := tot_range h0 (rs := rs) (r := x :: r.erase x) (fun y hy => p.mem_iff.mpr (hm y (List.mem_cons_of_mem _ hy))) (by rw [p.length_eq]; exact hl)
    have a := sumF_range (fun o => h0 (x, o)) (ahd r x)
    have b := ahd_len (r := r) (x := x)
    rw [tot_cons, List.length_cons]
    have e : sumF (ahd r x) (fun o => g (x, o)) ≤ 8 := by omega
    omega
end
end K16
end
section
set_option maxHeartbeats 2000000
namespace K16
open PySem L2 Kx Mx
/-! ### passes: dicts by pairs, as sums -/
abbrev PD := List ((Str × Str) × Int)
def dS (g : Str × Str → Int) (xs : PD) : Int := sumF xs fun e => e.2 * g e.1
def ind (p q : Str × Str) : Int := if q = p then 1 else 0
theorem ind_range (p : Str × Str) : ∀ q, 0 ≤ ind p q ∧ ind p q ≤ 1 := fun q => by unfold ind; split <;> omega
structure DK (k : KT0) (xs : PD) : Prop where
  nd : (xs.map (·.1)).Nodup
  m : ∀ e ∈ xs, e.1.1 ∈ cs k ∧ e.1.2 ∈ cs k
theorem sub_len {α : Type} [DecidableEq α] : ∀ {xs ys : List α}, xs.Nodup → (∀ x ∈ xs, x ∈ ys) → xs.length ≤ ys.length
  | [], _, _, _ => by simp
  | x :: xs, ys, nd, h => by
    obtain ⟨n1, n2⟩ := List.nodup_cons.mp nd
    have hx := h x List.mem_cons_self
    have := sub_len (xs := xs) (ys := ys.erase x) n2 fun y hy => by
      have e : y ≠ x := fun e => n1 (e ▸ hy)
      exact (List.mem_erase_of_ne e).mpr (h y (List.mem_cons_of_mem _ hy))
    rw [List.length_erase_of_mem hx] at this
    have : 0 < ys.length := List.length_pos_of_mem hx
    rw [List.length_cons]
    omega
def pairsOf (l : List Str) : List (Str × Str) := l.flatMap fun a => l.map fun b => (a, b)
theorem pairsOf_mem {l : List Str} {a b : Str} (ha : a ∈ l) (hb : b ∈ l) : (a, b) ∈ pairsOf l := List.mem_flatMap.mpr ⟨a, ha, List.mem_map.mpr ⟨b, hb, rfl⟩⟩
theorem flat_len {α β : Type} {f : α → List β} {n : Nat} (h : ∀ a, (f a).length = n) : ∀ l : List α, (l.flatMap f).length = n * l.length
  | [] => by simp
  | a :: l => by rw [List.flatMap_cons, List.length_append, h, flat_len h l, List.length_cons, Nat.mul_add]; omega
theorem DK.len {k : KT0} {xs : PD} (h : Kit k) (d : DK k xs) : xs.length ≤ 64 := by
  have := sub_len (xs := xs.map (·.1)) (ys := pairsOf (cs k)) d.nd fun p hp => by
    obtain ⟨e, he, rfl⟩ := List.mem_map.mp hp
    exact pairsOf_mem (d.m e he).1 (d.m e he).2
  rw [List.length_map] at this
  unfold pairsOf at this
  rw [flat_len (n := (cs k).length) fun a => List.length_map _] at this
  have hc : (cs k).length = k.1.length := by unfold cs; rw [List.length_map]
  have hl := h.l2
  have : (cs k).length * (cs k).length ≤ 8 * 8 := Nat.mul_le_mul (by omega) (by omega)
  omega
section
variable {g : Str × Str → Int} {xs : PD} {p : Str × Str} {v : Int}
theorem dS_cons {e : (Str × Str) × Int} : dS g (e :: xs) = e.2 * g e.1 + dS g xs := sumF_cons
theorem getD_pos {e : (Str × Str) × Int} {z : Int} (h : e.1 = p) : getD' (e :: xs) p z = e.2 := by unfold getD'; rw [getA_pos h]; rfl
theorem getD_neg {e : (Str × Str) × Int} {z : Int} (h : e.1 ≠ p) : getD' (e :: xs) p z = getD' xs p z := by unfold getD'; rw [getA_neg h]
theorem getD_no : ∀ {xs : PD}, p ∉ xs.map (·.1) → getD' xs p 0 = 0
  | [], _ => rfl
  | e :: xs, h => by
    have h1 : e.1 ≠ p := fun z => h (by rw [List.map_cons, z]; exact List.mem_cons_self)
    rw [getD_neg h1]
    exact getD_no fun z => h (by rw [List.map_cons]; exact List.mem_cons_of_mem _ z)
theorem put_keys {w : Int} : (putA xs p w).map (·.1) = if p ∈ xs.map (·.1) then xs.map (·.1) else xs.map (·.1) ++ [p] := by
  by_cases q : p ∈ xs.map (·.1)
  · have : (xs.any fun x => decide (x.1 = p)) = true := by
      obtain ⟨x, hx, e⟩ := List.mem_map.mp q
      exact List.any_eq_true.mpr ⟨x, hx, decide_eq_true e⟩
    unfold putA
    rw [if_pos this, if_pos q, List.map_map]
    apply List.map_congr_left
    intro a _
    show (if a.1 = p then (a.1, w) else a).1 = a.1
    split <;> rfl
  · rw [putA_new q, if_neg q, List.map_append]
    rfl
theorem DK.put {k : KT0} {w : Int} (d : DK k xs) (h1 : p.1 ∈ cs k) (h2 : p.2 ∈ cs k) : DK k (putA xs p w) := by
  refine ⟨?_, fun e he => ?_⟩
  · rw [put_keys]
    by_cases q : p ∈ xs.map (·.1)
    · rw [if_pos q]; exact d.nd
    · rw [if_neg q]
      exact List.nodup_append.mpr ⟨d.nd, by simp, fun a ha b hb => by rw [List.mem_singleton.mp hb]; exact fun z => q (z ▸ ha)⟩
  · have : e.1 ∈ (putA xs p w).map (·.1) := List.mem_map.mpr ⟨e, he, rfl⟩
    rw [put_keys] at this
    have z : e.1 ∈ xs.map (·.1) ∨ e.1 = p := by
      by_cases q : p ∈ xs.map (·.1)
      · rw [if_pos q] at this; exact .inl this
      · rw [if_neg q] at this
        rcases List.mem_append.mp this with z | z
        · exact .inl z
        · exact .inr (List.mem_singleton.mp z)
    rcases z with z | z
    · obtain ⟨e', he', z⟩ := List.mem_map.mp z
      rw [← z]
      exact d.m e' he'
    · rw [z]; exact ⟨h1, h2⟩
/-- each entry's number, as a sum -/
theorem dS_ind : ∀ {xs : PD}, (xs.map (·.1)).Nodup → dS (ind p) xs = getD' xs p 0
  | [], _ => rfl
  | e :: xs, nd => by
    rw [List.map_cons] at nd
    obtain ⟨n1, n2⟩ := List.nodup_cons.mp nd
    rw [dS_cons, dS_ind n2]
    unfold ind
    by_cases q : e.1 = p
    · subst q
      rw [if_pos rfl, getD_pos rfl, getD_no n1, Int.mul_one, Int.add_zero]
    · rw [if_neg q, getD_neg q, Int.mul_zero, Int.zero_add]
theorem getD_mem {e : (Str × Str) × Int} : ∀ {xs : PD}, (xs.map (·.1)).Nodup → e ∈ xs → getD' xs e.1 0 = e.2
  | [], _, h => nomatch h
  | a :: xs, nd, h => by
    rw [List.map_cons] at nd
    obtain ⟨n1, n2⟩ := List.nodup_cons.mp nd
    rcases List.mem_cons.mp h with rfl | h
    · exact getD_pos rfl
    · rw [getD_neg fun z => n1 (z ▸ List.mem_map.mpr ⟨e, h, rfl⟩), getD_mem n2 h]
end
end K16
end
section
set_option maxHeartbeats 2000000
namespace K16
open PySem L2 Kx Mx
/-! ### passes put to others; courses -/
section
variable {k : KT0} {xs ys : PD} {t : Int}
/-- a dict of passes is that of these rings from this row -/
structure PO (k : KT0) (r rs : List Str) (xs : PD) : Prop where
  d : DK k xs
  s : ∀ g, dS g xs = tot g r rs
theorem PO.val {r rs : List Str} (p : PO k r rs xs) (hr : ∀ x ∈ rs, x ∈ r) (hl : r.length ≤ 8) {e : (Str × Str) × Int} (he : e ∈ xs) : 0 ≤ e.2 ∧ e.2 ≤ 8 * rs.length := by
  rw [← getD_mem p.d.nd he, ← dS_ind p.d.nd, p.s]
  exact tot_range (ind_range e.1) hr hl
theorem PO.nil {r : List Str} : PO k r [] [] := ⟨⟨by simp, fun e he => nomatch he⟩, fun g => rfl⟩
/-- courses: how deep, the rings, how many parts -/
inductive Crs (k : KT0) : Nat → List Dat → List Str → Nat → Prop
  | nil {n : Nat} : Crs k n [] [] 0
  | nm {n p : Nat} {ds : List Dat} {rs : List Str} {x : Str} (hx : x ∈ cs k) (h : Crs k n ds rs p) : Crs k n (.str x :: ds) (x :: rs) (1 + p)
  | rp {n p q t : Nat} {ds es : List Dat} {rs qs : List Str} (h1 : Crs k n es qs q) (ht : 1 ≤ t) (ht2 : t ≤ 10 ^ 30) (h : Crs k (n + 1) ds rs p) : Crs k (n + 1) (.tuple [.tuple es, .int (t : Int)] :: ds) ((List.replicate t qs).flatten ++ rs) (1 + q + p)
theorem Crs.mem {n p : Nat} {ds : List Dat} {rs : List Str} (h : Crs k n ds rs p) : ∀ x ∈ rs, x ∈ cs k := by
  induction h with
  | nil => intro x hx; cases hx
  | nm hx _ ih =>
    intro x h
    rcases List.mem_cons.mp h with rfl | h
    · exact hx
    · exact ih x h
  | rp _ _ _ _ ih1 ih2 =>
    intro x h
    rcases List.mem_append.mp h with h | h
    · obtain ⟨l, hl, hy⟩ := List.mem_flatten.mp h
      rw [(List.mem_replicate.mp hl).2] at hy
      exact ih1 x hy
    · exact ih2 x h
theorem rep_len {α : Type} {l : List α} {t : Nat} : (List.replicate t l).flatten.length = t * l.length := PyProof.Rows.lm_len_rep_flat _ _
theorem Crs.len {n p : Nat} {ds : List Dat} {rs : List Str} (h : Crs k n ds rs p) : rs.length ≤ p * 2 ^ (100 * n) := by
  induction h with
  | nil => simp
  | @nm n p ds rs x hx _ ih =>
    rw [List.length_cons, Nat.add_mul]
    have : 1 ≤ 2 ^ (100 * n) := Nat.one_le_two_pow
    omega
  | @rp n p q t ds es rs qs _ ht ht2 _ ih1 ih2 =>
    rw [List.length_append, rep_len, Nat.add_mul, Nat.add_mul]
    have e : 2 ^ (100 * (n + 1)) = 2 ^ 100 * 2 ^ (100 * n) := by rw [← Nat.pow_add]; congr 1; omega
    have a : t * qs.length ≤ 2 ^ 100 * (q * 2 ^ (100 * n)) := Nat.mul_le_mul (Nat.le_trans ht2 (by decide)) ih1
    have b : q * 2 ^ (100 * (n + 1)) = 2 ^ 100 * (q * 2 ^ (100 * n)) := by
      rw [e, Nat.mul_left_comm]
    omega
theorem Crs.mono {n m p : Nat} {ds : List Dat} {rs : List Str} (h : Crs k n ds rs p) (hm : n ≤ m) : Crs k m ds rs p := by
  induction h generalizing m with
  | nil => exact .nil
  | nm hx _ ih => exact .nm hx (ih hm)
  | rp _ ht ht2 _ ih1 ih2 =>
    obtain ⟨m, rfl⟩ : ∃ j, m = j + 1 := ⟨m - 1, by omega⟩
    exact .rp (ih1 (by omega)) ht ht2 (ih2 hm)
theorem Crs.app {n p q : Nat} {ds es : List Dat} {rs qs : List Str} (h : Crs k n ds rs p) (h2 : Crs k n es qs q) : Crs k n (ds ++ es) (rs ++ qs) (p + q) := by
  induction h with
  | nil => simpa using h2
  | nm hx _ ih => rw [Nat.add_assoc]; exact .nm hx (ih h2)
  | rp h1 ht ht2 _ _ ih2 => rw [Nat.add_assoc, List.append_assoc]; exact .rp h1 ht ht2 (ih2 h2)
theorem isO_str {x : Str} : isO isS (.str x) = some true := rfl
theorem isO_str_t {ds : List Dat} : isO isS (.tuple ds) = some false := rfl
theorem isO_tup {ds : List Dat} : isO isT (.tuple ds) = some true := rfl
end
end K16
end
section
set_option maxHeartbeats 2000000
namespace K16
open PySem L2 Kx Mx
/-! ### check_course, turned_by, behind -/
section
variable {k : KT0} {s : SS}
theorem parts_loop {F : Int → Dat → Option (Int ⊕ Option Int)} {d p : Nat} {ds : List Dat} {rs : List Str} (c : Crs k d ds rs p)
    (h1 : ∀ (m : Int) x, x ∈ cs k → F m (.str x) = some (.inl (m + 1)))
    (h2 : ∀ (m : Int) n es qs q (t : Nat), n + 1 ≤ d → Crs k n es qs q → 1 ≤ t → t ≤ 10 ^ 30 → F m (.tuple [.tuple es, .int (t : Int)]) = some (.inl (m + (1 + q)))) :
    ∀ m, forR F ds m = some (.inl (m + p)) := by
  induction c with
  | nil => intro m; show some _ = _; simp
  | @nm n p ds rs x hx c ih =>
    intro m
    show (F m (.str x)).bind _ = _
    rw [h1 m x hx]
    show forR F ds (m + 1) = _
    rw [ih h2]
    congr 2
    omega
  | @rp n p q t ds es rs qs c1 ht ht2 c ih1 ih2 =>
    intro m
    show (F m _).bind _ = _
    rw [h2 m n es qs q t (Nat.le_refl _) c1 ht ht2]
    show forR F ds (m + (1 + q)) = _
    rw [ih2 h2]
    congr 2
    omega
theorem parts_spec (h : Kit k) : ∀ {n d p : Nat} {ds : List Dat} {rs : List Str} {w : Int}, d < n → w + d ≤ 5 → Crs k d ds rs p → m_parts_in n (pl k, .tuple ds, w) = some (some (p : Int))
  | 0, _, _, _, _, _, hd, _, _ => absurd hd (Nat.not_lt_zero _)
  | n + 1, d, p, ds, rs, w, hd, hw, c => by
    unfold m_parts_in
    dsimp only
    rw [isO_tup, Option.bind_some, decide_eq_false (show ¬ (5 : Int) < w by omega)]
    rw [show ((!true) || false) = false from rfl, cond_false]
    rw [show tupD (.tuple ds) = some ds from rfl, Option.bind_some]
    rw [parts_loop c (fun m x hx => ?_) (fun m n' es qs q t hn c1 ht ht2 => ?_) 0]
    · show some (some ((0 : Int) + p)) = _
      rw [Int.zero_add]
    · rw [isO_str, Option.bind_some]
      rw [cond_true, show strD (.str x) = some x from rfl, Option.bind_some]
      have : hasA k.1 x = true := by
        obtain ⟨b, e⟩ := getA_mem (xs := k.1) hx
        unfold hasA
        rw [e]
        rfl
      rw [this]
      show some (Sum.inl (m + (1 + 0))) = _
      rfl
    · rw [isO_str_t, Option.bind_some]
      rw [cond_false, isO_tup, Option.bind_some]
      have e1 : lenD (.tuple [.tuple es, .int (t : Int)]) = some 2 := rfl
      have e2 : atD (.tuple [.tuple es, .int (t : Int)]) 1 = some (.int (t : Int)) := rfl
      have e3 : atD (.tuple [.tuple es, .int (t : Int)]) 0 = some (.tuple es) := rfl
      have e4 : m_is_within ((t : Int), (1 : Int), (1000000000000000000000000000000 : Int)) = some true := within_spec (by omega) (by omega)
      simp only [cond_true, e1, e2, e3, Option.bind_some, decide_true, show intD (.int (t : Int)) = some (t : Int) from rfl, e4]
      rw [parts_spec h (n := n) (by omega) (by omega) c1]
      rfl
theorem check_course_S (h : Kit k) {d p : Nat} {ds : List Dat} {rs : List Str} (c : Crs k d ds rs p) (hd : d ≤ 4) (hp : p ≤ 120) : m_check_course (pl k, .tuple ds) = some () := by
  unfold m_check_course m_fits_course
  dsimp only
  rw [parts_spec h (by omega) (by omega) c]
  simp only [Option.bind_some, Option.isSome_some, cond_true, decide_eq_true (show (p : Int) ≤ 120 by omega)]
  rfl
end
end K16
end
section
set_option maxHeartbeats 2000000
namespace K16
open PySem L2 Kx Mx
/-! ### drawn courses, and their rings one by one -/
def pB (w : Nat) : Nat → Nat
  | 0 => 0
  | d + 1 => w * (1 + pB w d)
def lB (w o : Nat) : Nat → Nat
  | 0 => 1
  | d + 1 => w * (o * lB w o d)
section
variable {k : KT0} {s : SS}
theorem tune_spec (h : Kit k) {w o : Nat} (hw1 : 1 ≤ w) (hw : w ≤ 1000) (ho : 1 ≤ o) (ho2 : o ≤ 10 ^ 30) : ∀ {d n : Nat} (z : Sto), d < n → Wp (m__law_tune n (k, ((d + 1 : Nat) : Int), (w : Int), (o : Int)) z) fun r => ∃ rs p, Crs k d r.1 rs p ∧ p ≤ pB w (d + 1) ∧ rs.length ≤ lB w o (d + 1)
  | _, 0, _, hd => absurd hd (Nat.not_lt_zero _)
  | d, n + 1, z, hd => by
    unfold m__law_tune
    dsimp only
    have hk1 := h.l1
    have hk2 := h.l2
    refine wp_bind (pull_nat z (by omega) (by omega)) fun t1 ⟨j, e1, hj⟩ => ?_
    rw [e1]
    refine wp_bind (wp_rngN (P := fun t => t = irange 0 (j : Int)) (by omega) rfl) fun t2 e2 => ?_
    subst e2
    have hL : 1 ≤ o * lB w o d := by
      have : ∀ d, 1 ≤ lB w o d := fun d => by
        induction d with
        | zero => exact Nat.le_refl _
        | succ d ih => exact Nat.mul_pos hw1 (Nat.mul_pos ho ih)
      exact Nat.mul_pos ho (this d)
    refine wp_bind (wp_forO (P := fun st : List Dat × Sto => ∃ rs p, Crs k d st.1 rs p ∧ p ≤ j * (1 + pB w d) ∧ rs.length ≤ j * (o * lB w o d)) (fun i st => st.1.length = i ∧ ∃ rs p, Crs k d st.1 rs p ∧ p ≤ i * (1 + pB w d) ∧ rs.length ≤ i * (o * lB w o d)) ⟨rfl, [], 0, .nil, by simp, by simp⟩ (fun i x st hx ⟨hl, rs, p, c, hp, hr⟩ => ?_) fun st hst => by rw [irange_nat_len] at hst; exact hst.2) fun fin ⟨rs, p, c, hp, hr⟩ => wp_some ⟨rs, p, c, ?_, ?_⟩
    · have hij := (irange_at hx).1
      refine wp_bind (P := fun t => t.1 = true → 1 ≤ d) (wp_cond (fun e => ?_) fun _ => wp_some (fun e => by cases e)) fun t11 h11 => ?_
      · refine wp_bind (pull_spec _ (by decide) (by decide)) fun t _ => wp_some fun _ => ?_
        have := of_decide_eq_true e
        omega
      · refine wp_cond (fun e => ?_) fun _ => ?_
        · obtain ⟨d', rfl⟩ : ∃ d', d = d' + 1 := ⟨d - 1, by have := h11 e; omega⟩
          rw [show (((d' + 1 + 1 : Nat) : Int) - 1) = ((d' + 1 : Nat) : Int) by omega]
          refine wp_bind (tune_spec h hw1 hw ho ho2 (d := d') (n := n) t11.2 (by omega)) fun t12 ⟨qs, q, c1, hq, hqs⟩ => ?_
          refine wp_bind (pull_nat _ (by omega) (by omega)) fun t13 ⟨m, e13, hm⟩ => ?_
          rw [e13]
          have et : (1 : Int) + (m : Int) = ((1 + m : Nat) : Int) := by omega
          rw [et]
          refine wp_bind (wp_appO (P := fun r => r = st.1 ++ [.tuple [.tuple t12.1, .int ((1 + m : Nat) : Int)]]) (by omega) (by rw [show (eP2 (eT id) Dat.int) (t12.1, ((1 + m : Nat) : Int)) = .tuple [.tuple (t12.1.map id), .int ((1 + m : Nat) : Int)] from rfl, List.map_id])) fun t14 e14 => ?_
          subst e14
          have c2 : Crs k (d' + 1) [.tuple [.tuple t12.1, .int ((1 + m : Nat) : Int)]] ((List.replicate (1 + m) qs).flatten ++ []) (1 + q + 0) := .rp c1 (by omega) (by omega) .nil
          refine wp_some ⟨by simp; omega, _, _, c.app c2, ?_, ?_⟩
          · rw [Nat.add_mul, Nat.one_mul]
            omega
          · rw [List.append_nil, List.length_append, rep_len, Nat.add_one_mul i]
            have : (1 + m) * qs.length ≤ o * lB w o (d' + 1) := Nat.mul_le_mul (by omega) hqs
            omega
        · refine wp_bind (pull_nat _ (by omega) (by omega)) fun t15 ⟨m, e15, hm⟩ => ?_
          rw [e15]
          refine wp_bind (wp_atI (P := fun b => b ∈ k.1) (by omega) (List.getElem_mem _)) fun b hb => ?_
          refine wp_bind (wp_appO (P := fun r => r = st.1 ++ [.str b.1]) (by omega) rfl) fun t17 e17 => ?_
          subst e17
          have c2 : Crs k d [.str b.1] [b.1] (1 + 0) := .nm (List.mem_map.mpr ⟨b, hb, rfl⟩) .nil
          refine wp_some ⟨by simp; omega, _, _, c.app c2, ?_, ?_⟩
          · rw [Nat.add_mul, Nat.one_mul]
            omega
          · rw [List.length_append, List.length_singleton, Nat.add_mul, Nat.one_mul]
            omega
    · exact Nat.le_trans hp (Nat.mul_le_mul (by omega) (Nat.le_refl _))
    · exact Nat.le_trans hr (Nat.mul_le_mul (by omega) (Nat.le_refl _))
end
end K16
end
section
set_option maxHeartbeats 2000000
namespace K16
open PySem L2 Kx Mx
section
variable {k : KT0} {s : SS}
theorem Crs.one {n q t : Nat} {es : List Dat} {qs : List Str} (c : Crs k n es qs q) (h1 : 1 ≤ t) (h2 : t ≤ 10 ^ 30) : Crs k (n + 1) [.tuple [.tuple es, .int (t : Int)]] (List.replicate t qs).flatten (1 + q) := by
  have := Crs.rp c h1 h2 (.nil (k := k) (n := n + 1))
  rw [List.append_nil] at this
  exact this
theorem part_eq {es : List Dat} {i : Int} : (eP2 (eT id) Dat.int) (es, i) = .tuple [.tuple es, .int i] := by
  show Dat.tuple [.tuple (es.map id), .int i] = _
  rw [List.map_id]
theorem Crs.dlen {n p : Nat} {ds : List Dat} {rs : List Str} (c : Crs k n ds rs p) : ds.length ≤ p := by
  induction c with
  | nil => simp
  | nm _ _ ih => rw [List.length_cons]; omega
  | rp _ _ _ _ _ ih => rw [List.length_cons]; omega
/-- rings alone are a course -/
theorem Crs.names {n : Nat} : ∀ {rs : List Str}, (∀ x ∈ rs, x ∈ cs k) → Crs k n (rs.map Dat.str) rs rs.length
  | [], _ => .nil
  | x :: rs, h => by
    rw [List.length_cons, Nat.add_comm]
    exact .nm (h x List.mem_cons_self) (Crs.names fun y hy => h y (List.mem_cons_of_mem _ hy))
end
end K16
end
section
set_option maxHeartbeats 2000000
namespace K16
open PySem L2 Kx Mx TL
/-! ### texts of courses: what is cut, where signs end -/
theorem cut_at {z : Str} {a b : List Nat} {m : Nat} (e : tl z = a ++ b) (hz : z.length ≤ 16777216) : cutSO z (some (a.length : Int)) (some (((a.length + m : Nat)) : Int)) = some ⟨(b.take m).toArray⟩ := by
  unfold cutSO
  rw [grd_yes hz, Option.bind_some]
  unfold cutS
  have hl : z.length = a.length + b.length := by rw [len_tl, e, List.length_append]
  rw [HT.sIx_nat, HT.sIx_nat, show min a.length z.length = a.length by omega, show z.cps.toList = a ++ b from e, List.drop_left]
  congr 3
  by_cases h : m ≤ b.length
  · rw [show min (a.length + m) z.length - a.length = m by omega]
  · rw [show min (a.length + m) z.length - a.length = b.length by omega, List.take_length, List.take_of_length_le (by omega)]
theorem str_is {l : List Nat} {s : String} (h : tl (Str.ofString s) = l) : (⟨l.toArray⟩ : Str) = Str.ofString s := ext_tl (by rw [h])
theorem str_not {l : List Nat} {s : String} (h : tl (Str.ofString s) ≠ l) : ¬ (⟨l.toArray⟩ : Str) = Str.ofString s := fun z => h (by rw [← z])
theorem end_loop {z s : Str} (hz : z.length ≤ 16777216) : ∀ {b a c : List Nat} {n : Nat}, tl z = a ++ b ++ c → (∀ x ∈ b, x ∈ tl s) → (∀ x ∈ c.head?, x ∉ tl s) → b.length < n →
    whileO (fun (st2 : Int) => (lenS z).bind fun t5 => (cond (decide (st2 < t5)) ((atS z st2).bind fun t6 => (inSign t6 s).bind fun t7 => some t7) (some false)).bind fun t8 => some t8) (fun (st2 : Int) => some (st2 + (1 : Int))) n (a.length : Int) = some ((a.length + b.length : Nat) : Int)
  | b, a, c, 0, _, _, _, hn => absurd hn (Nat.not_lt_zero _)
  | b, a, c, n + 1, e, hb, hc, hn => by
    have hl : z.length = a.length + b.length + c.length := by rw [len_tl, e, List.length_append, List.length_append]
    have el : lenS z = some (z.length : Int) := by unfold lenS; rw [grd_yes hz]; rfl
    have at_ : ∀ x r, tl z = a ++ x :: r → ((atS z (a.length : Int)).bind fun t6 => (inSign t6 s).bind fun t7 => some t7) = some (decide (x ∈ tl s)) := fun x r er => by
      unfold atS
      rw [grd_yes hz, Option.bind_some, show z.cps.toList = a ++ x :: r from er, show atI (a ++ x :: r) (a.length : Int) = some x from ?_, Option.bind_some, Option.bind_some]
      · rfl
      · have : atI (a ++ x :: r) (a.length : Int) = some ((a ++ x :: r)[a.length]'(by simp)) := atI_nat' (by simp)
        rw [this]
        simp
    show ((lenS z).bind _).bind _ = _
    rw [el, Option.bind_some]
    cases b with
    | cons x b =>
      rw [List.length_cons] at hn hl
      have e2 : tl z = (a ++ [x]) ++ b ++ c := by rw [e]; simp
      have ih := end_loop (z := z) (s := s) hz (b := b) (a := a ++ [x]) (c := c) (n := n) e2 (fun y hy => hb y (List.mem_cons_of_mem _ hy)) hc (by omega)
      rw [el] at ih
      rw [decide_eq_true (show (a.length : Int) < (z.length : Int) by omega), cond_true, at_ x (b ++ c) (by rw [e]; simp), Option.bind_some, Option.bind_some, decide_eq_true (hb x List.mem_cons_self), cond_true, Option.bind_some]
      rw [show (a.length : Int) + 1 = ((a ++ [x]).length : Int) by simp, ih]
      congr 2
      simp only [List.length_append, List.length_cons, List.length_nil]
      omega
    | nil =>
      cases c with
      | nil =>
        rw [decide_eq_false (by simp at hl; omega), cond_false, Option.bind_some, Option.bind_some, cond_false]
        simp
      | cons x r =>
        rw [List.length_cons] at hl
        rw [decide_eq_true (show (a.length : Int) < (z.length : Int) by simp at hl; omega), cond_true, at_ x r (by rw [e]; simp), Option.bind_some, Option.bind_some, decide_eq_false (hc x (by simp)), cond_false]
        simp
theorem end_spec {z s : Str} (hz : z.length ≤ 16777216) {a b c : List Nat} (e : tl z = a ++ b ++ c) (hb : ∀ x ∈ b, x ∈ tl s) (hc : ∀ x ∈ c.head?, x ∉ tl s) : m_end_of (z, (a.length : Int), s) = some ((a.length + b.length : Nat) : Int) := by
  unfold m_end_of
  dsimp only
  have hl : z.length = a.length + b.length + c.length := by rw [len_tl, e, List.length_append, List.length_append]
  rw [end_loop hz e hb hc (by omega), Option.bind_some]
/-- the texts of a course's parts -/
def ctx (us : List (List Nat)) : List Nat := if us = [] then [45] else joinL [32] us
inductive CT (k : KT0) : Nat → List Dat → List (List Nat) → Nat → Prop
  | nil {n : Nat} : CT k n [] [] 0
  | nm {n p : Nat} {ds : List Dat} {us : List (List Nat)} {x : Str} (hx : NameOk x) (h : CT k n ds us p) : CT k n (.str x :: ds) (tl x :: us) (1 + p)
  | rp {n p q t : Nat} {ds es : List Dat} {us vs : List (List Nat)} (h1 : CT k n es vs q) (ht : 1 ≤ t) (ht2 : t ≤ 10 ^ 30) (h : CT k (n + 1) ds us p) : CT k (n + 1) (.tuple [.tuple es, .int (t : Int)] :: ds) (([40] ++ ctx vs ++ ([41, 120] ++ numL t)) :: us) (1 + q + p)
section
variable {k : KT0}
theorem Crs.ct (h : Kit k) {n p : Nat} {ds : List Dat} {rs : List Str} (c : Crs k n ds rs p) : ∃ us, CT k n ds us p := by
  induction c with
  | nil => exact ⟨_, .nil⟩
  | nm hx _ ih => obtain ⟨us, i⟩ := ih; exact ⟨_, .nm (h.nm.1 _ hx) i⟩
  | rp _ ht ht2 _ ih1 ih2 =>
    obtain ⟨vs, i1⟩ := ih1
    obtain ⟨us, i2⟩ := ih2
    exact ⟨_, .rp i1 ht ht2 i2⟩
def sumL (us : List (List Nat)) : Nat := (us.map fun u => u.length + 1).sum
theorem joinL_len : ∀ us : List (List Nat), (joinL [32] us).length ≤ sumL us
  | [] => Nat.zero_le _
  | [u] => by show u.length ≤ (u.length + 1) + 0; omega
  | u :: v :: r => by
    have ih := joinL_len (v :: r)
    show (u ++ ([32] ++ joinL [32] (v :: r))).length ≤ (u.length + 1) + sumL (v :: r)
    rw [List.length_append, List.length_append, List.length_singleton]
    omega
theorem ctx_len (us : List (List Nat)) : (ctx us).length ≤ sumL us + 1 := by
  unfold ctx
  split
  · simp
  · have := joinL_len us; omega
theorem num31 {t : Nat} (h : t ≤ 10 ^ 30) : (numL t).length ≤ 31 := numL_len (by decide) (Nat.lt_of_le_of_lt h (by decide))
theorem CT.len {n p : Nat} {ds : List Dat} {us : List (List Nat)} (c : CT k n ds us p) : sumL us ≤ 50 * p := by
  induction c with
  | nil => exact Nat.le_refl _
  | @nm n p ds us x hx _ ih =>
    have := hx.l2
    show ((tl x).length + 1) + sumL us ≤ _
    have e : (tl x).length = x.cps.toList.length := rfl
    omega
  | @rp n p q t ds es us vs _ ht ht2 _ ih1 ih2 =>
    show (([40] ++ ctx vs ++ ([41, 120] ++ numL t)).length + 1) + sumL us ≤ _
    have := ctx_len vs
    have := num31 ht2
    simp only [List.length_append, List.length_cons, List.length_nil]
    omega
theorem CT.dlen {n p : Nat} {ds : List Dat} {us : List (List Nat)} (c : CT k n ds us p) : ds.length ≤ p ∧ us.length = ds.length := by
  induction c with
  | nil => simp
  | nm _ _ ih => simp only [List.length_cons]; omega
  | rp _ _ _ _ _ ih => simp only [List.length_cons]; omega
/-- every part's text begins with a letter or a bracket, and is not empty -/
theorem CT.head {n p : Nat} {ds : List Dat} {us : List (List Nat)} (c : CT k n ds us p) : ∀ u ∈ us, ∃ x r, u = x :: r ∧ (x = 40 ∨ 97 ≤ x ∧ x ≤ 122) := by
  induction c with
  | nil => intro u hu; cases hu
  | @nm n p ds us x hx _ ih =>
    intro u hu
    rcases List.mem_cons.mp hu with rfl | hu
    · have h1 := hx.l1
      cases e : tl x with
      | nil => rw [show x.cps.toList = [] from e] at h1; exact absurd h1 (by decide)
      | cons y r => exact ⟨y, r, rfl, .inr (hx.b y (by rw [show x.cps.toList = y :: r from e]; exact List.mem_cons_self))⟩
    · exact ih u hu
  | rp _ _ _ _ _ ih =>
    intro u hu
    rcases List.mem_cons.mp hu with rfl | hu
    · exact ⟨40, _, rfl, .inl rfl⟩
    · exact ih u hu
theorem joinL_head {us : List (List Nat)} {x : Nat} {r : List Nat} {vs : List (List Nat)} (e : us = (x :: r) :: vs) : ∃ r', joinL [32] us = x :: r' := by
  subst e
  cases vs with
  | nil => exact ⟨r, rfl⟩
  | cons v w => exact ⟨_, rfl⟩
theorem numL_head : ∀ {n : Nat}, 1 ≤ n → ∃ x r, numL n = x :: r ∧ x ≠ 48 := fun {n} => by
  induction n using Nat.strongRecOn with
  | _ n ih =>
    intro hn
    by_cases h : n < 10
    · exact ⟨48 + n, [], numL_lt h, by omega⟩
    · obtain ⟨x, r, e, hx⟩ := ih (n / 10) (by omega) (by omega)
      exact ⟨x, r ++ [48 + n % 10], by rw [numL_step (by omega), e]; rfl, hx⟩
end
end K16
end
section
set_option maxHeartbeats 4000000
namespace K16
open PySem L2 Kx Mx TL
/-! ### a course read from its text -/
def Aft (c : List Nat) : Prop := ∀ x ∈ c.head?, x = 32 ∨ x = 41 ∨ x = 10
def EndC (c : List Nat) : Prop := c = [] ∨ ∃ x r, c = x :: r ∧ (x = 41 ∨ x = 10)
theorem e_open : tl (Str.ofString "(") = [40] := by decide +kernel
theorem e_space : tl (Str.ofString " ") = [32] := by decide +kernel
theorem e_close : tl (Str.ofString ")x") = [41, 120] := by decide +kernel
theorem e_dash : tl (Str.ofString "-") = [45] := by decide +kernel
theorem e_zero : tl (Str.ofString "0") = [48] := by decide +kernel
theorem e_let : ∀ x, x ∈ tl (Str.ofString "abcdefghijklmnopqrstuvwxyz") ↔ 97 ≤ x ∧ x ≤ 122 := fun x => by
  rw [show tl (Str.ofString "abcdefghijklmnopqrstuvwxyz") = List.range' 97 26 from letters, List.mem_range']
  constructor
  · rintro ⟨i, hi, rfl⟩; omega
  · intro h; exact ⟨x - 97, by omega, by omega⟩
theorem e_fig : ∀ x, x ∈ tl (Str.ofString "0123456789") ↔ 48 ≤ x ∧ x ≤ 57 := fun x => by
  rw [show tl (Str.ofString "0123456789") = List.range' 48 10 by decide +kernel, List.mem_range']
  constructor
  · rintro ⟨i, hi, rfl⟩; omega
  · intro h; exact ⟨x - 48, by omega, by omega⟩
theorem cut1 {z : Str} {a b : List Nat} (e : tl z = a ++ b) (hz : z.length ≤ 16777216) : cutSO z (some (a.length : Int)) (some ((a.length : Int) + 1)) = some ⟨(b.take 1).toArray⟩ := by
  rw [show (a.length : Int) + 1 = ((a.length + 1 : Nat) : Int) by omega]
  exact cut_at e hz
theorem len_yes {z : Str} (hz : z.length ≤ 16777216) : lenS z = some (z.length : Int) := by unfold lenS; rw [grd_yes hz]; rfl
section
variable {k : KT0} {z : Str}
abbrev rbody (z : Str) (PF : Int → Option (Option (Dat × Int))) : Int × List Dat → Option ((Int × List Dat) ⊕ Option (List Dat × Int)) := fun st3 => (PF st3.1).bind fun t7 => cond (t7).isNone (some (.inr (none : (Option ((List Dat) × Int))))) ((t7).bind fun t8 => (appO st3.2 t8.1).bind fun t9 => (t7).bind fun t10 => (cutSO z (some t10.2) (some (t10.2 + (1 : Int)))).bind fun t11 => cond (!decide (t11 = (Str.ofString " "))) (some (.inr (some (t9, t10.2)))) (some (.inl ((t10.2 + (1 : Int)), t9))))
theorem read_step (hz : z.length ≤ 16777216) {PF : Int → Option (Option (Dat × Int))} {item : Dat} {u : List Nat} {us : List (List Nat)} {ds fd : List Dat} {a cc : List Nat} {m : Nat}
    (hp : ∀ c', tl z = a ++ u ++ c' → Aft c' → PF (a.length : Int) = some (some (item, ((a.length + u.length : Nat) : Int)))) (e : tl z = a ++ joinL [32] (u :: us) ++ cc) (hcc : EndC cc) (hfd : fd.length < 16777216)
    (ih : us ≠ [] → ∀ a', a' = a ++ u ++ [32] → whileR (fun _ => some true) (rbody z PF) m ((a'.length : Int), fd ++ [item]) = some (.inr (some ((fd ++ [item]) ++ ds, ((a'.length + (joinL [32] us).length : Nat) : Int))))) (hn : us = [] → ds = []) :
    whileR (fun _ => some true) (rbody z PF) (m + 1) ((a.length : Int), fd) = some (.inr (some (fd ++ item :: ds, ((a.length + (joinL [32] (u :: us)).length : Nat) : Int)))) := by
  have key : ∀ c', tl z = a ++ u ++ c' → Aft c' → rbody z PF ((a.length : Int), fd) = cond (!decide ((⟨(c'.take 1).toArray⟩ : Str) = Str.ofString " ")) (some (.inr (some (fd ++ [item], ((a.length + u.length : Nat) : Int))))) (some (.inl (((a.length + u.length : Nat) : Int) + 1, fd ++ [item]))) := fun c' e1 hA => by
    show ((PF (a.length : Int)).bind _) = _
    rw [hp c' e1 hA, Option.bind_some, Option.isNone_some, cond_false, Option.bind_some]
    unfold appO
    rw [grd_yes hfd, Option.bind_some, Option.bind_some, Option.bind_some]
    have := cut1 (a := a ++ u) (b := c') (by rw [e1]) hz
    rw [List.length_append] at this
    show (cutSO z (some ((a.length + u.length : Nat) : Int)) (some (((a.length + u.length : Nat) : Int) + 1))).bind _ = _
    rw [this, Option.bind_some]
  show (((some true).bind fun b => cond b ((rbody z PF ((a.length : Int), fd)).bind fun s' => orR s' (fun s2 => whileR (fun _ => some true) (rbody z PF) m s2) (fun r => some (.inr r))) (some (.inl ((a.length : Int), fd))))) = _
  rw [Option.bind_some, cond_true]
  cases us with
  | nil =>
    have e1 : tl z = a ++ u ++ cc := e
    rw [key cc e1 (fun x hx => by
      rcases hcc with rfl | ⟨y, r, rfl, hy⟩
      · cases hx
      · have : y = x := by simpa using hx
        exact .inr (this ▸ hy))]
    rw [decide_eq_false (str_not (by
      rw [e_space]
      rcases hcc with rfl | ⟨y, r, rfl, hy⟩
      · simp
      · simp; omega)), Bool.not_false, cond_true, Option.bind_some, hn rfl]
    rfl
  | cons v r =>
    have e1 : tl z = a ++ u ++ (32 :: (joinL [32] (v :: r) ++ cc)) := by
      rw [e]
      show a ++ (u ++ ([32] ++ joinL [32] (v :: r))) ++ cc = _
      simp
    rw [key _ e1 (fun x hx => .inl (by simpa using hx.symm))]
    rw [decide_eq_true (str_is (by rw [e_space]; rfl)), Bool.not_true, cond_false, Option.bind_some]
    show whileR (fun _ => some true) (rbody z PF) m (((a.length + u.length : Nat) : Int) + 1, fd ++ [item]) = _
    have := ih (by simp) _ rfl
    have ee : ((a ++ u ++ [32]).length : Int) = ((a.length + u.length : Nat) : Int) + 1 := by
      simp only [List.length_append, List.length_cons, List.length_nil]
      omega
    rw [← ee, this]
    congr 4
    · simp
    · have : (joinL [32] (u :: v :: r)).length = u.length + (1 + (joinL [32] (v :: r)).length) := by
        show (u ++ ([32] ++ joinL [32] (v :: r))).length = _
        rw [List.length_append, List.length_append]
        rfl
      rw [this]
      simp only [List.length_append, List.length_cons, List.length_nil]
      omega
theorem read_loop (hz : z.length ≤ 16777216) {PF : Int → Option (Option (Dat × Int))} {d p : Nat} {ds : List Dat} {us : List (List Nat)} (c : CT k d ds us p)
    (h1 : ∀ (a c' : List Nat) (x : Str), NameOk x → tl z = a ++ tl x ++ c' → Aft c' → PF (a.length : Int) = some (some (.str x, ((a.length + (tl x).length : Nat) : Int))))
    (h2 : ∀ (a c' : List Nat) n es vs q (t : Nat), n + 1 ≤ d → CT k n es vs q → 1 ≤ t → t ≤ 10 ^ 30 → tl z = a ++ ([40] ++ ctx vs ++ ([41, 120] ++ numL t)) ++ c' → Aft c' → PF (a.length : Int) = some (some (.tuple [.tuple es, .int (t : Int)], ((a.length + ([40] ++ ctx vs ++ ([41, 120] ++ numL t)).length : Nat) : Int)))) :
    ∀ {a cc : List Nat} {fd : List Dat} {m : Nat}, us ≠ [] → tl z = a ++ joinL [32] us ++ cc → EndC cc → fd.length + ds.length ≤ 16777216 → ds.length ≤ m →
      whileR (fun _ => some true) (rbody z PF) m ((a.length : Int), fd) = some (.inr (some (fd ++ ds, ((a.length + (joinL [32] us).length : Nat) : Int)))) := by
  induction c with
  | nil => intro a cc fd m hu; exact absurd rfl hu
  | @nm n p ds us x hx c ih =>
    intro a cc fd m _ e hcc hf hm
    rw [List.length_cons] at hf hm
    obtain ⟨m, rfl⟩ : ∃ j, m = j + 1 := ⟨m - 1, by omega⟩
    refine read_step hz (fun c' e1 hA => h1 a c' x hx e1 hA) e hcc (by omega) (fun hu a' ea => ?_) fun hu => ?_
    · subst ea
      refine ih h2 hu ?_ hcc (by rw [List.length_append, List.length_singleton]; omega) (by omega)
      rw [e]
      cases us with
      | nil => exact absurd rfl hu
      | cons v r =>
        show a ++ (tl x ++ ([32] ++ joinL [32] (v :: r))) ++ cc = _
        simp
    · have := c.dlen.2
      rw [hu] at this
      exact List.eq_nil_of_length_eq_zero this.symm
  | @rp n p q t ds es us vs c1 ht ht2 c ih1 ih2 =>
    intro a cc fd m _ e hcc hf hm
    rw [List.length_cons] at hf hm
    obtain ⟨m, rfl⟩ : ∃ j, m = j + 1 := ⟨m - 1, by omega⟩
    refine read_step hz (fun c' e1 hA => h2 a c' n es vs q t (Nat.le_refl _) c1 ht ht2 e1 hA) e hcc (by omega) (fun hu a' ea => ?_) fun hu => ?_
    · subst ea
      refine ih2 h2 hu ?_ hcc (by rw [List.length_append, List.length_singleton]; omega) (by omega)
      rw [e]
      cases us with
      | nil => exact absurd rfl hu
      | cons v r =>
        show a ++ (_ ++ ([32] ++ joinL [32] (v :: r))) ++ cc = _
        simp
    · have := c.dlen.2
      rw [hu] at this
      exact List.eq_nil_of_length_eq_zero this.symm
end
end K16
end
section
set_option maxHeartbeats 4000000
namespace K16
open PySem L2 Kx Mx TL
section
variable {k : KT0} {z : Str}
theorem part_word (hz : z.length ≤ 16777216) {n : Nat} {w : Int} {a c : List Nat} {x : Str} (hx : NameOk x) (e : tl z = a ++ tl x ++ c) (hA : Aft c) : m_part_read (n + 1) (z, (a.length : Int), w) = some (some (.str x, ((a.length + (tl x).length : Nat) : Int))) := by
  unfold m_part_read
  dsimp only
  have h1 : 1 ≤ (tl x).length := hx.l1
  obtain ⟨y, r, ey⟩ : ∃ y r, tl x = y :: r := by
    cases q : tl x with
    | nil => rw [q] at h1; exact absurd h1 (by decide)
    | cons y r => exact ⟨y, r, rfl⟩
  have hy := hx.b y (by rw [show x.cps.toList = y :: r from ey]; exact List.mem_cons_self)
  have e1 : tl z = a ++ (y :: (r ++ c)) := by rw [e, ey]; simp
  rw [cut1 e1 hz, Option.bind_some, decide_eq_false (str_not (by rw [e_open]; simp; omega)), Bool.not_false, cond_true]
  rw [end_spec hz e (fun u hu => (e_let u).mpr (hx.b u hu)) (fun u hu => by rw [e_let]; rcases hA u hu with h | h | h <;> omega), Option.bind_some]
  rw [decide_eq_false (by omega), cond_false]
  have := cut_at (a := a) (b := tl x ++ c) (m := (tl x).length) (by rw [e, List.append_assoc]) hz
  rw [List.take_left, mk_tl] at this
  rw [this, Option.bind_some, Option.bind_some]
theorem at_mid (p : List Nat) (y : Nat) (q : List Nat) : atI (p ++ y :: q) (p.length : Int) = some y := by
  have : atI (p ++ y :: q) ((p.length : Nat) : Int) = some ((p ++ y :: q)[p.length]'(by simp)) := atI_nat' (by simp)
  rw [this]
  simp
theorem part_group (hz : z.length ≤ 16777216) {n : Nat} {w : Int} {a c vs' : List Nat} {es : List Dat} {t : Nat} (ht : 1 ≤ t) (ht2 : t ≤ 10 ^ 30) (e : tl z = a ++ ([40] ++ vs' ++ ([41, 120] ++ numL t)) ++ c) (hA : Aft c)
    (hr : m_course_read n (z, ((a ++ [40]).length : Int), w + 1) = some (some (es, (((a ++ [40]).length + vs'.length : Nat) : Int)))) :
    m_part_read (n + 1) (z, (a.length : Int), w) = some (some (.tuple [.tuple es, .int (t : Int)], ((a.length + ([40] ++ vs' ++ ([41, 120] ++ numL t)).length : Nat) : Int))) := by
  unfold m_part_read
  dsimp only
  have e1 : tl z = a ++ (40 :: (vs' ++ ([41, 120] ++ numL t) ++ c)) := by rw [e]; simp
  rw [cut1 e1 hz, Option.bind_some, decide_eq_true (str_is (by rw [e_open]; rfl)), Bool.not_true, cond_false]
  rw [show (a.length : Int) + 1 = ((a ++ [40]).length : Int) by simp, hr, Option.bind_some, Option.isNone_some, cond_false, Option.bind_some, Option.bind_some]
  obtain ⟨b, hb⟩ : ∃ b, b = a ++ [40] ++ vs' := ⟨_, rfl⟩
  have lb : b.length = (a ++ [40]).length + vs'.length := by rw [hb, List.length_append]
  rw [← lb]
  dsimp only
  have e2 : tl z = b ++ ([41, 120] ++ (numL t ++ c)) := by rw [e, hb]; simp
  have c2 := cut_at (m := 2) e2 hz
  rw [show (b.length : Int) + 2 = ((b.length + 2 : Nat) : Int) by omega, c2, Option.bind_some, decide_eq_true (str_is (by rw [e_close]; rfl)), Bool.not_true, Option.bind_some, cond_false, Option.bind_some]
  dsimp only
  rw [show (b.length : Int) + 2 = ((b.length + 2 : Nat) : Int) by omega]
  have e3 : tl z = (b ++ [41, 120]) ++ numL t ++ c := by rw [e2]; simp
  have l3 : (b ++ [41, 120]).length = b.length + 2 := by simp
  have hd := numL_digits t
  have en := end_spec (s := Str.ofString "0123456789") hz e3 (fun u hu => (e_fig u).mpr (hd u hu)) (fun u hu => by rw [e_fig]; rcases hA u hu with h | h | h <;> omega)
  rw [l3] at en
  rw [en, Option.bind_some]
  have n1 : 1 ≤ (numL t).length := List.length_pos_iff.mpr (numL_ne t)
  have n2 := num31 ht2
  rw [decide_eq_true (show (1 : Int) ≤ ((b.length + 2 + (numL t).length : Nat) : Int) - ((b.length + 2 : Nat) : Int) by omega), decide_eq_true (show ((b.length + 2 + (numL t).length : Nat) : Int) - ((b.length + 2 : Nat) : Int) ≤ 31 by omega)]
  rw [show (!(true && true)) = false from rfl, cond_false]
  obtain ⟨x, r, ex, hx⟩ := numL_head ht
  have ea : atS z ((b.length + 2 : Nat) : Int) = some ⟨#[x]⟩ := by
    unfold atS
    rw [grd_yes hz, Option.bind_some, show z.cps.toList = (b ++ [41, 120]) ++ x :: (r ++ c) from by rw [show z.cps.toList = tl z from rfl, e3, ex]; simp]
    have := at_mid (b ++ [41, 120]) x (r ++ c)
    rw [l3] at this
    rw [this, Option.bind_some]
  rw [ea, Option.bind_some, decide_eq_false (show ¬ (⟨#[x]⟩ : Str) = Str.ofString "0" from str_not (l := [x]) (by rw [e_zero]; simp; omega)), Option.bind_some, cond_false, Option.bind_some]
  have c4 := cut_at (a := b ++ [41, 120]) (b := numL t ++ c) (m := (numL t).length) (by rw [e3, List.append_assoc]) hz
  rw [l3, List.take_left] at c4
  rw [c4, Option.bind_some]
  have ei : intSO (⟨(numL t).toArray⟩ : Str) = some (t : Int) := by
    have es : (⟨(numL t).toArray⟩ : Str) = Str.ofString (toString ((t : Nat) : Int)) := ext_tl (by rw [tl_num])
    unfold intSO
    rw [es, grd_yes (by rw [len_tl, tl_num]; omega), Option.bind_some, int_num (by omega)]
  rw [ei, Option.bind_some, part_eq]
  congr 4
  rw [lb]
  simp only [List.length_append, List.length_cons, List.length_nil]
  omega
theorem joinL_ne {us : List (List Nat)} {d p : Nat} {ds : List Dat} (c : CT k d ds us p) (hu : us ≠ []) : ∃ x r, joinL [32] us = x :: r ∧ x ≠ 45 := by
  cases us with
  | nil => exact absurd rfl hu
  | cons u vs =>
    obtain ⟨x, r, rfl, hx⟩ := c.head u List.mem_cons_self
    obtain ⟨r', e⟩ := joinL_head (us := (x :: r) :: vs) rfl
    exact ⟨x, r', e, by omega⟩
theorem joinL_many : ∀ {us : List (List Nat)}, (∀ u ∈ us, 1 ≤ u.length) → us.length ≤ (joinL [32] us).length
  | [], _ => Nat.zero_le _
  | [u], h => h u List.mem_cons_self
  | u :: v :: r, h => by
    have ih := joinL_many (us := v :: r) fun x hx => h x (List.mem_cons_of_mem _ hx)
    show r.length + 1 + 1 ≤ (u ++ ([32] ++ joinL [32] (v :: r))).length
    have := h u List.mem_cons_self
    simp only [List.length_append, List.length_cons, List.length_nil] at ih ⊢
    omega
theorem read_spec (hz : z.length ≤ 16777216) : ∀ {d n p : Nat} {ds : List Dat} {us : List (List Nat)} {a c : List Nat} {w : Int}, 2 * d + 2 ≤ n → CT k d ds us p → w + d ≤ 5 → tl z = a ++ ctx us ++ c → EndC c → ds.length ≤ z.length →
    m_course_read n (z, (a.length : Int), w) = some (some (ds, ((a.length + (ctx us).length : Nat) : Int))) := by
  intro d
  induction d using Nat.strongRecOn with
  | _ d ih =>
    intro n p ds us a c w hn ct hw e hc hl
    obtain ⟨n, rfl⟩ : ∃ j, n = j + 1 := ⟨n - 1, by omega⟩
    unfold m_course_read
    dsimp only
    rw [decide_eq_false (by omega), cond_false]
    have dl := ct.dlen
    by_cases hu : us = []
    · subst hu
      have e1 : tl z = a ++ (45 :: c) := by
        rw [e]
        show a ++ [45] ++ c = _
        simp
      rw [cut1 e1 hz, Option.bind_some, decide_eq_true (str_is (by rw [e_dash]; rfl)), cond_true, List.eq_nil_of_length_eq_zero (l := ds) (by simp at dl; omega)]
      rfl
    · have ec : ctx us = joinL [32] us := if_neg hu
      rw [ec] at e ⊢
      obtain ⟨x, r, ej, hx⟩ := joinL_ne ct hu
      have e1 : tl z = a ++ (x :: (r ++ c)) := by rw [e, ej]; simp
      rw [cut1 e1 hz, Option.bind_some, decide_eq_false (str_not (by rw [e_dash]; simp; omega)), cond_false]
      have W := read_loop (k := k) hz (PF := fun at_ => m_part_read n (z, at_, w)) ct (fun a' c' y hy e2 hA => ?_) (fun a' c' m es vs q t hm c1 ht ht2 e2 hA => ?_) (a := a) (cc := c) (fd := []) (m := z.length + 1) hu e hc (by simp; omega) (by omega)
      · show ((whileR (fun _ => some true) (rbody z fun at_ => m_part_read n (z, at_, w)) (z.length + 1) ((a.length : Int), [])).bind _) = _
        rw [W, Option.bind_some]
        rfl
      · obtain ⟨n, rfl⟩ : ∃ j, n = j + 1 := ⟨n - 1, by omega⟩
        exact part_word hz hy e2 hA
      · obtain ⟨n, rfl⟩ : ∃ j, n = j + 1 := ⟨n - 1, by omega⟩
        refine part_group hz ht ht2 e2 hA ?_
        refine ih m (by omega) (by omega) c1 (by omega) (c := [41, 120] ++ numL t ++ c') ?_ (.inr ⟨_, _, rfl, .inl rfl⟩) ?_
        · rw [e2]; simp
        · have hd := c1.dlen
          have hj : es.length ≤ (ctx vs).length := by
            by_cases q : vs = []
            · subst q; simp at hd; omega
            · unfold ctx
              rw [if_neg q, ← hd.2]
              exact joinL_many fun u hu => by
                obtain ⟨x, r, rfl, _⟩ := c1.head u hu
                simp
          have : z.length = (a' ++ ([40] ++ ctx vs ++ ([41, 120] ++ numL t)) ++ c').length := by rw [len_tl, e2]
          simp only [List.length_append] at this
          omega
end
end K16
end
section
set_option maxHeartbeats 4000000
namespace K16
open PySem L2 Kx Mx TL
section
variable {k : KT0}
/-! ### a course shown -/
theorem CT.small {n p : Nat} {ds : List Dat} {us : List (List Nat)} (c : CT k n ds us p) : ∀ u ∈ us, ∀ x ∈ u, x < 128 := by
  have jn : ∀ {vs : List (List Nat)}, (∀ u ∈ vs, ∀ x ∈ u, x < 128) → ∀ x ∈ joinL [32] vs, x < 128 := by
    intro vs
    induction vs with
    | nil => intro _ x hx; cases hx
    | cons u r ih =>
      intro h x hx
      cases r with
      | nil => exact h u List.mem_cons_self x hx
      | cons v w =>
        rcases List.mem_append.mp (show x ∈ u ++ ([32] ++ joinL [32] (v :: w)) from hx) with hx | hx
        · exact h u List.mem_cons_self x hx
        · rcases List.mem_append.mp hx with hx | hx
          · rw [List.mem_singleton.mp hx]; decide
          · exact ih (fun u hu => h u (List.mem_cons_of_mem _ hu)) x hx
  induction c with
  | nil => intro u hu; cases hu
  | @nm n p ds us x hx _ ih =>
    intro u hu
    rcases List.mem_cons.mp hu with rfl | hu
    · intro y hy
      have := hx.b y hy
      omega
    · exact ih u hu
  | @rp n p q t ds es us vs _ ht ht2 _ ih1 ih2 =>
    intro u hu
    rcases List.mem_cons.mp hu with rfl | hu
    · intro y hy
      rcases List.mem_append.mp hy with hy | hy
      · rcases List.mem_append.mp hy with hy | hy
        · rw [List.mem_singleton.mp hy]; decide
        · unfold ctx at hy
          split at hy
          · rw [List.mem_singleton.mp hy]; decide
          · exact jn ih1 y hy
      · rcases List.mem_append.mp hy with hy | hy
        · simp at hy; omega
        · have := numL_digits t y hy; omega
    · exact ih2 u hu
theorem joinL_small {vs : List (List Nat)} (h : ∀ u ∈ vs, ∀ x ∈ u, x < 128) : ∀ x ∈ joinL [32] vs, x < 128 := by
  induction vs with
  | nil => intro x hx; cases hx
  | cons u r ih =>
    intro x hx
    cases r with
    | nil => exact h u List.mem_cons_self x hx
    | cons v w =>
      rcases List.mem_append.mp (show x ∈ u ++ ([32] ++ joinL [32] (v :: w)) from hx) with hx | hx
      · exact h u List.mem_cons_self x hx
      · rcases List.mem_append.mp hx with hx | hx
        · rw [List.mem_singleton.mp hx]; decide
        · exact ih (fun u hu => h u (List.mem_cons_of_mem _ hu)) x hx
theorem join_words {ss : List Str} {us : List (List Nat)} (e : ss.map tl = us) (hs : ∀ u ∈ us, ∀ x ∈ u, x < 128) (hl : sumL us ≤ 16777216) : ∃ s, joinO (Str.ofString " ") ss = some s ∧ tl s = joinL [32] us := by
  have ej : tl (Txt.join (Str.ofString " ") ss) = joinL [32] us := by rw [join_eq, tl_join, e, e_space]
  have g1 : (ss.map (·.length)).sum + ss.length * (Str.ofString " ").length ≤ 16777216 := by
    have h1 : (Str.ofString " ").length = 1 := by decide +kernel
    have h2 : ∀ xs : List Str, (xs.map (·.length)).sum + xs.length * 1 = sumL (xs.map tl) := by
      intro xs
      induction xs with
      | nil => rfl
      | cons x xs ih =>
        show (x.length + (xs.map (·.length)).sum) + (xs.length + 1) * 1 = ((tl x).length + 1) + sumL (xs.map tl)
        rw [len_tl]
        omega
    rw [h1, h2, e]
    exact hl
  have g2 : sok (Txt.join (Str.ofString " ") ss) = true := sok_iff.mpr fun c hc => by
    have hc : c ∈ tl (Txt.join (Str.ofString " ") ss) := hc
    rw [ej] at hc
    have := joinL_small hs c hc
    omega
  refine ⟨_, ?_, ej⟩
  unfold joinO
  rw [grd_yes ⟨g1, g2⟩]
  rfl
theorem add_yes {a b : Str} (h : (tl a).length + (tl b).length ≤ 16777216) : addS a b = some (a ++ b) := by
  unfold addS
  rw [grd_yes (by rw [len_tl, len_tl]; exact h)]
  rfl
theorem strI_yes {t : Nat} (ht : t ≤ 10 ^ 30) : strIO (t : Int) = some (Str.ofString (toString (t : Int))) := by
  unfold strIO
  rw [grd_yes, Option.bind_some]
  refine ⟨?_, ?_⟩
  · by_cases z : (t : Int).natAbs = 0
    · rw [z]; decide
    · exact Nat.lt_trans ((Nat.log2_lt z).mpr (show (t : Int).natAbs < 2 ^ 100 from Nat.lt_of_le_of_lt (show (t : Int).natAbs ≤ 10 ^ 30 by omega) (by decide))) (by decide)
  · refine sok_iff.mpr fun c hc => ?_
    have hc : c ∈ tl (Str.ofString (toString (t : Int))) := hc
    rw [tl_num] at hc
    have := numL_digits t c hc
    omega
theorem words_map {F : Dat → Option Str} {d p : Nat} {ds : List Dat} {us : List (List Nat)} (c : CT k d ds us p) (hp : p ≤ 1000) (h1 : ∀ x, F (.str x) = some x)
    (h2 : ∀ n es vs q (t : Nat), n + 1 ≤ d → q ≤ 1000 → CT k n es vs q → t ≤ 10 ^ 30 → ∃ s, F (.tuple [.tuple es, .int (t : Int)]) = some s ∧ tl s = [40] ++ ctx vs ++ ([41, 120] ++ numL t)) : ∃ ss, mapO F ds = some ss ∧ ss.map tl = us := by
  induction c with
  | nil => exact ⟨[], rfl, rfl⟩
  | @nm n p ds us x hx c ih =>
    obtain ⟨ss, e1, e2⟩ := ih (by omega) h2
    refine ⟨x :: ss, ?_, by rw [List.map_cons, e2]⟩
    show (F _).bind _ = _
    rw [h1, Option.bind_some, e1, Option.bind_some]
  | @rp n p q t ds es us vs c1 ht ht2 c ih1 ih2 =>
    obtain ⟨ss, e1, e2⟩ := ih2 (by omega) h2
    obtain ⟨s, e3, e4⟩ := h2 n es vs q t (Nat.le_refl _) (by omega) c1 ht2
    refine ⟨s :: ss, ?_, by rw [List.map_cons, e2, e4]⟩
    show (F _).bind _ = _
    rw [e3, Option.bind_some, e1, Option.bind_some]
theorem words_lc {F : Dat → Option Str} {d p : Nat} {ds : List Dat} {us : List (List Nat)} (c : CT k d ds us p) (hp : p ≤ 1000) (h1 : ∀ x, F (.str x) = some x)
    (h2 : ∀ n es vs q (t : Nat), n + 1 ≤ d → q ≤ 1000 → CT k n es vs q → t ≤ 10 ^ 30 → ∃ s, F (.tuple [.tuple es, .int (t : Int)]) = some s ∧ tl s = [40] ++ ctx vs ++ ([41, 120] ++ numL t)) : ∃ ss, lcO F ds = some ss ∧ ss.map tl = us := by
  obtain ⟨ss, e1, e2⟩ := words_map c hp h1 h2
  have := c.dlen
  refine ⟨ss, ?_, e2⟩
  unfold lcO
  rw [grd_yes (by omega), Option.bind_some, e1]
theorem group_text {s5 : Str} {vs : List (List Nat)} {t : Nat} {q n : Nat} {es : List Dat} (c : CT k n es vs q) (hq : q ≤ 1000) (ht : t ≤ 10 ^ 30) (e5 : tl s5 = ctx vs) :
    ∃ s, ((addS (Str.ofString "(") s5).bind fun t6 => (addS t6 (Str.ofString ")x")).bind fun t7 => (strIO (t : Int)).bind fun t10 => addS t7 t10) = some s ∧ tl s = [40] ++ ctx vs ++ ([41, 120] ++ numL t) := by
  have h1 := c.len
  have h2 := ctx_len vs
  have h3 := num31 ht
  refine ⟨Str.ofString "(" ++ s5 ++ Str.ofString ")x" ++ Str.ofString (toString (t : Int)), ?_, ?_⟩
  · rw [add_yes (by rw [e_open, e5]; simp; omega), Option.bind_some, add_yes (by rw [tl_append, e_open, e5, e_close]; simp; omega), Option.bind_some, strI_yes ht, Option.bind_some, add_yes ?_]
    rw [tl_append, tl_append, e_open, e5, e_close, tl_num]
    simp
    omega
  · rw [tl_append, tl_append, tl_append, e_open, e5, e_close, tl_num]
    simp
theorem text_spec : ∀ {n d p : Nat} {ds : List Dat} {us : List (List Nat)}, 2 * d + 2 ≤ n → p ≤ 1000 → CT k d ds us p → ∃ s, m_course_text n ds = some s ∧ tl s = ctx us := by
  intro n d
  induction d using Nat.strongRecOn generalizing n with
  | _ d ih =>
    intro p ds us hn hp c
    obtain ⟨n, rfl⟩ : ∃ j, n = j + 2 := ⟨n - 2, by omega⟩
    unfold m_course_text
    have key : ∀ F : Dat → Option Str, (∃ ss, lcO F ds = some ss ∧ ss.map tl = us) → ∃ s, ((lcO F ds).bind fun t8 => (joinO (Str.ofString " ") t8).bind fun t9 => (orSO t9 (Str.ofString "-")).bind fun t10 => some t10) = some s ∧ tl s = ctx us := by
      rintro F ⟨ss, e1, e2⟩
      rw [e1, Option.bind_some]
      obtain ⟨j, ej, et⟩ := join_words e2 c.small (by have := c.len; omega)
      rw [ej, Option.bind_some]
      unfold orSO
      have hl : j.length ≤ 16777216 := by
        rw [len_tl, et]
        have := joinL_len us
        have := c.len
        omega
      rw [grd_yes hl, Option.bind_some, Option.bind_some]
      by_cases hu : us = []
      · rw [if_pos (by rw [len_tl, et, hu]; rfl)]
        exact ⟨_, rfl, by rw [e_dash, hu]; rfl⟩
      · obtain ⟨x, r, ex, _⟩ := joinL_ne c hu
        rw [if_neg (by rw [len_tl, et, ex]; simp)]
        exact ⟨_, rfl, by rw [et]; unfold ctx; rw [if_neg hu]⟩
    refine key _ (words_lc c hp (fun x => ?_) fun m es vs q t hm hq c1 ht => ?_)
    · unfold m_part_text
      rw [isO_str, Option.bind_some, cond_true]
      try rfl
    · unfold m_part_text
      obtain ⟨s5, a5, b5⟩ := ih m (by omega) (n := n) (by omega) hq c1
      obtain ⟨s, a6, b6⟩ := group_text c1 hq ht b5
      refine ⟨s, ?_, b6⟩
      rw [isO_str_t, Option.bind_some, cond_false, show atD (.tuple [.tuple es, .int (t : Int)]) 0 = some (.tuple es) from rfl, Option.bind_some, show tupD (.tuple es) = some es from rfl, Option.bind_some, a5, Option.bind_some]
      rw [show atD (.tuple [.tuple es, .int (t : Int)]) 1 = some (.int (t : Int)) from rfl]
      simp only [Option.bind_some, show intD (.int (t : Int)) = some (t : Int) from rfl]
      have : ((addS (Str.ofString "(") s5).bind fun t6 => (addS t6 (Str.ofString ")x")).bind fun t7 => (strIO (t : Int)).bind fun t10 => (addS t7 t10).bind fun t11 => some t11) = some s := by
        rw [← a6]
        congr 1; funext t6; congr 1; funext t7; congr 1; funext t10
        cases addS t7 t10 <;> rfl
      rw [this, Option.bind_some]
theorem law_text_spec : ∀ {n d p : Nat} {ds : List Dat} {us : List (List Nat)}, d < n → p ≤ 1000 → CT k d ds us p → ∃ s, m__law_text_of n ds = some s ∧ tl s = ctx us := by
  intro n d
  induction d using Nat.strongRecOn generalizing n with
  | _ d ih =>
    intro p ds us hn hp c
    obtain ⟨n, rfl⟩ : ∃ j, n = j + 1 := ⟨n - 1, by omega⟩
    unfold m__law_text_of
    have key : ∀ F : Dat → Option Str, (∃ ss, lcO F ds = some ss ∧ ss.map tl = us) → ∃ s, ((lcO F ds).bind fun t19 => (cond (!decide (t19 = ([] : (List Str)))) ((joinO (Str.ofString " ") t19).bind fun t20 => some t20) (some (Str.ofString "-"))).bind fun t21 => some t21) = some s ∧ tl s = ctx us := by
      rintro F ⟨ss, e1, e2⟩
      rw [e1, Option.bind_some]
      by_cases hs : ss = []
      · subst hs
        refine ⟨Str.ofString "-", ?_, by rw [e_dash, ← e2]; rfl⟩
        rw [decide_eq_true rfl]
        rfl
      · obtain ⟨j, ej, et⟩ := join_words e2 c.small (by have := c.len; omega)
        refine ⟨j, ?_, ?_⟩
        · rw [decide_eq_false hs, Bool.not_false, cond_true, ej]
          rfl
        · rw [et]
          unfold ctx
          rw [if_neg fun z => hs (by rw [← e2] at z; exact List.map_eq_nil_iff.mp z)]
    refine key _ (words_lc c hp (fun x => ?_) fun m es vs q t hm hq c1 ht => ?_)
    · rw [isO_str, Option.bind_some, cond_true]
      try rfl
    · obtain ⟨s5, a5, b5⟩ := ih m (by omega) (n := n) (by omega) hq c1
      obtain ⟨s, a6, b6⟩ := group_text c1 hq ht b5
      refine ⟨s, ?_, b6⟩
      rw [isO_str_t, Option.bind_some, cond_false, show atD (.tuple [.tuple es, .int (t : Int)]) 0 = some (.tuple es) from rfl, Option.bind_some, show tupD (.tuple es) = some es from rfl, Option.bind_some, a5, Option.bind_some]
      rw [show atD (.tuple [.tuple es, .int (t : Int)]) 1 = some (.int (t : Int)) from rfl]
      simp only [Option.bind_some, show intD (.int (t : Int)) = some (t : Int) from rfl]
      have : ((addS (Str.ofString "(") s5).bind fun t6 => (addS t6 (Str.ofString ")x")).bind fun t7 => (strIO (t : Int)).bind fun t10 => (addS t7 t10).bind fun t11 => some t11) = some s := by
        rw [← a6]
        congr 1; funext t6; congr 1; funext t7; congr 1; funext t10
        cases addS t7 t10 <;> rfl
      rw [this, Option.bind_some]
end
end K16
end
section
set_option maxHeartbeats 2000000
namespace K16
open PySem L2 Kx Mx
theorem eT_id {ds : List Dat} : eT id ds = .tuple ds := by
  show Dat.tuple (ds.map id) = _
  rw [List.map_id]
section
variable {k : KT0}
/-! ### repr of a course -/
structure RepC (w m : Nat) (ds : List Dat) : Prop where
  w : PyData.weightAll (ds.map toPy) ≤ w
  i : PyData.intsShortAll 40 (ds.map toPy) = true
  s : PyData.showableAll (ds.map toPy) = true
  d : PyData.depthAll (ds.map toPy) ≤ m
  p : purs ds = true
theorem rep_big {x : Nat} {m : Nat} (h : x ≤ 10 ^ 30) : Rep 200 m (.int (x : Int)) := by
  have hl : (x : Int).natAbs.log2 ≤ 100 := by
    by_cases z : (x : Int).natAbs = 0
    · rw [z]; simp
    · have := (Nat.log2_lt z).mpr (show (x : Int).natAbs < 2 ^ 100 from Nat.lt_of_le_of_lt (show (x : Int).natAbs ≤ 10 ^ 30 by omega) (by decide))
      omega
  refine ⟨?_, ?_, ?_, ?_⟩
  · unfold PyData.weight
    split <;> omega
  · unfold PyData.intsShort
    have e := PySem.int_text_length_le10 (k := 31) (a := (x : Int)) (by decide) (Nat.lt_of_le_of_lt (show (x : Int).natAbs ≤ 10 ^ 30 by omega) (by decide))
    refine decide_eq_true ?_
    show (Str.ofString (toString (x : Int))).length ≤ 40
    rw [ofString_length]
    omega
  · unfold PyData.showable
    exact decide_eq_true (by omega)
  · unfold PyData.depth; omega
theorem RepC.tup {w m : Nat} {ds : List Dat} (h : RepC w m ds) : Rep (w + 1) (m + 1) (toPy (.tuple ds)) := by
  rw [toPy_tuple]
  refine ⟨?_, ?_, ?_, ?_⟩
  · unfold PyData.weight; have := h.w; omega
  · unfold PyData.intsShort; exact h.i
  · unfold PyData.showable; exact h.s
  · unfold PyData.depth; have := h.d; omega
theorem RepC.cons {w m n : Nat} {x : Dat} {ds : List Dat} (a : Rep n m (toPy x)) (px : pur x = true) (h : RepC w m ds) : RepC (n + w) m (x :: ds) := by
  refine ⟨?_, ?_, ?_, ?_, ?_⟩
  · rw [List.map_cons]
    unfold PyData.weightAll
    have := a.w
    have := h.w
    omega
  · rw [List.map_cons]
    unfold PyData.intsShortAll
    rw [a.i, h.i]; rfl
  · rw [List.map_cons]
    unfold PyData.showableAll
    rw [a.s, h.s]; rfl
  · rw [List.map_cons]
    unfold PyData.depthAll
    have := a.d
    have := h.d
    omega
  · show (pur x && purs ds) = true
    rw [px, h.p]; rfl
theorem RepC.nil {m : Nat} : RepC 0 m [] := by
  refine ⟨?_, ?_, ?_, ?_, rfl⟩ <;> rw [List.map_nil]
  · unfold PyData.weightAll; omega
  · unfold PyData.intsShortAll; rfl
  · unfold PyData.showableAll; rfl
  · unfold PyData.depthAll; omega
theorem RepC.mono {w m w' m' : Nat} {ds : List Dat} (h : RepC w m ds) (hw : w ≤ w') (hm : m ≤ m') : RepC w' m' ds := ⟨Nat.le_trans h.w hw, h.i, h.s, Nat.le_trans h.d hm, h.p⟩
theorem crs_rep (h : Kit k) {d p : Nat} {ds : List Dat} {rs : List Str} (c : Crs k d ds rs p) : RepC (300 * p) (2 * d) ds := by
  induction c with
  | nil => exact RepC.nil
  | @nm n p ds rs x hx c ih =>
    refine (RepC.cons (n := 10) (x := .str x) ?_ rfl ih).mono (by omega) (Nat.le_refl _)
    rw [toPy_str]
    exact rep_str (h.nm.1 x hx)
  | @rp n p q t ds es rs qs c1 ht ht2 c ih1 ih2 =>
    have a1 : RepC (300 * q + 1 + (200 + 0)) (2 * n + 1) [.tuple es, .int (t : Int)] := by
      refine RepC.cons ih1.tup ?_ (RepC.cons ?_ rfl RepC.nil)
      · exact ih1.p
      · rw [toPy_int]; exact rep_big ht2
    refine (RepC.cons (x := .tuple [.tuple es, .int (t : Int)]) (a1.tup.mono (Nat.le_refl _) (by omega)) ?_ ih2).mono (by omega) (Nat.le_refl _)
    exact a1.p
theorem crs_shown (h : Kit k) {d p : Nat} {ds : List Dat} {rs : List Str} (c : Crs k d ds rs p) (hd : d ≤ 10) (hp : p ≤ 120) : ∃ t, reprD (eT id ds) = some t := by
  have r := crs_rep h c
  obtain ⟨t, ht⟩ := r.tup.ok (by omega) (by omega)
  refine ⟨t, ?_⟩
  rw [eT_id]
  show (if pur (.tuple ds) && true then reprO (toPy (.tuple ds)) else none) = some t
  rw [show pur (.tuple ds) = true from r.p, if_pos (by rfl)]
  exact ht
end
end K16
end
section
set_option maxHeartbeats 2000000
namespace K16
open PySem L2 Kx Mx TL
section
variable {k : KT0}
theorem crs_pl {d p : Nat} {ds : List Dat} {rs : List Str} (c : Crs k d ds rs p) (hp : p ≤ 1000) : ∀ x ∈ ds, Pl (2 * d) x := by
  induction c with
  | nil => intro x hx; cases hx
  | @nm n p ds rs y hy c ih =>
    intro x hx
    rcases List.mem_cons.mp hx with rfl | hx
    · exact .str _ _
    · exact ih (by omega) x hx
  | @rp n p q t ds es rs qs c1 ht ht2 c ih1 ih2 =>
    intro x hx
    rcases List.mem_cons.mp hx with rfl | hx
    · have h1 := c1.dlen
      refine Pl.tup (k := 2 * n + 1) (by simp) fun y hy => ?_
      simp only [List.mem_cons, List.not_mem_nil, or_false] at hy
      rcases hy with rfl | rfl
      · exact .tup (by omega) (ih1 (by omega))
      · exact .int _ _
    · exact ih2 (by omega) x hx
theorem pl_up : ∀ {a b : Nat} {x : Dat}, a ≤ b → Pl a x → Pl b x := fun {a b x} hab h => by
  induction h generalizing b with
  | none => exact .none _
  | bool => exact .bool _ _
  | int => exact .int _ _
  | str => exact .str _ _
  | @tup m xs hl _ ih =>
    obtain ⟨b, rfl⟩ : ∃ j, b = j + 1 := ⟨b - 1, by omega⟩
    exact .tup hl fun x hx => ih x hx (by omega)
theorem same_course {d p : Nat} {ds : List Dat} {rs : List Str} (c : Crs k d ds rs p) (hd : d ≤ 4) (hp : p ≤ 120) : m__law_same 12 (eT id ds, eT id ds) = some true := by
  rw [eT_id]
  have h1 := c.dlen
  exact same_refl (k := 11) (.tup (k := 10) (by omega) fun x hx => pl_up (by omega) (crs_pl c (by omega) x hx))
theorem same_str (x : Str) : m__law_same 12 (.str x, .str x) = some true := same_refl (k := 11) (.str _ _)
theorem check_peal_yes (a : _) : m_check_peal a = some () := by unfold m_check_peal; rfl
theorem fits_course_S (h : Kit k) {d p : Nat} {ds : List Dat} {rs : List Str} (c : Crs k d ds rs p) (hd : d ≤ 4) (hp : p ≤ 120) : m_fits_course (pl k, .tuple ds) = some true := by
  unfold m_fits_course
  dsimp only
  rw [parts_spec h (by omega) (by omega) c]
  simp only [Option.bind_some, Option.isSome_some, cond_true, decide_eq_true (show (p : Int) ≤ 120 by omega)]
theorem show_spec (h : Kit k) {d p : Nat} {ds : List Dat} {rs : List Str} (c : Crs k d ds rs p) (hd : d ≤ 4) (hp : p ≤ 120) {us : List (List Nat)} (ct : CT k d ds us p) : ∃ s, m_show_course (pl k, ds) = some s ∧ tl s = ctx us := by
  obtain ⟨s, e1, e2⟩ := text_spec (k := k) (n := 16) (d := d) (by omega) (by omega) ct
  refine ⟨s, ?_, e2⟩
  unfold m_show_course
  rw [check_peal_yes, Option.bind_some]
  dsimp only
  rw [eT_id, check_course_S h c hd hp, Option.bind_some, e1, Option.bind_some]
theorem read_back (h : Kit k) {d p : Nat} {ds : List Dat} {rs : List Str} (c : Crs k d ds rs p) (hd : d ≤ 4) (hp : p ≤ 120) {us : List (List Nat)} (ct : CT k d ds us p) {z : Str} (ez : tl z = ctx us) : m_course_read 16 (z, (0 : Int), (1 : Int)) = some (some (ds, (z.length : Int))) ∧ lenS z = some (z.length : Int) := by
  have hl : z.length ≤ 16777216 := by
    rw [len_tl, ez]
    have := ctx_len us
    have := ct.len
    omega
  have hdl := ct.dlen
  have hj : ds.length ≤ z.length := by
    rw [len_tl, ez]
    by_cases q : us = []
    · subst q; simp at hdl; omega
    · unfold ctx
      rw [if_neg q, ← hdl.2]
      exact joinL_many fun u hu => by
        obtain ⟨x, r, rfl, _⟩ := ct.head u hu
        simp
  have r := read_spec (k := k) (z := z) hl (d := d) (n := 16) (a := []) (c := []) (w := 1) (by omega) ct (by omega) (by rw [ez]; simp) (.inl rfl) hj
  refine ⟨?_, len_yes hl⟩
  rw [show (((([] : List Nat).length + (ctx us).length : Nat)) : Int) = (z.length : Int) by rw [len_tl, ez]; simp] at r
  exact r
theorem read_course_S (h : Kit k) {d p : Nat} {ds : List Dat} {rs : List Str} (c : Crs k d ds rs p) (hd : d ≤ 4) (hp : p ≤ 120) {us : List (List Nat)} (ct : CT k d ds us p) {z : Str} (ez : tl z = ctx us) : m_read_course (pl k, z) = some ds ∧ m_read_course_2 (pl k, z) = some (.inl ds) := by
  obtain ⟨e1, e2⟩ := read_back h c hd hp ct ez
  have e3 := fits_course_S h c hd hp
  constructor
  · unfold m_read_course
    rw [check_peal_yes, Option.bind_some, cond_true]
    dsimp only
    simp only [e1, Option.bind_some, Option.isNone_some, cond_false, e2, decide_true, Bool.not_true, eT_id, e3]
  · unfold m_read_course_2
    rw [check_peal_yes, Option.bind_some, cond_true]
    dsimp only
    simp only [e1, Option.bind_some, Option.isNone_some, cond_false, e2, decide_true, Bool.not_true, eT_id, e3]
theorem caught_told (u : Unit) : m__law_caught (.inl u) = some (Str.ofString "told", Str.ofString "") := by unfold m__law_caught; rfl
theorem one_right_spec (h : Kit k) {d p : Nat} {ds : List Dat} {rs : List Str} (c : Crs k d ds rs p) (hd : d ≤ 4) (hp : p ≤ 120) : m__law_one_right (pl k, ds) = some true := by
  obtain ⟨us, ct⟩ := c.ct h
  obtain ⟨z, a1, b1⟩ := law_text_spec (k := k) (n := 8) (d := d) (by omega) (by omega) ct
  obtain ⟨z', a2, b2⟩ := show_spec h c hd hp ct
  have ez : z' = z := ext_tl (by rw [b1, b2])
  subst ez
  obtain ⟨r1, r2⟩ := read_course_S h c hd hp ct b1
  obtain ⟨t, et⟩ := crs_shown h c (by omega) hp
  unfold m__law_one_right
  dsimp only
  rw [a1, Option.bind_some, et, Option.bind_some, a2, Option.bind_some, Option.bind_some, Option.bind_some]
  have e1 : ∀ F : Str → Option Bool, F z' = some true → lcO F [z', z', z'] = some [true, true, true] := fun F hF => by
    unfold lcO
    rw [grd_yes (by simp), Option.bind_some]
    simp only [mapO, hF, Option.bind_some]
  rw [e1 _ (by rw [same_str]; rfl), Option.bind_some, show ([true, true, true] : List Bool).all id = true from rfl, Bool.not_true, cond_false]
  rw [r2, Option.bind_some, show outU (.inl ds : List Dat ⊕ Ex) = .inl () from rfl, caught_told, Option.bind_some, decide_eq_true rfl, Bool.not_true, cond_false]
  rw [r1, Option.bind_some, Option.bind_some, Option.bind_some]
  have e3 : ∀ F : List Dat → Option Bool, F ds = some true → lcO F [ds, ds, ds] = some [true, true, true] := fun F hF => by
    unfold lcO
    rw [grd_yes (by simp), Option.bind_some]
    simp only [mapO, hF, Option.bind_some]
  rw [e3 _ (by rw [same_course c hd hp]; rfl), Option.bind_some, show ([true, true, true] : List Bool).all id = true from rfl, cond_true, Option.bind_some, Option.bind_some, decide_eq_true rfl]
/-! ### the law's courses -/
def Good (k : KT0) (ds : List Dat) : Prop := ∃ d rs p, Crs k d ds rs p ∧ d ≤ 4 ∧ p ≤ 120
theorem pow30 : powO (10 : Int) (30 : Int) = some ((10 ^ 30 : Nat) : Int) := by decide +kernel
theorem deep_spec {b : Str} (hb : b ∈ cs k) : Wp (m__law_deep b) fun t => ∃ rs p, Crs k 4 t rs p ∧ p ≤ 5 := by
  unfold m__law_deep
  rw [pow30, Option.bind_some]
  refine wp_bind (wp_forO (P := fun st : List Dat => ∃ rs p, Crs k 4 st rs p ∧ p ≤ 5) (fun i st => ∃ rs p, Crs k i st rs p ∧ p ≤ 1 + i) ⟨[b], 1, .nm hb .nil, by omega⟩ (fun i x st hx ⟨rs, p, c, hp⟩ => ?_) fun st ⟨rs, p, c, hp⟩ => ⟨rs, p, c, hp⟩) fun t h => wp_some h
  have hm : x ∈ [(2 : Int), 3, 40, ((10 ^ 30 : Nat) : Int)] := List.mem_of_getElem? hx
  have : ∃ t : Nat, x = (t : Int) ∧ 1 ≤ t ∧ t ≤ 10 ^ 30 := by
    simp only [List.mem_cons, List.not_mem_nil, or_false] at hm
    rcases hm with rfl | rfl | rfl | rfl
    · exact ⟨2, rfl, by decide, by decide⟩
    · exact ⟨3, rfl, by decide, by decide⟩
    · exact ⟨40, rfl, by decide, by decide⟩
    · exact ⟨10 ^ 30, rfl, by decide, Nat.le_refl _⟩
  obtain ⟨t, rfl, t1, t2⟩ := this
  rw [part_eq]
  exact wp_some ⟨_, _, c.one t1 t2, by omega⟩
theorem reps {x : Dat} {q : Nat} {qs : List Str} (c : Crs k 1 [x] qs q) : ∀ n : Nat, ∃ rs, Crs k 1 (List.replicate n x) rs (n * q)
  | 0 => ⟨[], by rw [Nat.zero_mul]; exact .nil⟩
  | n + 1 => by
    obtain ⟨rs, c2⟩ := reps c n
    have := c.app c2
    rw [show q + n * q = (n + 1) * q by rw [Nat.add_mul]; omega] at this
    exact ⟨qs ++ rs, this⟩
theorem good_is {d p : Nat} {ds : List Dat} {rs : List Str} (c : Crs k d ds rs p) (hd : d ≤ 4) (hp : p ≤ 120) : Good k ds := ⟨d, rs, p, c, hd, hp⟩
theorem good_app {xs ys : List (List Dat)} (h1 : ∀ x ∈ xs, Good k x) (h2 : ∀ x ∈ ys, Good k x) : ∀ x ∈ xs ++ ys, Good k x := fun x hx => (List.mem_append.mp hx).elim (h1 x) (h2 x)
theorem mulTO_one {x : List Dat × Int} {n : Nat} (h : n ≤ 1000) : mulTO [x] (n : Int) = some (List.replicate n x) := by
  unfold mulTO
  rw [grd_yes ⟨by omega, by omega, by simp⟩, Option.bind_some, Int.toNat_natCast]
  congr 1
  induction n with
  | zero => rfl
  | succ n ih => rw [List.replicate_succ, List.flatten_cons, ih (by omega), List.replicate_succ]; rfl
theorem mulTO_two {a b : Str} {n : Nat} (h : n ≤ 1000) : ∃ ys : List Str, mulTO [a, b] (n : Int) = some ys ∧ ys.length = 2 * n ∧ ∀ x ∈ ys, x = a ∨ x = b := by
  refine ⟨(List.replicate n [a, b]).flatten, ?_, ?_, ?_⟩
  · unfold mulTO
    rw [grd_yes ⟨by omega, by omega, by simp⟩, Option.bind_some, Int.toNat_natCast]
  · rw [rep_len]
    show n * 2 = 2 * n
    omega
  · intro x hx
    obtain ⟨l, hl, hy⟩ := List.mem_flatten.mp hx
    rw [(List.mem_replicate.mp hl).2] at hy
    simpa using hy
end
theorem atI_end {α : Type} {xs : List α} (h : 0 < xs.length) : atI xs (-(1 : Int)) = some (xs[xs.length - 1]'(by omega)) := by
  unfold atI ixN
  rw [if_neg (by omega)]
  first
    | rw [if_pos (by omega)]
    | skip
  show xs[_]? = _
  rw [show (-(1 : Int) + (xs.length : Int)).toNat = xs.length - 1 by omega]
  exact List.getElem?_eq_getElem (by omega)
theorem right_spec (z : Sto) : Wp (m__law_right () z) fun r => r.1 = true := by
  unfold m__law_right
  refine wp_bind (kit_spec z (by decide) (by decide) (by decide) (by decide)) fun t1 ⟨h, _, _⟩ => ?_
  rw [init_spec h, Option.bind_some]
  have hl1 := h.l1
  have hl := h.l2
  generalize t1.1 = k at *
  refine wp_bind (P := fun b => b ∈ k.1) (wp_atI (i := 0) (by omega) (List.getElem_mem _)) fun t3 h3 => ?_
  refine wp_bind (P := fun b => b ∈ k.1) (wp_is (x := k.1[k.1.length - 1]'(by omega)) (atI_end hl1) (List.getElem_mem _)) fun t4 h4 => ?_
  have ha : t3.1 ∈ cs k := List.mem_map.mpr ⟨t3, h3, rfl⟩
  have hb : t4.1 ∈ cs k := List.mem_map.mpr ⟨t4, h4, rfl⟩
  simp only [pow30, Option.bind_some]
  rw [show (120 : Int) = ((120 : Nat) : Int) from rfl, mulTO_one (by omega), Option.bind_some]
  refine wp_bind (deep_spec hb) fun t7 ⟨rs7, p7, c7, hp7⟩ => ?_
  have d7 := c7.dlen
  refine wp_bind (P := fun t : List Dat => Good k t) (wp_catO (by simp; omega) (good_is (c7.app (.nm ha .nil)) (by omega) (by omega))) fun t8 g8 => ?_
  obtain ⟨t9, e9, l9, m9⟩ := mulTO_two (a := t3.1) (b := t4.1) (n := 60) (by omega)
  rw [show (60 : Int) = ((60 : Nat) : Int) from rfl, e9, Option.bind_some]
  have g9 : Good k (t9.map Dat.str) := good_is (d := 0) (Crs.names (rs := t9) fun x hx => by rcases m9 x hx with rfl | rfl <;> assumption) (by omega) (by omega)
  have g6 : Good k ((List.replicate 120 (([] : List Dat), ((10 ^ 30 : Nat) : Int))).map (eP2 (eT id) Dat.int)) := by
    rw [List.map_replicate, part_eq]
    obtain ⟨rs, c⟩ := reps (k := k) (Crs.one (t := 10 ^ 30) (.nil (n := 0)) (by decide) (Nat.le_refl _)) 120
    exact good_is c (by omega) (by omega)
  have gs : ∀ x ∈ ([([] : (List Dat)), ([(Dat.str t3.1)] : (List Dat)), ([((eP2 (eT id) Dat.int) ([], (1 : Int)))] : (List Dat)), ((List.replicate 120 (([] : List Dat), ((10 ^ 30 : Nat) : Int))).map (eP2 (eT id) Dat.int)), t8, (t9.map Dat.str)] : (List (List Dat))), Good k x := fun x hx => by
    simp only [List.mem_cons, List.not_mem_nil, or_false] at hx
    rcases hx with rfl | rfl | rfl | rfl | rfl | rfl
    · exact good_is (d := 0) .nil (by omega) (by omega)
    · exact good_is (d := 0) (.nm ha .nil) (by omega) (by omega)
    · rw [part_eq]
      exact good_is (d := 1) (Crs.rp (t := 1) .nil (by decide) (by decide) .nil) (by omega) (by omega)
    · exact g6
    · exact g8
    · exact g9
  refine wp_bind (wp_rngN (P := fun t => t = irange 0 ((10 : Nat) : Int)) (n := 10) (by omega) rfl) fun t16 e16 => ?_
  subst e16
  refine wp_bind (wp_forO (P := fun st : List (List Dat) × Sto => st.1.length ≤ 1000 ∧ ∀ x ∈ st.1, Good k x) (fun i st => st.1.length ≤ 12 + i ∧ ∀ x ∈ st.1, Good k x) ⟨by simp, gs⟩ (fun i x st hx ⟨ls, gs⟩ => ?_) fun st ⟨l, a⟩ => ⟨by rw [irange_nat_len] at l; omega, a⟩) fun fin ⟨lf, gf⟩ => ?_
  · have hil := (irange_at hx).1
    refine wp_bind (pull_nat _ (by decide) (by decide)) fun t24 ⟨u, eu, hu⟩ => ?_
    rw [eu]
    refine wp_bind (P := fun t : List Int => ∃ w g : Nat, t = [(w : Int), ((g + 1 : Nat) : Int)] ∧ 1 ≤ w ∧ w ≤ 1000 ∧ g ≤ 4 ∧ pB w (g + 1) ≤ 120) (wp_atI (by simp; omega) ?_) fun t25 ⟨w, g, e25, w1, w2, g1, pb⟩ => ?_
    · have all : ∀ x ∈ ([([(4 : Int), (3 : Int)] : (List Int)), ([(2 : Int), (5 : Int)] : (List Int)), ([(9 : Int), (2 : Int)] : (List Int)), ([(30 : Int), (1 : Int)] : (List Int))] : (List (List Int))), ∃ w g : Nat, x = [(w : Int), ((g + 1 : Nat) : Int)] ∧ 1 ≤ w ∧ w ≤ 1000 ∧ g ≤ 4 ∧ pB w (g + 1) ≤ 120 := fun x hx => by
        simp only [List.mem_cons, List.not_mem_nil, or_false] at hx
        rcases hx with rfl | rfl | rfl | rfl
        · exact ⟨4, 2, rfl, by decide, by decide, by decide, by decide⟩
        · exact ⟨2, 4, rfl, by decide, by decide, by decide, by decide⟩
        · exact ⟨9, 1, rfl, by decide, by decide, by decide, by decide⟩
        · exact ⟨30, 0, rfl, by decide, by decide, by decide, by decide⟩
      exact all _ (List.getElem_mem _)
    subst e25
    rw [show atI [(w : Int), ((g + 1 : Nat) : Int)] 1 = some ((g + 1 : Nat) : Int) from rfl, show atI [(w : Int), ((g + 1 : Nat) : Int)] 0 = some (w : Int) from rfl, Option.bind_some, Option.bind_some]
    refine wp_bind (pull_nat _ (by decide) (by decide)) fun t29 ⟨v, ev, hv⟩ => ?_
    rw [ev]
    refine wp_bind (P := fun o : Int => ∃ o' : Nat, o = (o' : Int) ∧ 1 ≤ o' ∧ o' ≤ 10 ^ 30) (wp_atI (by simp; omega) ?_) fun t30 ⟨o', eo, o1, o2⟩ => ?_
    · have all : ∀ x ∈ ([(3 : Int), (99 : Int), ((10 ^ 30 : Nat) : Int)] : (List Int)), ∃ o' : Nat, x = (o' : Int) ∧ 1 ≤ o' ∧ o' ≤ 10 ^ 30 := fun x hx => by
        simp only [List.mem_cons, List.not_mem_nil, or_false] at hx
        rcases hx with rfl | rfl | rfl
        · exact ⟨3, rfl, by decide, by decide⟩
        · exact ⟨99, rfl, by decide, by decide⟩
        · exact ⟨10 ^ 30, rfl, by decide, Nat.le_refl _⟩
      exact all _ (List.getElem_mem _)
    rw [eo]
    refine wp_bind (tune_spec h w1 w2 o1 o2 (d := g) (n := 6) t29.2 (by omega)) fun t31 ⟨rs, p, c, hp, _⟩ => ?_
    refine wp_bind (P := fun t : List (List Dat) => t.length ≤ 12 + (i + 1) ∧ ∀ x ∈ t, Good k x) (wp_appO (by omega) ⟨by simp; omega, good_app gs fun x hx => by rw [List.mem_singleton] at hx; subst hx; exact ⟨g, rs, p, c, g1, by omega⟩⟩) fun t32 h32 => wp_some h32
  · refine wp_bind (P := fun t : List Bool => t.all id = true) (wp_lcO (fun _ y => y = true) (by omega) (fun x hx => ?_) ?_) fun t40 h40 => wp_some h40
    · obtain ⟨d, rs, p, c, hd, hp⟩ := gf x hx
      rw [one_right_spec h c hd hp]
      exact wp_some rfl
    · intro ys hl2 hy
      rw [List.all_eq_true]
      intro y hm
      obtain ⟨i, hi⟩ := List.mem_iff_getElem?.mp hm
      have hil := (List.getElem?_eq_some_iff.mp hi).1
      have := hy i _ y (List.getElem?_eq_getElem (by omega)) hi
      rw [this]; rfl
end K16
end
section
set_option maxHeartbeats 2000000
namespace K16
open PySem L2 Kx Mx
theorem first_peal : m_Peal___init__ (([((Str.ofString "a"), (2 : Int)), ((Str.ofString "b"), (2 : Int))] : (List (Str × Int))), ([] : (List (Str × Str × Int)))) = some (pl (([((Str.ofString "a"), (2 : Int)), ((Str.ofString "b"), (2 : Int))] : (List (Str × Int))), ([] : (List (Str × Str × Int))))) := by kernel_rfl
theorem first_shown : m_show_course (pl (([((Str.ofString "a"), (2 : Int)), ((Str.ofString "b"), (2 : Int))] : (List (Str × Int))), ([] : (List (Str × Str × Int)))), ([(Dat.str (Str.ofString "a")), ((eP2 (eP3 Dat.str (eP2 (eT id) Dat.int) Dat.str) Dat.int) (((Str.ofString "b"), ([], (3 : Int)), (Str.ofString "a")), (12 : Int)))] : (List Dat))) = some (Str.ofString "a (b (-)x3 a)x12") := by kernel_rfl
theorem law_true (ns : List Int) (h : ns.length ≤ 63) : m_law ns = some true := by
  have W : Wp (m_law ns) fun b => b = true := by
    unfold m_law
    rw [first_peal, Option.bind_some, first_shown, Option.bind_some, decide_eq_true rfl, Bool.not_true, cond_false]
    generalize hn : (if (if (6 : Int) < (ns.length : Int) then (6 : Int) else (ns.length : Int)) > (2 : Int) then (if (6 : Int) < (ns.length : Int) then (6 : Int) else (ns.length : Int)) else (2 : Int)) = n
    have b : 0 ≤ n ∧ n ≤ 63 := by
      rw [← hn]
      split <;> split <;> omega
    obtain ⟨k, rfl⟩ : ∃ k : Nat, n = (k : Int) := ⟨n.toNat, by omega⟩
    refine wp_bind (wp_rngN (P := fun t => t = irange 0 (k : Int)) (by omega) rfl) fun t1 e1 => ?_
    subst e1
    refine wp_bind (P := fun t : List Bool => t.all id = true) (wp_lcO (fun _ y => y = true) (by rw [irange_nat_len]; omega) (fun x hx => ?_) ?_) fun t10 h => wp_some h
    · obtain ⟨j, hj, rfl⟩ := irange_mem hx
      exact wp_bind (opened_spec ns j) fun t8 _ => wp_bind (right_spec t8) fun t9 h => wp_some h
    · intro ys hl h
      rw [List.all_eq_true]
      intro y hy
      obtain ⟨i, hi⟩ := List.mem_iff_getElem?.mp hy
      have hil := (List.getElem?_eq_some_iff.mp hi).1
      have := h i _ y (List.getElem?_eq_getElem (by omega)) hi
      rw [this]; rfl
  obtain ⟨r, hr, e⟩ := W
  rw [hr, e]
end K16
end
section
set_option maxHeartbeats 4000000
namespace K16
open PySem L2 Kx
theorem kwv_show_course_course_peal {zs : List V} {ws : List Value} (h : Vals zs ws) : Vals (kw_show_course_course_peal zs) (kw_show_course_course_peal ws) := by
  cases h with
  | nil => exact .nil
  | cons a0 h =>
    cases h with
    | nil => exact .nil
    | cons a1 h =>
      cases h with
      | nil => exact (.cons a1 (.cons a0 .nil))
      | cons _ _ => exact .nil
theorem kwv_read_course_text_peal {zs : List V} {ws : List Value} (h : Vals zs ws) : Vals (kw_read_course_text_peal zs) (kw_read_course_text_peal ws) := by
  cases h with
  | nil => exact .nil
  | cons a0 h =>
    cases h with
    | nil => exact .nil
    | cons a1 h =>
      cases h with
      | nil => exact (.cons a1 (.cons a0 .nil))
      | cons _ _ => exact .nil
theorem law_end [Tb] {K : PySem.W.Frag} {H : Hp} {a : Addr} {ns : List Int} (hl : ns.length ≤ 63) (hT : ∀ p ∈ Tb.t, H p.1 = some (.tbl #[])) (hS : SqL K H a (ns.map V.int)) : sp_law K [.ref a] H (fun v _ => v = .bl true) fun _ _ _ => False :=
  let ⟨G, ok, hG⟩ := start_ok hT hS
  ⟨G, fun _ => none, ns, true, ok, ⟨.ref a, [], rfl, ⟨a, rfl, hG⟩, rfl⟩, law_true ns hl, fun v G' H' _ _ hv => by (cases hv; rfl)⟩
theorem all_mk {l : PySem.W.OpenLaw} {w : World} {K : PySem.W.Frag} {h : Heap} {mg : Str → Option Value} {fa : Addr} (X : K.In h) (G : h.Ns mainGlobals mg) (hfa : mg "law" = some (.ref fa))
    {c_Peal : Addr}
    {c_NoPeal : Addr}
    {c_NoBells : Addr}
    {c_NoNotches : Addr}
    {c_NoText : Addr}
    {c_NoStanding : Addr}
    {c_NoRow : Addr}
    {c_NoDials : Addr}
    {c_NoRings : Addr}
    {c_NoCourse : Addr}
    {c_NoNumber : Addr}
    {c_NoModuli : Addr}
    {c_NoVectors : Addr}
    {c_NoVector : Addr}
    {c_NoWeights : Addr}
    {c_NoTruth : Addr}
    {c_NoHistories : Addr}
    {c_NoDeed : Addr}
    {c_NoLog : Addr}
    {c_NoSay : Addr}
    {c_NoName : Addr}
    {c_NoPlace : Addr}
    {c_NoBack : Addr}
    {c_TooMany : Addr}
    {c_BellError : Addr}
    {c_LostError : Addr}
    {c_GreatError : Addr}
    {nmx0 qx0 : Str} {Nx0 : Addr} {bsx0 : List Value} {snx0 : List Str} {subx0 : List Value} {abx0 : Bool} {colx0 : Option Bool} {ddx0 : Option Addr} {mx00 mx10 mx20 mx30 mx50 : Option Value}
    {f0 : Addr} {od0 an0 : Option Addr} {sl0 : Array (Option Value)} {oc0 kV0 dc0 pm0 cd0 ct0 : Value}
    {f1 : Addr} {od1 an1 : Option Addr} {sl1 : Array (Option Value)} {oc1 kV1 dc1 pm1 cd1 ct1 : Value}
    {f2 : Addr} {od2 an2 : Option Addr} {sl2 : Array (Option Value)} {oc2 kV2 dc2 pm2 cd2 ct2 : Value}
    {f3 : Addr} {od3 an3 : Option Addr} {sl3 : Array (Option Value)} {oc3 kV3 dc3 pm3 cd3 ct3 : Value}
    {f4 : Addr} {od4 an4 : Option Addr} {sl4 : Array (Option Value)} {oc4 kV4 dc4 pm4 cd4 ct4 : Value}
    {f5 : Addr} {od5 an5 : Option Addr} {sl5 : Array (Option Value)} {oc5 kV5 dc5 pm5 cd5 ct5 : Value}
    {f6 : Addr} {od6 an6 : Option Addr} {sl6 : Array (Option Value)} {oc6 kV6 dc6 pm6 cd6 ct6 : Value}
    {f7 : Addr} {od7 an7 : Option Addr} {sl7 : Array (Option Value)} {oc7 kV7 dc7 pm7 cd7 ct7 : Value}
    {tt8 te8 : Addr} {dt8 : Option Addr} {st8 : Array (Option Value)} {cc8 : Value} {nt8 : Nat}
    {f8 : Addr} {od8 an8 : Option Addr} {sl8 : Array (Option Value)} {oc8 kV8 dc8 pm8 cd8 ct8 : Value}
    {nn8 : Nat} {sn8 : Array (Option Value)}
    {f9 : Addr} {od9 an9 : Option Addr} {sl9 : Array (Option Value)} {oc9 kV9 dc9 pm9 cd9 ct9 : Value}
    {f10 : Addr} {od10 an10 : Option Addr} {sl10 : Array (Option Value)} {oc10 kV10 dc10 pm10 cd10 ct10 : Value}
    {f11 : Addr} {od11 an11 : Option Addr} {sl11 : Array (Option Value)} {oc11 kV11 dc11 pm11 cd11 ct11 : Value}
    {f12 : Addr} {od12 an12 : Option Addr} {sl12 : Array (Option Value)} {oc12 kV12 dc12 pm12 cd12 ct12 : Value}
    {f13 : Addr} {od13 an13 : Option Addr} {sl13 : Array (Option Value)} {oc13 kV13 dc13 pm13 cd13 ct13 : Value}
    {f14 : Addr} {od14 an14 : Option Addr} {sl14 : Array (Option Value)} {oc14 kV14 dc14 pm14 cd14 ct14 : Value}
    {f15 : Addr} {od15 an15 : Option Addr} {sl15 : Array (Option Value)} {oc15 kV15 dc15 pm15 cd15 ct15 : Value}
    {f16 : Addr} {od16 an16 : Option Addr} {sl16 : Array (Option Value)} {oc16 kV16 dc16 pm16 cd16 ct16 : Value}
    {f17 : Addr} {od17 an17 : Option Addr} {sl17 : Array (Option Value)} {oc17 kV17 dc17 pm17 cd17 ct17 : Value}
    {f18 : Addr} {od18 an18 : Option Addr} {sl18 : Array (Option Value)} {oc18 kV18 dc18 pm18 cd18 ct18 : Value}
    {f19 : Addr} {od19 an19 : Option Addr} {sl19 : Array (Option Value)} {oc19 kV19 dc19 pm19 cd19 ct19 : Value}
    {f20 : Addr} {od20 an20 : Option Addr} {sl20 : Array (Option Value)} {oc20 kV20 dc20 pm20 cd20 ct20 : Value}
    {f21 : Addr} {od21 an21 : Option Addr} {sl21 : Array (Option Value)} {oc21 kV21 dc21 pm21 cd21 ct21 : Value}
    {f22 : Addr} {od22 an22 : Option Addr} {sl22 : Array (Option Value)} {oc22 kV22 dc22 pm22 cd22 ct22 : Value}
    {f23 : Addr} {od23 an23 : Option Addr} {sl23 : Array (Option Value)} {oc23 kV23 dc23 pm23 cd23 ct23 : Value}
    {f24 : Addr} {od24 an24 : Option Addr} {sl24 : Array (Option Value)} {oc24 kV24 dc24 pm24 cd24 ct24 : Value}
    {f25 : Addr} {od25 an25 : Option Addr} {sl25 : Array (Option Value)} {oc25 kV25 dc25 pm25 cd25 ct25 : Value}
    {f26 : Addr} {od26 an26 : Option Addr} {sl26 : Array (Option Value)} {oc26 kV26 dc26 pm26 cd26 ct26 : Value}
    {f27 : Addr} {od27 an27 : Option Addr} {sl27 : Array (Option Value)} {oc27 kV27 dc27 pm27 cd27 ct27 : Value}
    {f28 : Addr} {od28 an28 : Option Addr} {sl28 : Array (Option Value)} {oc28 kV28 dc28 pm28 cd28 ct28 : Value}
    {f29 : Addr} {od29 an29 : Option Addr} {sl29 : Array (Option Value)} {oc29 kV29 dc29 pm29 cd29 ct29 : Value}
    {f30 : Addr} {od30 an30 : Option Addr} {sl30 : Array (Option Value)} {oc30 kV30 dc30 pm30 cd30 ct30 : Value}
    {f31 : Addr} {od31 an31 : Option Addr} {sl31 : Array (Option Value)} {oc31 kV31 dc31 pm31 ct31 : Value} {cC31 pP31 : Addr} {dC31 : Option Addr} {vC31 : Array Value} {sC31 : Array (Option Value)}
    {f32 : Addr} {od32 an32 : Option Addr} {sl32 : Array (Option Value)} {oc32 kV32 dc32 pm32 cd32 ct32 : Value}
    {f33 : Addr} {od33 an33 : Option Addr} {sl33 : Array (Option Value)} {oc33 kV33 dc33 pm33 cd33 ct33 : Value}
    {f34 : Addr} {od34 an34 : Option Addr} {sl34 : Array (Option Value)} {oc34 kV34 dc34 pm34 cd34 ct34 : Value}
    {tk0 : Tok}
    {tk1 : Tok}
    {tk2 : Tok}
    {tk3 : Tok}
    {tk4 : Tok}
    {tk5 : Tok}
    {tk6 : Tok}
    {tk7 : Tok}
    {tk8 : Tok}
    {tk9 : Tok}
    {tk10 : Tok}
    {tk11 : Tok}
    (gc_Peal : PySem.W.nsIn K mainGlobals "Peal" = some (some (.ref c_Peal)))
    (p1_Peal : PySem.W.plainGet K c_Peal Str.empty = true) (p2_Peal : PySem.W.hasDictIn K c_Peal = true) (p3_Peal : PySem.W.plainOver K c_Peal = true) (p4_Peal : PySem.W.findIn K (.ref c_Peal) "__setattr__" = some (some (.builtin "object.__setattr__"))) (p5_Peal : PySem.W.makesIn K c_Peal = true) (p6_Peal : PySem.W.keepIn K (.ref c_Peal) = true)
    (p7_Peal : PySem.W.findIn K (.ref c_Peal) "__class__" = some (some (.builtin "object.__class__"))) (p8_Peal : PySem.W.specialIn K (.builtin "object.__class__") "__get__" = some (some (.builtin "getset_descriptor.__get__"))) (p9_Peal : PySem.W.takesIn K (.builtin "object.__class__") = some true) (pa_Peal : PySem.W.mroIn K c_Peal (.type "object") = some true)
    (n_Peal_bells : PySem.W.findIn K (.ref c_Peal) "bells" = some none)
    (n_Peal_notches : PySem.W.findIn K (.ref c_Peal) "notches" = some none)
    (n_Peal_sizes : PySem.W.findIn K (.ref c_Peal) "sizes" = some none)
    (n_Peal_turning : PySem.W.findIn K (.ref c_Peal) "turning" = some none)
    (gc_NoPeal : PySem.W.nsIn K mainGlobals "NoPeal" = some (some (.ref c_NoPeal)))
    (gc_NoBells : PySem.W.nsIn K mainGlobals "NoBells" = some (some (.ref c_NoBells)))
    (gc_NoNotches : PySem.W.nsIn K mainGlobals "NoNotches" = some (some (.ref c_NoNotches)))
    (gc_NoText : PySem.W.nsIn K mainGlobals "NoText" = some (some (.ref c_NoText)))
    (gc_NoStanding : PySem.W.nsIn K mainGlobals "NoStanding" = some (some (.ref c_NoStanding)))
    (gc_NoRow : PySem.W.nsIn K mainGlobals "NoRow" = some (some (.ref c_NoRow)))
    (gc_NoDials : PySem.W.nsIn K mainGlobals "NoDials" = some (some (.ref c_NoDials)))
    (gc_NoRings : PySem.W.nsIn K mainGlobals "NoRings" = some (some (.ref c_NoRings)))
    (gc_NoCourse : PySem.W.nsIn K mainGlobals "NoCourse" = some (some (.ref c_NoCourse)))
    (gc_NoNumber : PySem.W.nsIn K mainGlobals "NoNumber" = some (some (.ref c_NoNumber)))
    (gc_NoModuli : PySem.W.nsIn K mainGlobals "NoModuli" = some (some (.ref c_NoModuli)))
    (gc_NoVectors : PySem.W.nsIn K mainGlobals "NoVectors" = some (some (.ref c_NoVectors)))
    (gc_NoVector : PySem.W.nsIn K mainGlobals "NoVector" = some (some (.ref c_NoVector)))
    (gc_NoWeights : PySem.W.nsIn K mainGlobals "NoWeights" = some (some (.ref c_NoWeights)))
    (gc_NoTruth : PySem.W.nsIn K mainGlobals "NoTruth" = some (some (.ref c_NoTruth)))
    (gc_NoHistories : PySem.W.nsIn K mainGlobals "NoHistories" = some (some (.ref c_NoHistories)))
    (gc_NoDeed : PySem.W.nsIn K mainGlobals "NoDeed" = some (some (.ref c_NoDeed)))
    (gc_NoLog : PySem.W.nsIn K mainGlobals "NoLog" = some (some (.ref c_NoLog)))
    (gc_NoSay : PySem.W.nsIn K mainGlobals "NoSay" = some (some (.ref c_NoSay)))
    (gc_NoName : PySem.W.nsIn K mainGlobals "NoName" = some (some (.ref c_NoName)))
    (gc_NoPlace : PySem.W.nsIn K mainGlobals "NoPlace" = some (some (.ref c_NoPlace)))
    (gc_NoBack : PySem.W.nsIn K mainGlobals "NoBack" = some (some (.ref c_NoBack)))
    (gc_TooMany : PySem.W.nsIn K mainGlobals "TooMany" = some (some (.ref c_TooMany)))
    (gc_BellError : PySem.W.nsIn K mainGlobals "BellError" = some (some (.ref c_BellError)))
    (gc_LostError : PySem.W.nsIn K mainGlobals "LostError" = some (some (.ref c_LostError)))
    (gc_GreatError : PySem.W.nsIn K mainGlobals "GreatError" = some (some (.ref c_GreatError)))
    (sB_BellError : PySem.W.subIn K (.ref c_BellError) (.type "BaseException") = some true)
    (hD_BellError : PySem.W.hasDictIn K c_BellError = true)
    (tY_BellError : PySem.W.typeIn K (.ref c_BellError) = some (.type "type"))
    (sU_NoText_BellError : PySem.W.subIn K (.ref c_NoText) (.ref c_BellError) = some true)
    (sB_LostError : PySem.W.subIn K (.ref c_LostError) (.type "BaseException") = some true)
    (hD_LostError : PySem.W.hasDictIn K c_LostError = true)
    (tY_LostError : PySem.W.typeIn K (.ref c_LostError) = some (.type "type"))
    (sU_NoText_LostError : PySem.W.subIn K (.ref c_NoText) (.ref c_LostError) = some false)
    (sB_GreatError : PySem.W.subIn K (.ref c_GreatError) (.type "BaseException") = some true)
    (hD_GreatError : PySem.W.hasDictIn K c_GreatError = true)
    (tY_GreatError : PySem.W.typeIn K (.ref c_GreatError) = some (.type "type"))
    (sU_NoText_GreatError : PySem.W.subIn K (.ref c_NoText) (.ref c_GreatError) = some false)
    (gA_NoText : PySem.W.findIn K (.ref c_NoText) "__getattribute__" = some (some (.builtin "BaseException.__getattribute__")))
    (gG_NoText : PySem.W.findIn K (.ref c_NoText) "__getattr__" = some none)
    (sB_NoText : PySem.W.subIn K (.ref c_NoText) (.type "BaseException") = some true)
    (hD_NoText : PySem.W.hasDictIn K c_NoText = true)
    (cC_NoText : PySem.W.findIn K (.ref c_NoText) "__class__" = some (some (.builtin "object.__class__")))
    (cN : PySem.W.specialIn K (.builtin "object.__class__") "__get__" = some (some (.builtin "getset_descriptor.__get__")))
    (cT : PySem.W.takesIn K (.builtin "object.__class__") = some true)
    (cM_NoText : PySem.W.mroIn K c_NoText (.type "object") = some true)
    (iC_NoPeal : PySem.W.isClsIn K c_NoPeal = true)
    (tY_NoPeal : PySem.W.typeIn K (.ref c_NoPeal) = some (.type "type"))
    (sU_NoText_NoText : PySem.W.subIn K (.ref c_NoText) (.ref c_NoText) = some true)
    (sU_NoText_NoPeal : PySem.W.subIn K (.ref c_NoText) (.ref c_NoPeal) = some false)
    (iC_NoBells : PySem.W.isClsIn K c_NoBells = true)
    (tY_NoBells : PySem.W.typeIn K (.ref c_NoBells) = some (.type "type"))
    (sU_NoText_NoBells : PySem.W.subIn K (.ref c_NoText) (.ref c_NoBells) = some false)
    (iC_NoNotches : PySem.W.isClsIn K c_NoNotches = true)
    (tY_NoNotches : PySem.W.typeIn K (.ref c_NoNotches) = some (.type "type"))
    (sU_NoText_NoNotches : PySem.W.subIn K (.ref c_NoText) (.ref c_NoNotches) = some false)
    (iC_NoStanding : PySem.W.isClsIn K c_NoStanding = true)
    (tY_NoStanding : PySem.W.typeIn K (.ref c_NoStanding) = some (.type "type"))
    (sU_NoText_NoStanding : PySem.W.subIn K (.ref c_NoText) (.ref c_NoStanding) = some false)
    (iC_NoRow : PySem.W.isClsIn K c_NoRow = true)
    (tY_NoRow : PySem.W.typeIn K (.ref c_NoRow) = some (.type "type"))
    (sU_NoText_NoRow : PySem.W.subIn K (.ref c_NoText) (.ref c_NoRow) = some false)
    (iC_NoDials : PySem.W.isClsIn K c_NoDials = true)
    (tY_NoDials : PySem.W.typeIn K (.ref c_NoDials) = some (.type "type"))
    (sU_NoText_NoDials : PySem.W.subIn K (.ref c_NoText) (.ref c_NoDials) = some false)
    (iC_NoRings : PySem.W.isClsIn K c_NoRings = true)
    (tY_NoRings : PySem.W.typeIn K (.ref c_NoRings) = some (.type "type"))
    (sU_NoText_NoRings : PySem.W.subIn K (.ref c_NoText) (.ref c_NoRings) = some false)
    (iC_NoCourse : PySem.W.isClsIn K c_NoCourse = true)
    (tY_NoCourse : PySem.W.typeIn K (.ref c_NoCourse) = some (.type "type"))
    (sU_NoText_NoCourse : PySem.W.subIn K (.ref c_NoText) (.ref c_NoCourse) = some false)
    (iC_NoNumber : PySem.W.isClsIn K c_NoNumber = true)
    (tY_NoNumber : PySem.W.typeIn K (.ref c_NoNumber) = some (.type "type"))
    (sU_NoText_NoNumber : PySem.W.subIn K (.ref c_NoText) (.ref c_NoNumber) = some false)
    (iC_NoModuli : PySem.W.isClsIn K c_NoModuli = true)
    (tY_NoModuli : PySem.W.typeIn K (.ref c_NoModuli) = some (.type "type"))
    (sU_NoText_NoModuli : PySem.W.subIn K (.ref c_NoText) (.ref c_NoModuli) = some false)
    (iC_NoVectors : PySem.W.isClsIn K c_NoVectors = true)
    (tY_NoVectors : PySem.W.typeIn K (.ref c_NoVectors) = some (.type "type"))
    (sU_NoText_NoVectors : PySem.W.subIn K (.ref c_NoText) (.ref c_NoVectors) = some false)
    (iC_NoVector : PySem.W.isClsIn K c_NoVector = true)
    (tY_NoVector : PySem.W.typeIn K (.ref c_NoVector) = some (.type "type"))
    (sU_NoText_NoVector : PySem.W.subIn K (.ref c_NoText) (.ref c_NoVector) = some false)
    (iC_NoWeights : PySem.W.isClsIn K c_NoWeights = true)
    (tY_NoWeights : PySem.W.typeIn K (.ref c_NoWeights) = some (.type "type"))
    (sU_NoText_NoWeights : PySem.W.subIn K (.ref c_NoText) (.ref c_NoWeights) = some false)
    (iC_NoTruth : PySem.W.isClsIn K c_NoTruth = true)
    (tY_NoTruth : PySem.W.typeIn K (.ref c_NoTruth) = some (.type "type"))
    (sU_NoText_NoTruth : PySem.W.subIn K (.ref c_NoText) (.ref c_NoTruth) = some false)
    (iC_NoHistories : PySem.W.isClsIn K c_NoHistories = true)
    (tY_NoHistories : PySem.W.typeIn K (.ref c_NoHistories) = some (.type "type"))
    (sU_NoText_NoHistories : PySem.W.subIn K (.ref c_NoText) (.ref c_NoHistories) = some false)
    (iC_NoDeed : PySem.W.isClsIn K c_NoDeed = true)
    (tY_NoDeed : PySem.W.typeIn K (.ref c_NoDeed) = some (.type "type"))
    (sU_NoText_NoDeed : PySem.W.subIn K (.ref c_NoText) (.ref c_NoDeed) = some false)
    (iC_NoLog : PySem.W.isClsIn K c_NoLog = true)
    (tY_NoLog : PySem.W.typeIn K (.ref c_NoLog) = some (.type "type"))
    (sU_NoText_NoLog : PySem.W.subIn K (.ref c_NoText) (.ref c_NoLog) = some false)
    (iC_NoSay : PySem.W.isClsIn K c_NoSay = true)
    (tY_NoSay : PySem.W.typeIn K (.ref c_NoSay) = some (.type "type"))
    (sU_NoText_NoSay : PySem.W.subIn K (.ref c_NoText) (.ref c_NoSay) = some false)
    (iC_NoName : PySem.W.isClsIn K c_NoName = true)
    (tY_NoName : PySem.W.typeIn K (.ref c_NoName) = some (.type "type"))
    (sU_NoText_NoName : PySem.W.subIn K (.ref c_NoText) (.ref c_NoName) = some false)
    (iC_NoPlace : PySem.W.isClsIn K c_NoPlace = true)
    (tY_NoPlace : PySem.W.typeIn K (.ref c_NoPlace) = some (.type "type"))
    (sU_NoText_NoPlace : PySem.W.subIn K (.ref c_NoText) (.ref c_NoPlace) = some false)
    (iC_NoBack : PySem.W.isClsIn K c_NoBack = true)
    (tY_NoBack : PySem.W.typeIn K (.ref c_NoBack) = some (.type "type"))
    (sU_NoText_NoBack : PySem.W.subIn K (.ref c_NoText) (.ref c_NoBack) = some false)
    (iC_TooMany : PySem.W.isClsIn K c_TooMany = true)
    (tY_TooMany : PySem.W.typeIn K (.ref c_TooMany) = some (.type "type"))
    (sU_NoText_TooMany : PySem.W.subIn K (.ref c_NoText) (.ref c_TooMany) = some false)
    (iC_BellError : PySem.W.isClsIn K c_BellError = true)
    (iC_LostError : PySem.W.isClsIn K c_LostError = true)
    (iC_GreatError : PySem.W.isClsIn K c_GreatError = true)
    (sU_NoText_ValueError : PySem.W.subIn K (.ref c_NoText) (.type "ValueError") = some true)
    (sU_NoText_LookupError : PySem.W.subIn K (.ref c_NoText) (.type "LookupError") = some false)
    (sU_NoText_ArithmeticError : PySem.W.subIn K (.ref c_NoText) (.type "ArithmeticError") = some false)
    (nF_NoText : PySem.W.findIn K (.ref c_NoText) "row" = some none)
    (xL_NoText : K.lookup c_NoText = some (excClassObj nmx0 qx0 c_NoText Nx0 bsx0 [.ref c_BellError, .type "ValueError", .type "Exception", .type "BaseException", .type "object"] true snx0 subx0 abx0 colx0 ddx0 mx00 mx10 mx20 mx30 mx50 "ValueError.__new__"))
    (sA_NoText : PySem.W.findIn K (.ref c_NoText) "__setattr__" = some (some (.builtin "object.__setattr__")))
    (tY_NoText : PySem.W.typeIn K (.ref c_NoText) = some (.type "type"))
    (kP_NoText : PySem.W.keepIn K (.ref c_NoText) = true)
    (bS_BellError : PySem.W.specialIn K (.ref c_BellError) "__getattribute__" = some (some (.builtin "type.__getattribute__")))
    (bR_BellError : PySem.W.readsIn K c_BellError (.type "type") = true)
    (bF_BellError : PySem.W.findCls K (.ref c_BellError) (.type "type") "__init__" = some (.val (.builtin "ValueError.__init__")))
    (a0 : PySem.W.findIn K (.ref c_NoText) "__init__" = some (some (.ref f0))) (t0 : PySem.W.typeIn K (.ref f0) = some (.type "function")) (l0 : K.lookup f0 = some ⟨oc0, od0, .func (PySem.W.fnOf "__init__" "NoText.__init__" (defArgs s_NoText___init__) (defBody s_NoText___init__) (defScope s_NoText___init__) .none kV0 dc0 pm0 an0 cd0 ct0), sl0⟩) (c0 : PySem.W.codeIn K cd0 "NoText.__init__" = true) (k0 : PySem.W.keepIn K (.ref f0) = true)
    (a1 : PySem.W.nsIn K mainGlobals "is_whole" = some (some (.ref f1))) (l1 : K.lookup f1 = some ⟨oc1, od1, .func (PySem.W.fnOf "is_whole" "is_whole" (defArgs s_is_whole) (defBody s_is_whole) (defScope s_is_whole) .none kV1 dc1 pm1 an1 cd1 ct1), sl1⟩) (c1 : PySem.W.codeIn K cd1 "is_whole" = true) (k1 : PySem.W.keepIn K (.ref f1) = true)
    (a2 : PySem.W.nsIn K mainGlobals "is_within" = some (some (.ref f2))) (l2 : K.lookup f2 = some ⟨oc2, od2, .func (PySem.W.fnOf "is_within" "is_within" (defArgs s_is_within) (defBody s_is_within) (defScope s_is_within) .none kV2 dc2 pm2 an2 cd2 ct2), sl2⟩) (c2 : PySem.W.codeIn K cd2 "is_within" = true) (k2 : PySem.W.keepIn K (.ref f2) = true)
    (a3 : PySem.W.nsIn K mainGlobals "is_name" = some (some (.ref f3))) (l3 : K.lookup f3 = some ⟨oc3, od3, .func (PySem.W.fnOf "is_name" "is_name" (defArgs s_is_name) (defBody s_is_name) (defScope s_is_name) .none kV3 dc3 pm3 an3 cd3 ct3), sl3⟩) (c3 : PySem.W.codeIn K cd3 "is_name" = true) (k3 : PySem.W.keepIn K (.ref f3) = true)
    (a4 : PySem.W.nsIn K mainGlobals "is_bell" = some (some (.ref f4))) (l4 : K.lookup f4 = some ⟨oc4, od4, .func (PySem.W.fnOf "is_bell" "is_bell" (defArgs s_is_bell) (defBody s_is_bell) (defScope s_is_bell) .none kV4 dc4 pm4 an4 cd4 ct4), sl4⟩) (c4 : PySem.W.codeIn K cd4 "is_bell" = true) (k4 : PySem.W.keepIn K (.ref f4) = true)
    (a5 : PySem.W.nsIn K mainGlobals "check_bells" = some (some (.ref f5))) (l5 : K.lookup f5 = some ⟨oc5, od5, .func (PySem.W.fnOf "check_bells" "check_bells" (defArgs s_check_bells) (defBody s_check_bells) (defScope s_check_bells) .none kV5 dc5 pm5 an5 cd5 ct5), sl5⟩) (c5 : PySem.W.codeIn K cd5 "check_bells" = true) (k5 : PySem.W.keepIn K (.ref f5) = true)
    (a6 : PySem.W.nsIn K mainGlobals "is_notch" = some (some (.ref f6))) (l6 : K.lookup f6 = some ⟨oc6, od6, .func (PySem.W.fnOf "is_notch" "is_notch" (defArgs s_is_notch) (defBody s_is_notch) (defScope s_is_notch) .none kV6 dc6 pm6 an6 cd6 ct6), sl6⟩) (c6 : PySem.W.codeIn K cd6 "is_notch" = true) (k6 : PySem.W.keepIn K (.ref f6) = true)
    (a7 : PySem.W.nsIn K mainGlobals "check_notches" = some (some (.ref f7))) (l7 : K.lookup f7 = some ⟨oc7, od7, .func (PySem.W.fnOf "check_notches" "check_notches" (defArgs s_check_notches) (defBody s_check_notches) (defScope s_check_notches) .none kV7 dc7 pm7 an7 cd7 ct7), sl7⟩) (c7 : PySem.W.codeIn K cd7 "check_notches" = true) (k7 : PySem.W.keepIn K (.ref f7) = true)
    (a8 : PySem.W.findIn K (.ref c_Peal) "__init__" = some (some (.ref f8))) (i8 : PySem.W.isFn K (.ref f8) = true) (l8 : K.lookup f8 = some ⟨oc8, od8, .func (PySem.W.fnOf "__init__" "Peal.__init__" (defArgs s_Peal___init__) (defBody s_Peal___init__) (defScope s_Peal___init__) (.ref tt8) kV8 dc8 pm8 an8 cd8 ct8), sl8⟩) (c8 : PySem.W.codeIn K cd8 "Peal.__init__" = true) (k8 : PySem.W.keepIn K (.ref f8) = true)
    (t8 : K.lookup tt8 = some ⟨cc8, dt8, .seq #[.ref te8] nt8, st8⟩)
    (tn8 : K.lookup te8 = some ⟨.type "tuple", none, .seq #[] nn8, sn8⟩)
    (a9 : PySem.W.nsIn K mainGlobals "check_peal" = some (some (.ref f9))) (l9 : K.lookup f9 = some ⟨oc9, od9, .func (PySem.W.fnOf "check_peal" "check_peal" (defArgs s_check_peal) (defBody s_check_peal) (defScope s_check_peal) .none kV9 dc9 pm9 an9 cd9 ct9), sl9⟩) (c9 : PySem.W.codeIn K cd9 "check_peal" = true) (k9 : PySem.W.keepIn K (.ref f9) = true)
    (a10 : PySem.W.nsIn K mainGlobals "parts_in" = some (some (.ref f10))) (l10 : K.lookup f10 = some ⟨oc10, od10, .func (PySem.W.fnOf "parts_in" "parts_in" (defArgs s_parts_in) (defBody s_parts_in) (defScope s_parts_in) .none kV10 dc10 pm10 an10 cd10 ct10), sl10⟩) (c10 : PySem.W.codeIn K cd10 "parts_in" = true) (k10 : PySem.W.keepIn K (.ref f10) = true)
    (a11 : PySem.W.nsIn K mainGlobals "fits_course" = some (some (.ref f11))) (l11 : K.lookup f11 = some ⟨oc11, od11, .func (PySem.W.fnOf "fits_course" "fits_course" (defArgs s_fits_course) (defBody s_fits_course) (defScope s_fits_course) .none kV11 dc11 pm11 an11 cd11 ct11), sl11⟩) (c11 : PySem.W.codeIn K cd11 "fits_course" = true) (k11 : PySem.W.keepIn K (.ref f11) = true)
    (a12 : PySem.W.nsIn K mainGlobals "check_course" = some (some (.ref f12))) (l12 : K.lookup f12 = some ⟨oc12, od12, .func (PySem.W.fnOf "check_course" "check_course" (defArgs s_check_course) (defBody s_check_course) (defScope s_check_course) .none kV12 dc12 pm12 an12 cd12 ct12), sl12⟩) (c12 : PySem.W.codeIn K cd12 "check_course" = true) (k12 : PySem.W.keepIn K (.ref f12) = true)
    (a13 : PySem.W.nsIn K mainGlobals "part_text" = some (some (.ref f13))) (l13 : K.lookup f13 = some ⟨oc13, od13, .func (PySem.W.fnOf "part_text" "part_text" (defArgs s_part_text) (defBody s_part_text) (defScope s_part_text) .none kV13 dc13 pm13 an13 cd13 ct13), sl13⟩) (c13 : PySem.W.codeIn K cd13 "part_text" = true) (k13 : PySem.W.keepIn K (.ref f13) = true)
    (a14 : PySem.W.nsIn K mainGlobals "course_text" = some (some (.ref f14))) (l14 : K.lookup f14 = some ⟨oc14, od14, .func (PySem.W.fnOf "course_text" "course_text" (defArgs s_course_text) (defBody s_course_text) (defScope s_course_text) .none kV14 dc14 pm14 an14 cd14 ct14), sl14⟩) (c14 : PySem.W.codeIn K cd14 "course_text" = true) (k14 : PySem.W.keepIn K (.ref f14) = true)
    (a15 : PySem.W.nsIn K mainGlobals "show_course" = some (some (.ref f15))) (l15 : K.lookup f15 = some ⟨oc15, od15, .func (PySem.W.fnOf "show_course" "show_course" (defArgs s_show_course) (defBody s_show_course) (defScope s_show_course) .none kV15 dc15 pm15 an15 cd15 ct15), sl15⟩) (c15 : PySem.W.codeIn K cd15 "show_course" = true) (k15 : PySem.W.keepIn K (.ref f15) = true)
    (a16 : PySem.W.nsIn K mainGlobals "end_of" = some (some (.ref f16))) (l16 : K.lookup f16 = some ⟨oc16, od16, .func (PySem.W.fnOf "end_of" "end_of" (defArgs s_end_of) (defBody s_end_of) (defScope s_end_of) .none kV16 dc16 pm16 an16 cd16 ct16), sl16⟩) (c16 : PySem.W.codeIn K cd16 "end_of" = true) (k16 : PySem.W.keepIn K (.ref f16) = true)
    (a17 : PySem.W.nsIn K mainGlobals "part_read" = some (some (.ref f17))) (l17 : K.lookup f17 = some ⟨oc17, od17, .func (PySem.W.fnOf "part_read" "part_read" (defArgs s_part_read) (defBody s_part_read) (defScope s_part_read) .none kV17 dc17 pm17 an17 cd17 ct17), sl17⟩) (c17 : PySem.W.codeIn K cd17 "part_read" = true) (k17 : PySem.W.keepIn K (.ref f17) = true)
    (a18 : PySem.W.nsIn K mainGlobals "course_read" = some (some (.ref f18))) (l18 : K.lookup f18 = some ⟨oc18, od18, .func (PySem.W.fnOf "course_read" "course_read" (defArgs s_course_read) (defBody s_course_read) (defScope s_course_read) .none kV18 dc18 pm18 an18 cd18 ct18), sl18⟩) (c18 : PySem.W.codeIn K cd18 "course_read" = true) (k18 : PySem.W.keepIn K (.ref f18) = true)
    (a19 : PySem.W.nsIn K mainGlobals "read_course" = some (some (.ref f19))) (l19 : K.lookup f19 = some ⟨oc19, od19, .func (PySem.W.fnOf "read_course" "read_course" (defArgs s_read_course) (defBody s_read_course) (defScope s_read_course) .none kV19 dc19 pm19 an19 cd19 ct19), sl19⟩) (c19 : PySem.W.codeIn K cd19 "read_course" = true) (k19 : PySem.W.keepIn K (.ref f19) = true)
    (a20 : PySem.W.nsIn K mainGlobals "_law_sort" = some (some (.ref f20))) (l20 : K.lookup f20 = some ⟨oc20, od20, .func (PySem.W.fnOf "_law_sort" "_law_sort" (defArgs s__law_sort) (defBody s__law_sort) (defScope s__law_sort) .none kV20 dc20 pm20 an20 cd20 ct20), sl20⟩) (c20 : PySem.W.codeIn K cd20 "_law_sort" = true) (k20 : PySem.W.keepIn K (.ref f20) = true)
    (a21 : PySem.W.nsIn K mainGlobals "_law_caught" = some (some (.ref f21))) (l21 : K.lookup f21 = some ⟨oc21, od21, .func (PySem.W.fnOf "_law_caught" "_law_caught" (defArgs s__law_caught) (defBody s__law_caught) (defScope s__law_caught) .none kV21 dc21 pm21 an21 cd21 ct21), sl21⟩) (c21 : PySem.W.codeIn K cd21 "_law_caught" = true) (k21 : PySem.W.keepIn K (.ref f21) = true)
    (a22 : PySem.W.nsIn K mainGlobals "_law_opened" = some (some (.ref f22))) (l22 : K.lookup f22 = some ⟨oc22, od22, .func (PySem.W.fnOf "_law_opened" "_law_opened" (defArgs s__law_opened) (defBody s__law_opened) (defScope s__law_opened) .none kV22 dc22 pm22 an22 cd22 ct22), sl22⟩) (c22 : PySem.W.codeIn K cd22 "_law_opened" = true) (k22 : PySem.W.keepIn K (.ref f22) = true)
    (a23 : PySem.W.nsIn K mainGlobals "_law_pull" = some (some (.ref f23))) (l23 : K.lookup f23 = some ⟨oc23, od23, .func (PySem.W.fnOf "_law_pull" "_law_pull" (defArgs s__law_pull) (defBody s__law_pull) (defScope s__law_pull) .none kV23 dc23 pm23 an23 cd23 ct23), sl23⟩) (c23 : PySem.W.codeIn K cd23 "_law_pull" = true) (k23 : PySem.W.keepIn K (.ref f23) = true)
    (a24 : PySem.W.nsIn K mainGlobals "_law_spelt" = some (some (.ref f24))) (l24 : K.lookup f24 = some ⟨oc24, od24, .func (PySem.W.fnOf "_law_spelt" "_law_spelt" (defArgs s__law_spelt) (defBody s__law_spelt) (defScope s__law_spelt) .none kV24 dc24 pm24 an24 cd24 ct24), sl24⟩) (c24 : PySem.W.codeIn K cd24 "_law_spelt" = true) (k24 : PySem.W.keepIn K (.ref f24) = true)
    (a25 : PySem.W.nsIn K mainGlobals "_law_calls" = some (some (.ref f25))) (l25 : K.lookup f25 = some ⟨oc25, od25, .func (PySem.W.fnOf "_law_calls" "_law_calls" (defArgs s__law_calls) (defBody s__law_calls) (defScope s__law_calls) .none kV25 dc25 pm25 an25 cd25 ct25), sl25⟩) (c25 : PySem.W.codeIn K cd25 "_law_calls" = true) (k25 : PySem.W.keepIn K (.ref f25) = true)
    (a26 : PySem.W.nsIn K mainGlobals "_law_figure" = some (some (.ref f26))) (l26 : K.lookup f26 = some ⟨oc26, od26, .func (PySem.W.fnOf "_law_figure" "_law_figure" (defArgs s__law_figure) (defBody s__law_figure) (defScope s__law_figure) .none kV26 dc26 pm26 an26 cd26 ct26), sl26⟩) (c26 : PySem.W.codeIn K cd26 "_law_figure" = true) (k26 : PySem.W.keepIn K (.ref f26) = true)
    (a27 : PySem.W.nsIn K mainGlobals "_law_kit" = some (some (.ref f27))) (l27 : K.lookup f27 = some ⟨oc27, od27, .func (PySem.W.fnOf "_law_kit" "_law_kit" (defArgs s__law_kit) (defBody s__law_kit) (defScope s__law_kit) .none kV27 dc27 pm27 an27 cd27 ct27), sl27⟩) (c27 : PySem.W.codeIn K cd27 "_law_kit" = true) (k27 : PySem.W.keepIn K (.ref f27) = true)
    (a28 : PySem.W.nsIn K mainGlobals "_law_tune" = some (some (.ref f28))) (l28 : K.lookup f28 = some ⟨oc28, od28, .func (PySem.W.fnOf "_law_tune" "_law_tune" (defArgs s__law_tune) (defBody s__law_tune) (defScope s__law_tune) .none kV28 dc28 pm28 an28 cd28 ct28), sl28⟩) (c28 : PySem.W.codeIn K cd28 "_law_tune" = true) (k28 : PySem.W.keepIn K (.ref f28) = true)
    (a29 : PySem.W.nsIn K mainGlobals "_law_same" = some (some (.ref f29))) (l29 : K.lookup f29 = some ⟨oc29, od29, .func (PySem.W.fnOf "_law_same" "_law_same" (defArgs s__law_same) (defBody s__law_same) (defScope s__law_same) .none kV29 dc29 pm29 an29 cd29 ct29), sl29⟩) (c29 : PySem.W.codeIn K cd29 "_law_same" = true) (k29 : PySem.W.keepIn K (.ref f29) = true)
    (a30 : PySem.W.nsIn K mainGlobals "_law_text_of" = some (some (.ref f30))) (l30 : K.lookup f30 = some ⟨oc30, od30, .func (PySem.W.fnOf "_law_text_of" "_law_text_of" (defArgs s__law_text_of) (defBody s__law_text_of) (defScope s__law_text_of) .none kV30 dc30 pm30 an30 cd30 ct30), sl30⟩) (c30 : PySem.W.codeIn K cd30 "_law_text_of" = true) (k30 : PySem.W.keepIn K (.ref f30) = true)
    (a31 : PySem.W.nsIn K mainGlobals "_law_one_right" = some (some (.ref f31))) (l31 : K.lookup f31 = some ⟨oc31, od31, .func (PySem.W.fnOf "_law_one_right" "_law_one_right" (defArgs s__law_one_right) (defBody s__law_one_right) (defScope s__law_one_right) .none kV31 dc31 pm31 an31 (.ref cC31) ct31), sl31⟩) (c31 : PySem.W.codeIn K (.ref cC31) "_law_one_right" = true) (k31 : PySem.W.keepIn K (.ref f31) = true)
    (lk31 : K.lookup cC31 = some ⟨.type "code", dC31, .fields vC31, sC31⟩) (pv31 : (vC31[11]? : Option Value) = some (.ref pP31)) (hd31 : PySem.W.codeHdIn K cC31 pP31 = true) (nT31 : K.lookup pP31 = none) (te31 : h.get? pP31 = some { cls := .none, data := .fields #[] })
    (a32 : PySem.W.nsIn K mainGlobals "_law_deep" = some (some (.ref f32))) (l32 : K.lookup f32 = some ⟨oc32, od32, .func (PySem.W.fnOf "_law_deep" "_law_deep" (defArgs s__law_deep) (defBody s__law_deep) (defScope s__law_deep) .none kV32 dc32 pm32 an32 cd32 ct32), sl32⟩) (c32 : PySem.W.codeIn K cd32 "_law_deep" = true) (k32 : PySem.W.keepIn K (.ref f32) = true)
    (a33 : PySem.W.nsIn K mainGlobals "_law_right" = some (some (.ref f33))) (l33 : K.lookup f33 = some ⟨oc33, od33, .func (PySem.W.fnOf "_law_right" "_law_right" (defArgs s__law_right) (defBody s__law_right) (defScope s__law_right) .none kV33 dc33 pm33 an33 cd33 ct33), sl33⟩) (c33 : PySem.W.codeIn K cd33 "_law_right" = true) (k33 : PySem.W.keepIn K (.ref f33) = true)
    (a34 : PySem.W.nsIn K mainGlobals "law" = some (some (.ref f34))) (l34 : K.lookup f34 = some ⟨oc34, od34, .func (PySem.W.fnOf "law" "law" (defArgs s_law) (defBody s_law) (defScope s_law) .none kV34 dc34 pm34 an34 cd34 ct34), sl34⟩) (c34 : PySem.W.codeIn K cd34 "law" = true) (k34 : PySem.W.keepIn K (.ref f34) = true)
    (z0 : PySem.W.nsIn K mainGlobals "int" = some none)
    (z1 : PySem.W.nsIn K mainGlobals "isinstance" = some none)
    (z2 : PySem.W.nsIn K mainGlobals "bool" = some none)
    (z3 : PySem.W.nsIn K mainGlobals "str" = some none)
    (z4 : PySem.W.nsIn K mainGlobals "len" = some none)
    (z5 : PySem.W.nsIn K mainGlobals "all" = some none)
    (z6 : PySem.W.nsIn K mainGlobals "tuple" = some none)
    (z7 : PySem.W.nsIn K mainGlobals "enumerate" = some none)
    (z8 : PySem.W.nsIn K mainGlobals "dict" = some none)
    (z9 : PySem.W.nsIn K mainGlobals "ValueError" = some none)
    (z10 : PySem.W.nsIn K mainGlobals "LookupError" = some none)
    (z11 : PySem.W.nsIn K mainGlobals "ArithmeticError" = some none)
    (z12 : PySem.W.nsIn K mainGlobals "repr" = some none)
    (z13 : PySem.W.nsIn K mainGlobals "abs" = some none)
    (z14 : PySem.W.nsIn K mainGlobals "divmod" = some none)
    (z15 : PySem.W.nsIn K mainGlobals "range" = some none)
    (z16 : PySem.W.nsIn K mainGlobals "sorted" = some none)
    (z17 : PySem.W.nsIn K mainGlobals "min" = some none)
    (z18 : PySem.W.nsIn K mainGlobals "max" = some none)
    (q0 : PySem.W.nsIn K mainGlobals "MOST_LETTERS" = some (some (.int 6 tk0)))
    (q1 : PySem.W.nsIn K mainGlobals "LETTERS" = some (some (.str "abcdefghijklmnopqrstuvwxyz" tk1)))
    (q2 : PySem.W.nsIn K mainGlobals "LEAST_MARKS" = some (some (.int 2 tk2)))
    (q3 : PySem.W.nsIn K mainGlobals "MOST_MARKS" = some (some (.int 24 tk3)))
    (q4 : PySem.W.nsIn K mainGlobals "MOST_BELLS" = some (some (.int 8 tk4)))
    (q5 : PySem.W.nsIn K mainGlobals "MOST_NUMBER" = some (some (.int 99 tk5)))
    (q6 : PySem.W.nsIn K mainGlobals "MOST_WITHIN" = some (some (.int 5 tk6)))
    (q7 : PySem.W.nsIn K mainGlobals "MOST_TIMES" = some (some (.int 1000000000000000000000000000000 tk7)))
    (q8 : PySem.W.nsIn K mainGlobals "MOST_PARTS" = some (some (.int 120 tk8)))
    (q9 : PySem.W.nsIn K mainGlobals "NOTHING" = some (some (.str "-" tk9)))
    (q10 : PySem.W.nsIn K mainGlobals "FIGURES" = some (some (.str "0123456789" tk10)))
    (q11 : PySem.W.nsIn K mainGlobals "MOST_TIMES_FIGURES" = some (some (.int 31 tk11)))
    : LawTab l w K 25 63 "_law_script" mg fa h := by
  have ec_Peal := clsAt_of gc_Peal
  subst ec_Peal
  have ec_NoPeal := clsAt_of gc_NoPeal
  subst ec_NoPeal
  have ec_NoBells := clsAt_of gc_NoBells
  subst ec_NoBells
  have ec_NoNotches := clsAt_of gc_NoNotches
  subst ec_NoNotches
  have ec_NoText := clsAt_of gc_NoText
  subst ec_NoText
  have ec_NoStanding := clsAt_of gc_NoStanding
  subst ec_NoStanding
  have ec_NoRow := clsAt_of gc_NoRow
  subst ec_NoRow
  have ec_NoDials := clsAt_of gc_NoDials
  subst ec_NoDials
  have ec_NoRings := clsAt_of gc_NoRings
  subst ec_NoRings
  have ec_NoCourse := clsAt_of gc_NoCourse
  subst ec_NoCourse
  have ec_NoNumber := clsAt_of gc_NoNumber
  subst ec_NoNumber
  have ec_NoModuli := clsAt_of gc_NoModuli
  subst ec_NoModuli
  have ec_NoVectors := clsAt_of gc_NoVectors
  subst ec_NoVectors
  have ec_NoVector := clsAt_of gc_NoVector
  subst ec_NoVector
  have ec_NoWeights := clsAt_of gc_NoWeights
  subst ec_NoWeights
  have ec_NoTruth := clsAt_of gc_NoTruth
  subst ec_NoTruth
  have ec_NoHistories := clsAt_of gc_NoHistories
  subst ec_NoHistories
  have ec_NoDeed := clsAt_of gc_NoDeed
  subst ec_NoDeed
  have ec_NoLog := clsAt_of gc_NoLog
  subst ec_NoLog
  have ec_NoSay := clsAt_of gc_NoSay
  subst ec_NoSay
  have ec_NoName := clsAt_of gc_NoName
  subst ec_NoName
  have ec_NoPlace := clsAt_of gc_NoPlace
  subst ec_NoPlace
  have ec_NoBack := clsAt_of gc_NoBack
  subst ec_NoBack
  have ec_TooMany := clsAt_of gc_TooMany
  subst ec_TooMany
  have ec_BellError := clsAt_of gc_BellError
  subst ec_BellError
  have ec_LostError := clsAt_of gc_LostError
  subst ec_LostError
  have ec_GreatError := clsAt_of gc_GreatError
  subst ec_GreatError
  have e := hfa.symm.trans (PySem.W.mg_of X G a34)
  cases e
  have F0 := fun_mk (st := s_NoText___init__) l0 c0 k0
  have F1 := fun_mk (st := s_is_whole) l1 c1 k1
  have F2 := fun_mk (st := s_is_within) l2 c2 k2
  have F3 := fun_mk (st := s_is_name) l3 c3 k3
  have F4 := fun_mk (st := s_is_bell) l4 c4 k4
  have F5 := fun_mk (st := s_check_bells) l5 c5 k5
  have F6 := fun_mk (st := s_is_notch) l6 c6 k6
  have F7 := fun_mk (st := s_check_notches) l7 c7 k7
  have F8 := funT_mk (st := s_Peal___init__) l8 t8 c8 k8
  have F9 := fun_mk (st := s_check_peal) l9 c9 k9
  have F10 := fun_mk (st := s_parts_in) l10 c10 k10
  have F11 := fun_mk (st := s_fits_course) l11 c11 k11
  have F12 := fun_mk (st := s_check_course) l12 c12 k12
  have F13 := fun_mk (st := s_part_text) l13 c13 k13
  have F14 := fun_mk (st := s_course_text) l14 c14 k14
  have F15 := fun_mk (st := s_show_course) l15 c15 k15
  have F16 := fun_mk (st := s_end_of) l16 c16 k16
  have F17 := fun_mk (st := s_part_read) l17 c17 k17
  have F18 := fun_mk (st := s_course_read) l18 c18 k18
  have F19 := fun_mk (st := s_read_course) l19 c19 k19
  have F20 := fun_mk (st := s__law_sort) l20 c20 k20
  have F21 := fun_mk (st := s__law_caught) l21 c21 k21
  have F22 := fun_mk (st := s__law_opened) l22 c22 k22
  have F23 := fun_mk (st := s__law_pull) l23 c23 k23
  have F24 := fun_mk (st := s__law_spelt) l24 c24 k24
  have F25 := fun_mk (st := s__law_calls) l25 c25 k25
  have F26 := fun_mk (st := s__law_figure) l26 c26 k26
  have F27 := fun_mk (st := s__law_kit) l27 c27 k27
  have F28 := fun_mk (st := s__law_tune) l28 c28 k28
  have F29 := fun_mk (st := s__law_same) l29 c29 k29
  have F30 := fun_mk (st := s__law_text_of) l30 c30 k30
  have F31 := fun_mk (st := s__law_one_right) l31 c31 k31
  have F32 := fun_mk (st := s__law_deep) l32 c32 k32
  have F33 := fun_mk (st := s__law_right) l33 c33 k33
  have F34 := fun_mk (st := s_law) l34 c34 k34
  let T : Txt K mg := {
    a_NoText___init__ := f0,
    d_NoText___init__ := _,
    F_NoText___init__ := F0,
    b_NoText___init__ := F0.binds (ps := ["self", "row"]) fun _ _ _ _ _ _ us hl => match us, hl with | [_, _], _ => rfl,
    a_is_whole := f1,
    d_is_whole := _,
    F_is_whole := F1,
    b_is_whole := F1.binds (ps := ["thing"]) fun _ _ _ _ _ _ us hl => match us, hl with | [_], _ => rfl,
    g_is_whole := PySem.W.mg_of X G a1,
    a_is_within := f2,
    d_is_within := _,
    F_is_within := F2,
    b_is_within := F2.binds (ps := ["thing", "low", "high"]) fun _ _ _ _ _ _ us hl => match us, hl with | [_, _, _], _ => rfl,
    g_is_within := PySem.W.mg_of X G a2,
    a_is_name := f3,
    d_is_name := _,
    F_is_name := F3,
    b_is_name := F3.binds (ps := ["thing"]) fun _ _ _ _ _ _ us hl => match us, hl with | [_], _ => rfl,
    g_is_name := PySem.W.mg_of X G a3,
    a_is_bell := f4,
    d_is_bell := _,
    F_is_bell := F4,
    b_is_bell := F4.binds (ps := ["thing"]) fun _ _ _ _ _ _ us hl => match us, hl with | [_], _ => rfl,
    g_is_bell := PySem.W.mg_of X G a4,
    a_check_bells := f5,
    d_check_bells := _,
    F_check_bells := F5,
    b_check_bells := F5.binds (ps := ["bells"]) fun _ _ _ _ _ _ us hl => match us, hl with | [_], _ => rfl,
    g_check_bells := PySem.W.mg_of X G a5,
    a_is_notch := f6,
    d_is_notch := _,
    F_is_notch := F6,
    b_is_notch := F6.binds (ps := ["thing", "names"]) fun _ _ _ _ _ _ us hl => match us, hl with | [_, _], _ => rfl,
    g_is_notch := PySem.W.mg_of X G a6,
    a_check_notches := f7,
    d_check_notches := _,
    F_check_notches := F7,
    b_check_notches := F7.binds (ps := ["notches", "names"]) fun _ _ _ _ _ _ us hl => match us, hl with | [_, _], _ => rfl,
    g_check_notches := PySem.W.mg_of X G a7,
    bd_Peal___init__ := F8.bindsE (ps := ["self", "bells", "notches"]) 2 rfl (fun _ _ _ _ _ _ _ us its hl hi => match us, its, hl, hi with | [_, _], [_], _, _ => ⟨_, rfl, rfl⟩),
    nt_Peal___init__ := ⟨_, _, tn8, rfl, rfl, rfl⟩,
    a_Peal___init__ := f8,
    d_Peal___init__ := _,
    e_Peal___init__ := _,
    F_Peal___init__ := F8,
    b_Peal___init__ := F8.binds3 (ps := ["self", "bells", "notches"]) (fun _ _ _ _ _ _ _ us its hl hi => match us, its, hl, hi with | [_, _, _], [_], _, _ => ⟨_, rfl, rfl⟩),
    mk_Peal := ⟨p5_Peal, a8, i8, p6_Peal⟩,
    a_check_peal := f9,
    d_check_peal := _,
    F_check_peal := F9,
    b_check_peal := F9.binds (ps := ["thing"]) fun _ _ _ _ _ _ us hl => match us, hl with | [_], _ => rfl,
    g_check_peal := PySem.W.mg_of X G a9,
    a_parts_in := f10,
    d_parts_in := _,
    F_parts_in := F10,
    b_parts_in := F10.binds (ps := ["peal", "thing", "within"]) fun _ _ _ _ _ _ us hl => match us, hl with | [_, _, _], _ => rfl,
    g_parts_in := PySem.W.mg_of X G a10,
    a_fits_course := f11,
    d_fits_course := _,
    F_fits_course := F11,
    b_fits_course := F11.binds (ps := ["peal", "thing"]) fun _ _ _ _ _ _ us hl => match us, hl with | [_, _], _ => rfl,
    g_fits_course := PySem.W.mg_of X G a11,
    a_check_course := f12,
    d_check_course := _,
    F_check_course := F12,
    b_check_course := F12.binds (ps := ["peal", "thing"]) fun _ _ _ _ _ _ us hl => match us, hl with | [_, _], _ => rfl,
    g_check_course := PySem.W.mg_of X G a12,
    a_part_text := f13,
    d_part_text := _,
    F_part_text := F13,
    b_part_text := F13.binds (ps := ["part"]) fun _ _ _ _ _ _ us hl => match us, hl with | [_], _ => rfl,
    g_part_text := PySem.W.mg_of X G a13,
    a_course_text := f14,
    d_course_text := _,
    F_course_text := F14,
    b_course_text := F14.binds (ps := ["course"]) fun _ _ _ _ _ _ us hl => match us, hl with | [_], _ => rfl,
    g_course_text := PySem.W.mg_of X G a14,
    a_show_course := f15,
    d_show_course := _,
    F_show_course := F15,
    b_show_course := F15.binds (ps := ["peal", "course"]) fun _ _ _ _ _ _ us hl => match us, hl with | [_, _], _ => rfl,
    g_show_course := PySem.W.mg_of X G a15,
    a_end_of := f16,
    d_end_of := _,
    F_end_of := F16,
    b_end_of := F16.binds (ps := ["text", "at", "signs"]) fun _ _ _ _ _ _ us hl => match us, hl with | [_, _, _], _ => rfl,
    g_end_of := PySem.W.mg_of X G a16,
    a_part_read := f17,
    d_part_read := _,
    F_part_read := F17,
    b_part_read := F17.binds (ps := ["text", "at", "within"]) fun _ _ _ _ _ _ us hl => match us, hl with | [_, _, _], _ => rfl,
    g_part_read := PySem.W.mg_of X G a17,
    a_course_read := f18,
    d_course_read := _,
    F_course_read := F18,
    b_course_read := F18.binds (ps := ["text", "at", "within"]) fun _ _ _ _ _ _ us hl => match us, hl with | [_, _, _], _ => rfl,
    g_course_read := PySem.W.mg_of X G a18,
    a_read_course := f19,
    d_read_course := _,
    F_read_course := F19,
    b_read_course := F19.binds (ps := ["peal", "text"]) fun _ _ _ _ _ _ us hl => match us, hl with | [_, _], _ => rfl,
    g_read_course := PySem.W.mg_of X G a19,
    a__law_sort := f20,
    d__law_sort := _,
    F__law_sort := F20,
    b__law_sort := F20.binds (ps := ["_law_e"]) fun _ _ _ _ _ _ us hl => match us, hl with | [_], _ => rfl,
    g__law_sort := PySem.W.mg_of X G a20,
    a__law_caught := f21,
    d__law_caught := _,
    F__law_caught := F21,
    b__law_caught := F21.binds (ps := ["_law_act"]) fun _ _ _ _ _ _ us hl => match us, hl with | [_], _ => rfl,
    g__law_caught := PySem.W.mg_of X G a21,
    a__law_opened := f22,
    d__law_opened := _,
    F__law_opened := F22,
    b__law_opened := F22.binds (ps := ["_law_script", "_law_k"]) fun _ _ _ _ _ _ us hl => match us, hl with | [_, _], _ => rfl,
    g__law_opened := PySem.W.mg_of X G a22,
    a__law_pull := f23,
    d__law_pull := _,
    F__law_pull := F23,
    b__law_pull := F23.binds (ps := ["_law_store", "_law_many"]) fun _ _ _ _ _ _ us hl => match us, hl with | [_, _], _ => rfl,
    g__law_pull := PySem.W.mg_of X G a23,
    a__law_spelt := f24,
    d__law_spelt := _,
    F__law_spelt := F24,
    b__law_spelt := F24.binds (ps := ["_law_figure_here", "_law_wide"]) fun _ _ _ _ _ _ us hl => match us, hl with | [_, _], _ => rfl,
    g__law_spelt := PySem.W.mg_of X G a24,
    a__law_calls := f25,
    d__law_calls := _,
    F__law_calls := F25,
    b__law_calls := F25.binds (ps := ["_law_store", "_law_many"]) fun _ _ _ _ _ _ us hl => match us, hl with | [_, _], _ => rfl,
    g__law_calls := PySem.W.mg_of X G a25,
    a__law_figure := f26,
    d__law_figure := _,
    F__law_figure := F26,
    b__law_figure := F26.binds (ps := ["_law_store", "_law_mode", "_law_size"]) fun _ _ _ _ _ _ us hl => match us, hl with | [_, _, _], _ => rfl,
    g__law_figure := PySem.W.mg_of X G a26,
    a__law_kit := f27,
    d__law_kit := _,
    F__law_kit := F27,
    b__law_kit := F27.binds (ps := ["_law_store", "_law_upto", "_law_most"]) fun _ _ _ _ _ _ us hl => match us, hl with | [_, _, _], _ => rfl,
    g__law_kit := PySem.W.mg_of X G a27,
    a__law_tune := f28,
    d__law_tune := _,
    F__law_tune := F28,
    b__law_tune := F28.binds (ps := ["_law_store", "_law_kit_here", "_law_deep_here", "_law_wide", "_law_often"]) fun _ _ _ _ _ _ us hl => match us, hl with | [_, _, _, _, _], _ => rfl,
    g__law_tune := PySem.W.mg_of X G a28,
    a__law_same := f29,
    d__law_same := _,
    F__law_same := F29,
    b__law_same := F29.binds (ps := ["_law_found", "_law_due"]) fun _ _ _ _ _ _ us hl => match us, hl with | [_, _], _ => rfl,
    g__law_same := PySem.W.mg_of X G a29,
    a__law_text_of := f30,
    d__law_text_of := _,
    F__law_text_of := F30,
    b__law_text_of := F30.binds (ps := ["_law_tune_here"]) fun _ _ _ _ _ _ us hl => match us, hl with | [_], _ => rfl,
    g__law_text_of := PySem.W.mg_of X G a30,
    lc__law_one_right := cC31,
    lp__law_one_right := pP31,
    ld__law_one_right := rfl,
    a__law_one_right := f31,
    d__law_one_right := _,
    F__law_one_right := F31,
    b__law_one_right := F31.binds (ps := ["_law_tower", "_law_tune_here"]) fun _ _ _ _ _ _ us hl => match us, hl with | [_, _], _ => rfl,
    g__law_one_right := PySem.W.mg_of X G a31,
    a__law_deep := f32,
    d__law_deep := _,
    F__law_deep := F32,
    b__law_deep := F32.binds (ps := ["_law_call"]) fun _ _ _ _ _ _ us hl => match us, hl with | [_], _ => rfl,
    g__law_deep := PySem.W.mg_of X G a32,
    a__law_right := f33,
    d__law_right := _,
    F__law_right := F33,
    b__law_right := F33.binds (ps := ["_law_store"]) fun _ _ _ _ _ _ us hl => match us, hl with | [_], _ => rfl,
    g__law_right := PySem.W.mg_of X G a33,
    a_law := fa,
    d_law := _,
    F_law := F34,
    b_law := F34.binds (ps := ["_law_script"]) fun _ _ _ _ _ _ us hl => match us, hl with | [_], _ => rfl,
    g_law := PySem.W.mg_of X G a34,
    kb_show_course_course_peal := kbw_of F15 (fun _ _ _ _ _ _ ws hl => match ws, hl with | [_, _], _ => rfl) (fun h => kwv_show_course_course_peal h),
    kb_read_course_text_peal := kbw_of F19 (fun _ _ _ _ _ _ ws hl => match ws, hl with | [_, _], _ => rfl) (fun h => kwv_read_course_text_peal h),
    mc_NoPeal := PySem.W.mg_of X G gc_NoPeal,
    mc_NoBells := PySem.W.mg_of X G gc_NoBells,
    mc_NoNotches := PySem.W.mg_of X G gc_NoNotches,
    mc_NoText := PySem.W.mg_of X G gc_NoText,
    mc_NoStanding := PySem.W.mg_of X G gc_NoStanding,
    mc_NoRow := PySem.W.mg_of X G gc_NoRow,
    mc_NoDials := PySem.W.mg_of X G gc_NoDials,
    mc_NoRings := PySem.W.mg_of X G gc_NoRings,
    mc_NoCourse := PySem.W.mg_of X G gc_NoCourse,
    mc_NoNumber := PySem.W.mg_of X G gc_NoNumber,
    mc_NoModuli := PySem.W.mg_of X G gc_NoModuli,
    mc_NoVectors := PySem.W.mg_of X G gc_NoVectors,
    mc_NoVector := PySem.W.mg_of X G gc_NoVector,
    mc_NoWeights := PySem.W.mg_of X G gc_NoWeights,
    mc_NoTruth := PySem.W.mg_of X G gc_NoTruth,
    mc_NoHistories := PySem.W.mg_of X G gc_NoHistories,
    mc_NoDeed := PySem.W.mg_of X G gc_NoDeed,
    mc_NoLog := PySem.W.mg_of X G gc_NoLog,
    mc_NoSay := PySem.W.mg_of X G gc_NoSay,
    mc_NoName := PySem.W.mg_of X G gc_NoName,
    mc_NoPlace := PySem.W.mg_of X G gc_NoPlace,
    mc_NoBack := PySem.W.mg_of X G gc_NoBack,
    mc_TooMany := PySem.W.mg_of X G gc_TooMany,
    mc_BellError := PySem.W.mg_of X G gc_BellError,
    mc_LostError := PySem.W.mg_of X G gc_LostError,
    mc_GreatError := PySem.W.mg_of X G gc_GreatError,
    em_NoText_BellError := PySem.W.exm_ref sB_BellError hD_BellError tY_BellError sU_NoText_BellError,
    em_NoText_LostError := PySem.W.exm_ref sB_LostError hD_LostError tY_LostError sU_NoText_LostError,
    em_NoText_GreatError := PySem.W.exm_ref sB_GreatError hD_GreatError tY_GreatError sU_NoText_GreatError,
    ec_NoText := ⟨gA_NoText, gG_NoText, sB_NoText, hD_NoText, cC_NoText, cN, cT, cM_NoText⟩,
    kx_NoText_NoPeal := kit_own iC_NoPeal tY_NoPeal sU_NoText_NoText sU_NoText_NoPeal,
    kx_NoText_NoBells := kit_own iC_NoBells tY_NoBells sU_NoText_NoText sU_NoText_NoBells,
    kx_NoText_NoNotches := kit_own iC_NoNotches tY_NoNotches sU_NoText_NoText sU_NoText_NoNotches,
    kx_NoText_NoText := kit_self,
    kx_NoText_NoStanding := kit_own iC_NoStanding tY_NoStanding sU_NoText_NoText sU_NoText_NoStanding,
    kx_NoText_NoRow := kit_own iC_NoRow tY_NoRow sU_NoText_NoText sU_NoText_NoRow,
    kx_NoText_NoDials := kit_own iC_NoDials tY_NoDials sU_NoText_NoText sU_NoText_NoDials,
    kx_NoText_NoRings := kit_own iC_NoRings tY_NoRings sU_NoText_NoText sU_NoText_NoRings,
    kx_NoText_NoCourse := kit_own iC_NoCourse tY_NoCourse sU_NoText_NoText sU_NoText_NoCourse,
    kx_NoText_NoNumber := kit_own iC_NoNumber tY_NoNumber sU_NoText_NoText sU_NoText_NoNumber,
    kx_NoText_NoModuli := kit_own iC_NoModuli tY_NoModuli sU_NoText_NoText sU_NoText_NoModuli,
    kx_NoText_NoVectors := kit_own iC_NoVectors tY_NoVectors sU_NoText_NoText sU_NoText_NoVectors,
    kx_NoText_NoVector := kit_own iC_NoVector tY_NoVector sU_NoText_NoText sU_NoText_NoVector,
    kx_NoText_NoWeights := kit_own iC_NoWeights tY_NoWeights sU_NoText_NoText sU_NoText_NoWeights,
    kx_NoText_NoTruth := kit_own iC_NoTruth tY_NoTruth sU_NoText_NoText sU_NoText_NoTruth,
    kx_NoText_NoHistories := kit_own iC_NoHistories tY_NoHistories sU_NoText_NoText sU_NoText_NoHistories,
    kx_NoText_NoDeed := kit_own iC_NoDeed tY_NoDeed sU_NoText_NoText sU_NoText_NoDeed,
    kx_NoText_NoLog := kit_own iC_NoLog tY_NoLog sU_NoText_NoText sU_NoText_NoLog,
    kx_NoText_NoSay := kit_own iC_NoSay tY_NoSay sU_NoText_NoText sU_NoText_NoSay,
    kx_NoText_NoName := kit_own iC_NoName tY_NoName sU_NoText_NoText sU_NoText_NoName,
    kx_NoText_NoPlace := kit_own iC_NoPlace tY_NoPlace sU_NoText_NoText sU_NoText_NoPlace,
    kx_NoText_NoBack := kit_own iC_NoBack tY_NoBack sU_NoText_NoText sU_NoText_NoBack,
    kx_NoText_TooMany := kit_own iC_TooMany tY_TooMany sU_NoText_NoText sU_NoText_TooMany,
    kx_NoText_BellError := kit_own iC_BellError tY_BellError sU_NoText_NoText sU_NoText_BellError,
    kx_NoText_LostError := kit_own iC_LostError tY_LostError sU_NoText_NoText sU_NoText_LostError,
    kx_NoText_GreatError := kit_own iC_GreatError tY_GreatError sU_NoText_NoText sU_NoText_GreatError,
    kx_NoText_ValueError := kit_blt (by decide +kernel) sU_NoText_ValueError,
    kx_NoText_LookupError := kit_blt (by decide +kernel) sU_NoText_LookupError,
    kx_NoText_ArithmeticError := kit_blt (by decide +kernel) sU_NoText_ArithmeticError,
    xc_NoText := ⟨gA_NoText, gG_NoText, sB_NoText, hD_NoText⟩,
    xn0_NoText := nF_NoText,
    mx_NoText := PySem.W.mg_of X G gc_NoText,
    ox_NoText := OexG.one PySem.F.excBase_ValueError PySem.F.store_ValueError rfl xL_NoText sA_NoText sB_NoText tY_NoText kP_NoText,
    xn_NoText := a0,
    xf_NoText := t0,
    no_NoText := nF_NoText,
    be_BellError := ⟨bS_BellError, bR_BellError, bF_BellError, rfl⟩,
    mx_BellError := PySem.W.mg_of X G gc_BellError,
    cl_Peal := ⟨p1_Peal, p2_Peal, p3_Peal, p4_Peal⟩,
    co_Peal := ⟨⟨p1_Peal, p2_Peal, p3_Peal, p4_Peal⟩, p7_Peal, p8_Peal, p9_Peal, pa_Peal⟩,
    ki_Peal := kit_self,
    mg_Peal := PySem.W.mg_of X G gc_Peal,
    na_Peal_bells := n_Peal_bells,
    na_Peal_notches := n_Peal_notches,
    na_Peal_sizes := n_Peal_sizes,
    na_Peal_turning := n_Peal_turning,
    n_int := PySem.W.mg_none_of X G z0,
    n_isinstance := PySem.W.mg_none_of X G z1,
    n_bool := PySem.W.mg_none_of X G z2,
    n_str := PySem.W.mg_none_of X G z3,
    n_len := PySem.W.mg_none_of X G z4,
    n_all := PySem.W.mg_none_of X G z5,
    n_tuple := PySem.W.mg_none_of X G z6,
    n_enumerate := PySem.W.mg_none_of X G z7,
    n_dict := PySem.W.mg_none_of X G z8,
    n_ValueError := PySem.W.mg_none_of X G z9,
    n_LookupError := PySem.W.mg_none_of X G z10,
    n_ArithmeticError := PySem.W.mg_none_of X G z11,
    n_repr := PySem.W.mg_none_of X G z12,
    n_abs := PySem.W.mg_none_of X G z13,
    n_divmod := PySem.W.mg_none_of X G z14,
    n_range := PySem.W.mg_none_of X G z15,
    n_sorted := PySem.W.mg_none_of X G z16,
    n_min := PySem.W.mg_none_of X G z17,
    n_max := PySem.W.mg_none_of X G z18,
    t_MOST_LETTERS := _,
    c_MOST_LETTERS := PySem.W.mg_of X G q0,
    t_LETTERS := _,
    c_LETTERS := PySem.W.mg_of X G q1,
    t_LEAST_MARKS := _,
    c_LEAST_MARKS := PySem.W.mg_of X G q2,
    t_MOST_MARKS := _,
    c_MOST_MARKS := PySem.W.mg_of X G q3,
    t_MOST_BELLS := _,
    c_MOST_BELLS := PySem.W.mg_of X G q4,
    t_MOST_NUMBER := _,
    c_MOST_NUMBER := PySem.W.mg_of X G q5,
    t_MOST_WITHIN := _,
    c_MOST_WITHIN := PySem.W.mg_of X G q6,
    t_MOST_TIMES := _,
    c_MOST_TIMES := PySem.W.mg_of X G q7,
    t_MOST_PARTS := _,
    c_MOST_PARTS := PySem.W.mg_of X G q8,
    t_NOTHING := _,
    c_NOTHING := PySem.W.mg_of X G q9,
    t_FIGURES := _,
    c_FIGURES := PySem.W.mg_of X G q10,
    t_MOST_TIMES_FIGURES := _,
    c_MOST_TIMES_FIGURES := PySem.W.mg_of X G q11 }
  letI tb : Tb := ⟨[(pP31, (("_law_one_right" : Str) ++ ".<locals>." ++ "<lambda>"))]⟩
  refine ⟨T.d_law, [(cC31, pP31)], sp_law K, (List.forall_mem_cons.mpr ⟨te31, (fun _ h => nomatch h)⟩), (List.forall_mem_cons.mpr ⟨nT31, (fun _ h => nomatch h)⟩), (List.forall_mem_cons.mpr ⟨PySem.W.codeHd_of_K X hd31, (fun _ h => nomatch h)⟩), fun s v => .of_eq rfl, fun H a ns hl hT hS => law_end hl (List.forall_mem_cons.mpr ⟨hT (cC31, pP31) (List.Mem.head _), (fun _ h => nomatch h)⟩) hS, fun base kb nb TB => ?_⟩
  have O_NoText___init__ := ok_NoText___init__ (P := l.prog) (w := w) (base := base) T 
  have O_is_whole := ok_is_whole (P := l.prog) (w := w) (base := base) T 
  have O_is_within := ok_is_within (P := l.prog) (w := w) (base := base) T O_is_whole
  have O_is_name := ok_is_name (P := l.prog) (w := w) (base := base) T 
  have O_is_bell := ok_is_bell (P := l.prog) (w := w) (base := base) T O_is_name O_is_within
  have O_check_bells := ok_check_bells (P := l.prog) (w := w) (base := base) T O_is_bell
  have O_is_notch := ok_is_notch (P := l.prog) (w := w) (base := base) T O_is_name O_is_within
  have O_check_notches := ok_check_notches (P := l.prog) (w := w) (base := base) T O_is_notch
  have O_Peal___init__ := ok_Peal___init__ (P := l.prog) (w := w) (base := base) T O_check_bells O_check_notches
  have O_check_peal := ok_check_peal (P := l.prog) (w := w) (base := base) T 
  have O_parts_in := ok_parts_in (P := l.prog) (w := w) (base := base) T O_is_within 8
  have O_fits_course := ok_fits_course (P := l.prog) (w := w) (base := base) T O_parts_in
  have O_check_course := ok_check_course (P := l.prog) (w := w) (base := base) T O_fits_course
  have O_part_text := ok_part_text (P := l.prog) (w := w) (base := base) T  16
  have O_course_text := ok_course_text (P := l.prog) (w := w) (base := base) T  16
  have O_show_course := ok_show_course (P := l.prog) (w := w) (base := base) T O_check_peal O_check_course O_course_text
  have O_end_of := ok_end_of (P := l.prog) (w := w) (base := base) T 
  have O_part_read := ok_part_read (P := l.prog) (w := w) (base := base) T O_end_of 16
  have O_course_read := ok_course_read (P := l.prog) (w := w) (base := base) T O_end_of 16
  have O_read_course := ok_read_course (P := l.prog) (w := w) (base := base) T O_check_peal O_course_read O_fits_course
  have O_read_course_2 := ok_read_course_2 (P := l.prog) (w := w) (base := base) T O_check_peal O_course_read O_fits_course O_NoText___init__
  have O__law_sort := ok__law_sort (P := l.prog) (w := w) (base := base) T 
  have O__law_caught := ok__law_caught (P := l.prog) (w := w) (base := base) T O__law_sort
  have O__law_opened := ok__law_opened (P := l.prog) (w := w) (base := base) T 
  have O__law_pull := ok__law_pull (P := l.prog) (w := w) (base := base) T 
  have O__law_spelt := ok__law_spelt (P := l.prog) (w := w) (base := base) T 
  have O__law_calls := ok__law_calls (P := l.prog) (w := w) (base := base) T O__law_pull O__law_spelt
  have O__law_figure := ok__law_figure (P := l.prog) (w := w) (base := base) T O__law_pull
  have O__law_kit := ok__law_kit (P := l.prog) (w := w) (base := base) T O__law_calls O__law_pull O__law_figure
  have O__law_tune := ok__law_tune (P := l.prog) (w := w) (base := base) T O__law_pull 6
  have O__law_same := ok__law_same (P := l.prog) (w := w) (base := base) T  12
  have O__law_text_of := ok__law_text_of (P := l.prog) (w := w) (base := base) T  8
  have O__law_one_right := ok__law_one_right (P := l.prog) (w := w) (base := base) T O__law_text_of O_show_course O__law_same O__law_caught O_read_course_2 O_read_course (TB (cC31, pP31) (List.Mem.head _)) (List.Mem.head _) (fun p hp e => by rcases List.mem_cons.mp hp with rfl | hp; exact rfl; cases hp)
  have O__law_deep := ok__law_deep (P := l.prog) (w := w) (base := base) T 
  have O__law_right := ok__law_right (P := l.prog) (w := w) (base := base) T O__law_kit O_Peal___init__ O__law_deep O__law_pull O__law_tune O__law_one_right
  have O_law := ok_law (P := l.prog) (w := w) (base := base) T O_Peal___init__ O_show_course O__law_right O__law_opened
  exact O_law
open H16
theorem gathered {l : PySem.W.OpenLaw} {w : World} {K : PySem.W.Frag} {h : Heap} {mg : Str → Option Value} {fa : Addr} (X : K.In h) (G : h.Ns mainGlobals mg) (hfa : mg "law" = some (.ref fa)) (c : He.SaysX [] hfn [] htf (fxOk hxs) w h K) : LawTab l w K 25 63 "_law_script" mg fa h := by
  have D : hfn.map (fun d => He.fnW K d.at_) = hfn.map He.DefD.val := congrArg (fun z : He.AlD => z.2) c.t.d
  obtain ⟨oc0, od0, sl0, kV0, dc0, pm0, an0, cd0, ct0, g_l0, g_c0⟩ := fDef_ok (p := ("NoText", some "__init__")) (q := "NoText.__init__") (nm := "__init__") (qn := "NoText.__init__") (ar := defArgs s_NoText___init__) (bd := defBody s_NoText___init__) (sc := defScope s_NoText___init__) (def_at D 0 (d := hd0) rfl) (fx_at c.more 0 0 (l := hx0) (f := fx0) rfl rfl)
  obtain ⟨oc1, od1, sl1, kV1, dc1, pm1, an1, cd1, ct1, g_l1, g_c1⟩ := fDef_ok (p := ("is_whole", none)) (q := "is_whole") (nm := "is_whole") (qn := "is_whole") (ar := defArgs s_is_whole) (bd := defBody s_is_whole) (sc := defScope s_is_whole) (def_at D 1 (d := hd1) rfl) (fx_at c.more 0 1 (l := hx0) (f := fx1) rfl rfl)
  obtain ⟨oc2, od2, sl2, kV2, dc2, pm2, an2, cd2, ct2, g_l2, g_c2⟩ := fDef_ok (p := ("is_within", none)) (q := "is_within") (nm := "is_within") (qn := "is_within") (ar := defArgs s_is_within) (bd := defBody s_is_within) (sc := defScope s_is_within) (def_at D 2 (d := hd2) rfl) (fx_at c.more 0 2 (l := hx0) (f := fx2) rfl rfl)
  obtain ⟨oc3, od3, sl3, kV3, dc3, pm3, an3, cd3, ct3, g_l3, g_c3⟩ := fDef_ok (p := ("is_name", none)) (q := "is_name") (nm := "is_name") (qn := "is_name") (ar := defArgs s_is_name) (bd := defBody s_is_name) (sc := defScope s_is_name) (def_at D 3 (d := hd3) rfl) (fx_at c.more 0 3 (l := hx0) (f := fx3) rfl rfl)
  obtain ⟨oc4, od4, sl4, kV4, dc4, pm4, an4, cd4, ct4, g_l4, g_c4⟩ := fDef_ok (p := ("is_bell", none)) (q := "is_bell") (nm := "is_bell") (qn := "is_bell") (ar := defArgs s_is_bell) (bd := defBody s_is_bell) (sc := defScope s_is_bell) (def_at D 4 (d := hd4) rfl) (fx_at c.more 0 4 (l := hx0) (f := fx4) rfl rfl)
  obtain ⟨oc5, od5, sl5, kV5, dc5, pm5, an5, cd5, ct5, g_l5, g_c5⟩ := fDef_ok (p := ("check_bells", none)) (q := "check_bells") (nm := "check_bells") (qn := "check_bells") (ar := defArgs s_check_bells) (bd := defBody s_check_bells) (sc := defScope s_check_bells) (def_at D 5 (d := hd5) rfl) (fx_at c.more 0 5 (l := hx0) (f := fx5) rfl rfl)
  obtain ⟨oc6, od6, sl6, kV6, dc6, pm6, an6, cd6, ct6, g_l6, g_c6⟩ := fDef_ok (p := ("is_notch", none)) (q := "is_notch") (nm := "is_notch") (qn := "is_notch") (ar := defArgs s_is_notch) (bd := defBody s_is_notch) (sc := defScope s_is_notch) (def_at D 6 (d := hd6) rfl) (fx_at c.more 0 6 (l := hx0) (f := fx6) rfl rfl)
  obtain ⟨oc7, od7, sl7, kV7, dc7, pm7, an7, cd7, ct7, g_l7, g_c7⟩ := fDef_ok (p := ("check_notches", none)) (q := "check_notches") (nm := "check_notches") (qn := "check_notches") (ar := defArgs s_check_notches) (bd := defBody s_check_notches) (sc := defScope s_check_notches) (def_at D 7 (d := hd7) rfl) (fx_at c.more 0 7 (l := hx0) (f := fx7) rfl rfl)
  obtain ⟨oc8, od8, sl8, kV8, dc8, pm8, an8, cd8, ct8, tt8, te8, cc8, dt8, nt8, st8, g_l8, g_c8, g_t8, ge8⟩ := fDef1_ok (p := ("Peal", some "__init__")) (q := "Peal.__init__") (nm := "__init__") (qn := "Peal.__init__") (ar := defArgs s_Peal___init__) (bd := defBody s_Peal___init__) (sc := defScope s_Peal___init__) (def_at D 8 (d := hd8) rfl) (fx_at c.more 0 8 (l := hx0) (f := fx8) rfl rfl)
  subst ge8
  obtain ⟨oc9, od9, sl9, kV9, dc9, pm9, an9, cd9, ct9, g_l9, g_c9⟩ := fDef_ok (p := ("check_peal", none)) (q := "check_peal") (nm := "check_peal") (qn := "check_peal") (ar := defArgs s_check_peal) (bd := defBody s_check_peal) (sc := defScope s_check_peal) (def_at D 9 (d := hd9) rfl) (fx_at c.more 0 9 (l := hx0) (f := fx9) rfl rfl)
  obtain ⟨oc10, od10, sl10, kV10, dc10, pm10, an10, cd10, ct10, g_l10, g_c10⟩ := fDef_ok (p := ("parts_in", none)) (q := "parts_in") (nm := "parts_in") (qn := "parts_in") (ar := defArgs s_parts_in) (bd := defBody s_parts_in) (sc := defScope s_parts_in) (def_at D 10 (d := hd10) rfl) (fx_at c.more 0 10 (l := hx0) (f := fx10) rfl rfl)
  obtain ⟨oc11, od11, sl11, kV11, dc11, pm11, an11, cd11, ct11, g_l11, g_c11⟩ := fDef_ok (p := ("fits_course", none)) (q := "fits_course") (nm := "fits_course") (qn := "fits_course") (ar := defArgs s_fits_course) (bd := defBody s_fits_course) (sc := defScope s_fits_course) (def_at D 11 (d := hd11) rfl) (fx_at c.more 0 11 (l := hx0) (f := fx11) rfl rfl)
  obtain ⟨oc12, od12, sl12, kV12, dc12, pm12, an12, cd12, ct12, g_l12, g_c12⟩ := fDef_ok (p := ("check_course", none)) (q := "check_course") (nm := "check_course") (qn := "check_course") (ar := defArgs s_check_course) (bd := defBody s_check_course) (sc := defScope s_check_course) (def_at D 12 (d := hd12) rfl) (fx_at c.more 0 12 (l := hx0) (f := fx12) rfl rfl)
  obtain ⟨oc13, od13, sl13, kV13, dc13, pm13, an13, cd13, ct13, g_l13, g_c13⟩ := fDef_ok (p := ("part_text", none)) (q := "part_text") (nm := "part_text") (qn := "part_text") (ar := defArgs s_part_text) (bd := defBody s_part_text) (sc := defScope s_part_text) (def_at D 13 (d := hd13) rfl) (fx_at c.more 0 13 (l := hx0) (f := fx13) rfl rfl)
  obtain ⟨oc14, od14, sl14, kV14, dc14, pm14, an14, cd14, ct14, g_l14, g_c14⟩ := fDef_ok (p := ("course_text", none)) (q := "course_text") (nm := "course_text") (qn := "course_text") (ar := defArgs s_course_text) (bd := defBody s_course_text) (sc := defScope s_course_text) (def_at D 14 (d := hd14) rfl) (fx_at c.more 0 14 (l := hx0) (f := fx14) rfl rfl)
  obtain ⟨oc15, od15, sl15, kV15, dc15, pm15, an15, cd15, ct15, g_l15, g_c15⟩ := fDef_ok (p := ("show_course", none)) (q := "show_course") (nm := "show_course") (qn := "show_course") (ar := defArgs s_show_course) (bd := defBody s_show_course) (sc := defScope s_show_course) (def_at D 15 (d := hd15) rfl) (fx_at c.more 0 15 (l := hx0) (f := fx15) rfl rfl)
  obtain ⟨oc16, od16, sl16, kV16, dc16, pm16, an16, cd16, ct16, g_l16, g_c16⟩ := fDef_ok (p := ("end_of", none)) (q := "end_of") (nm := "end_of") (qn := "end_of") (ar := defArgs s_end_of) (bd := defBody s_end_of) (sc := defScope s_end_of) (def_at D 16 (d := hd16) rfl) (fx_at c.more 0 16 (l := hx0) (f := fx16) rfl rfl)
  obtain ⟨oc17, od17, sl17, kV17, dc17, pm17, an17, cd17, ct17, g_l17, g_c17⟩ := fDef_ok (p := ("part_read", none)) (q := "part_read") (nm := "part_read") (qn := "part_read") (ar := defArgs s_part_read) (bd := defBody s_part_read) (sc := defScope s_part_read) (def_at D 17 (d := hd17) rfl) (fx_at c.more 0 17 (l := hx0) (f := fx17) rfl rfl)
  obtain ⟨oc18, od18, sl18, kV18, dc18, pm18, an18, cd18, ct18, g_l18, g_c18⟩ := fDef_ok (p := ("course_read", none)) (q := "course_read") (nm := "course_read") (qn := "course_read") (ar := defArgs s_course_read) (bd := defBody s_course_read) (sc := defScope s_course_read) (def_at D 18 (d := hd18) rfl) (fx_at c.more 0 18 (l := hx0) (f := fx18) rfl rfl)
  obtain ⟨oc19, od19, sl19, kV19, dc19, pm19, an19, cd19, ct19, g_l19, g_c19⟩ := fDef_ok (p := ("read_course", none)) (q := "read_course") (nm := "read_course") (qn := "read_course") (ar := defArgs s_read_course) (bd := defBody s_read_course) (sc := defScope s_read_course) (def_at D 19 (d := hd19) rfl) (fx_at c.more 0 19 (l := hx0) (f := fx19) rfl rfl)
  obtain ⟨oc20, od20, sl20, kV20, dc20, pm20, an20, cd20, ct20, g_l20, g_c20⟩ := fDef_ok (p := ("_law_sort", none)) (q := "_law_sort") (nm := "_law_sort") (qn := "_law_sort") (ar := defArgs s__law_sort) (bd := defBody s__law_sort) (sc := defScope s__law_sort) (def_at D 20 (d := hd20) rfl) (fx_at c.more 1 0 (l := hx1) (f := fx20) rfl rfl)
  obtain ⟨oc21, od21, sl21, kV21, dc21, pm21, an21, cd21, ct21, g_l21, g_c21⟩ := fDef_ok (p := ("_law_caught", none)) (q := "_law_caught") (nm := "_law_caught") (qn := "_law_caught") (ar := defArgs s__law_caught) (bd := defBody s__law_caught) (sc := defScope s__law_caught) (def_at D 21 (d := hd21) rfl) (fx_at c.more 1 1 (l := hx1) (f := fx21) rfl rfl)
  obtain ⟨oc22, od22, sl22, kV22, dc22, pm22, an22, cd22, ct22, g_l22, g_c22⟩ := fDef_ok (p := ("_law_opened", none)) (q := "_law_opened") (nm := "_law_opened") (qn := "_law_opened") (ar := defArgs s__law_opened) (bd := defBody s__law_opened) (sc := defScope s__law_opened) (def_at D 22 (d := hd22) rfl) (fx_at c.more 1 2 (l := hx1) (f := fx22) rfl rfl)
  obtain ⟨oc23, od23, sl23, kV23, dc23, pm23, an23, cd23, ct23, g_l23, g_c23⟩ := fDef_ok (p := ("_law_pull", none)) (q := "_law_pull") (nm := "_law_pull") (qn := "_law_pull") (ar := defArgs s__law_pull) (bd := defBody s__law_pull) (sc := defScope s__law_pull) (def_at D 23 (d := hd23) rfl) (fx_at c.more 1 3 (l := hx1) (f := fx23) rfl rfl)
  obtain ⟨oc24, od24, sl24, kV24, dc24, pm24, an24, cd24, ct24, g_l24, g_c24⟩ := fDef_ok (p := ("_law_spelt", none)) (q := "_law_spelt") (nm := "_law_spelt") (qn := "_law_spelt") (ar := defArgs s__law_spelt) (bd := defBody s__law_spelt) (sc := defScope s__law_spelt) (def_at D 24 (d := hd24) rfl) (fx_at c.more 1 4 (l := hx1) (f := fx24) rfl rfl)
  obtain ⟨oc25, od25, sl25, kV25, dc25, pm25, an25, cd25, ct25, g_l25, g_c25⟩ := fDef_ok (p := ("_law_calls", none)) (q := "_law_calls") (nm := "_law_calls") (qn := "_law_calls") (ar := defArgs s__law_calls) (bd := defBody s__law_calls) (sc := defScope s__law_calls) (def_at D 25 (d := hd25) rfl) (fx_at c.more 1 5 (l := hx1) (f := fx25) rfl rfl)
  obtain ⟨oc26, od26, sl26, kV26, dc26, pm26, an26, cd26, ct26, g_l26, g_c26⟩ := fDef_ok (p := ("_law_figure", none)) (q := "_law_figure") (nm := "_law_figure") (qn := "_law_figure") (ar := defArgs s__law_figure) (bd := defBody s__law_figure) (sc := defScope s__law_figure) (def_at D 26 (d := hd26) rfl) (fx_at c.more 1 6 (l := hx1) (f := fx26) rfl rfl)
  obtain ⟨oc27, od27, sl27, kV27, dc27, pm27, an27, cd27, ct27, g_l27, g_c27⟩ := fDef_ok (p := ("_law_kit", none)) (q := "_law_kit") (nm := "_law_kit") (qn := "_law_kit") (ar := defArgs s__law_kit) (bd := defBody s__law_kit) (sc := defScope s__law_kit) (def_at D 27 (d := hd27) rfl) (fx_at c.more 1 7 (l := hx1) (f := fx27) rfl rfl)
  obtain ⟨oc28, od28, sl28, kV28, dc28, pm28, an28, cd28, ct28, g_l28, g_c28⟩ := fDef_ok (p := ("_law_tune", none)) (q := "_law_tune") (nm := "_law_tune") (qn := "_law_tune") (ar := defArgs s__law_tune) (bd := defBody s__law_tune) (sc := defScope s__law_tune) (def_at D 28 (d := hd28) rfl) (fx_at c.more 1 8 (l := hx1) (f := fx28) rfl rfl)
  obtain ⟨oc29, od29, sl29, kV29, dc29, pm29, an29, cd29, ct29, g_l29, g_c29⟩ := fDef_ok (p := ("_law_same", none)) (q := "_law_same") (nm := "_law_same") (qn := "_law_same") (ar := defArgs s__law_same) (bd := defBody s__law_same) (sc := defScope s__law_same) (def_at D 29 (d := hd29) rfl) (fx_at c.more 1 9 (l := hx1) (f := fx29) rfl rfl)
  obtain ⟨oc30, od30, sl30, kV30, dc30, pm30, an30, cd30, ct30, g_l30, g_c30⟩ := fDef_ok (p := ("_law_text_of", none)) (q := "_law_text_of") (nm := "_law_text_of") (qn := "_law_text_of") (ar := defArgs s__law_text_of) (bd := defBody s__law_text_of) (sc := defScope s__law_text_of) (def_at D 30 (d := hd30) rfl) (fx_at c.more 1 10 (l := hx1) (f := fx30) rfl rfl)
  obtain ⟨oc31, od31, sl31, kV31, dc31, pm31, an31, cd31, ct31, g_l31, g_c31⟩ := fDef_ok (p := ("_law_one_right", none)) (q := "_law_one_right") (nm := "_law_one_right") (qn := "_law_one_right") (ar := defArgs s__law_one_right) (bd := defBody s__law_one_right) (sc := defScope s__law_one_right) (def_at D 31 (d := hd31) rfl) (fx_at c.more 1 11 (l := hx1) (f := fx31) rfl rfl)
  obtain ⟨oc32, od32, sl32, kV32, dc32, pm32, an32, cd32, ct32, g_l32, g_c32⟩ := fDef_ok (p := ("_law_deep", none)) (q := "_law_deep") (nm := "_law_deep") (qn := "_law_deep") (ar := defArgs s__law_deep) (bd := defBody s__law_deep) (sc := defScope s__law_deep) (def_at D 32 (d := hd32) rfl) (fx_at c.more 1 12 (l := hx1) (f := fx32) rfl rfl)
  obtain ⟨oc33, od33, sl33, kV33, dc33, pm33, an33, cd33, ct33, g_l33, g_c33⟩ := fDef_ok (p := ("_law_right", none)) (q := "_law_right") (nm := "_law_right") (qn := "_law_right") (ar := defArgs s__law_right) (bd := defBody s__law_right) (sc := defScope s__law_right) (def_at D 33 (d := hd33) rfl) (fx_at c.more 1 13 (l := hx1) (f := fx33) rfl rfl)
  obtain ⟨oc34, od34, sl34, kV34, dc34, pm34, an34, cd34, ct34, g_l34, g_c34⟩ := fDef_ok (p := ("law", none)) (q := "law") (nm := "law") (qn := "law") (ar := defArgs s_law) (bd := defBody s_law) (sc := defScope s_law) (def_at D 34 (d := hd34) rfl) (fx_at c.more 1 14 (l := hx1) (f := fx34) rfl rfl)
  obtain rfl := code_ref (p := ("_law_one_right", none)) g_l31 g_c31
  obtain ⟨dC31, vC31, sC31, g_lk31, g_pv31⟩ := fCT_ok (p := ("_law_one_right", none)) (fx_at c.more 1 15 (l := hx1) (f := fx35) rfl rfl)
  have g_hd31 := c.hd ("_law_one_right", none) (by decide)
  have g_nT31 := c.out ("_law_one_right", none) (by decide)
  have g_te31 := c.empty ("_law_one_right", none) (by decide)
  have g_gc_Peal : PySem.W.nsIn K mainGlobals "Peal" = some (some (.ref (He.ga K "Peal"))) := He.eqO_ok (fx_at c.more 1 16 (l := hx1) (f := fx36) rfl rfl)
  have g_p1_Peal : PySem.W.plainGet K (He.ga K "Peal") Str.empty = true := (fx_at c.more 1 17 (l := hx1) (f := fx37) rfl rfl)
  have g_p2_Peal : PySem.W.hasDictIn K (He.ga K "Peal") = true := (fx_at c.more 1 18 (l := hx1) (f := fx38) rfl rfl)
  have g_p3_Peal : PySem.W.plainOver K (He.ga K "Peal") = true := (fx_at c.more 1 19 (l := hx1) (f := fx39) rfl rfl)
  have g_p4_Peal : PySem.W.findIn K (.ref (He.ga K "Peal")) "__setattr__" = some (some (.builtin "object.__setattr__")) := He.eqO_ok (fx_at c.more 2 0 (l := hx2) (f := fx40) rfl rfl)
  have g_p5_Peal : PySem.W.makesIn K (He.ga K "Peal") = true := (fx_at c.more 2 1 (l := hx2) (f := fx41) rfl rfl)
  have g_p6_Peal : PySem.W.keepIn K (.ref (He.ga K "Peal")) = true := (fx_at c.more 2 2 (l := hx2) (f := fx42) rfl rfl)
  have g_p7_Peal : PySem.W.findIn K (.ref (He.ga K "Peal")) "__class__" = some (some (.builtin "object.__class__")) := He.eqO_ok (fx_at c.more 2 3 (l := hx2) (f := fx43) rfl rfl)
  have g_p8_Peal : PySem.W.specialIn K (.builtin "object.__class__") "__get__" = some (some (.builtin "getset_descriptor.__get__")) := He.eqO_ok (fx_at c.more 2 4 (l := hx2) (f := fx44) rfl rfl)
  have g_p9_Peal : PySem.W.takesIn K (.builtin "object.__class__") = some true := of_decide_eq_true (fx_at c.more 2 5 (l := hx2) (f := fx45) rfl rfl)
  have g_pa_Peal : PySem.W.mroIn K (He.ga K "Peal") (.type "object") = some true := of_decide_eq_true (fx_at c.more 2 6 (l := hx2) (f := fx46) rfl rfl)
  have g_n_Peal_bells : PySem.W.findIn K (.ref (He.ga K "Peal")) "bells" = some none := He.eqO_ok (fx_at c.more 2 7 (l := hx2) (f := fx47) rfl rfl)
  have g_n_Peal_notches : PySem.W.findIn K (.ref (He.ga K "Peal")) "notches" = some none := He.eqO_ok (fx_at c.more 2 8 (l := hx2) (f := fx48) rfl rfl)
  have g_n_Peal_sizes : PySem.W.findIn K (.ref (He.ga K "Peal")) "sizes" = some none := He.eqO_ok (fx_at c.more 2 9 (l := hx2) (f := fx49) rfl rfl)
  have g_n_Peal_turning : PySem.W.findIn K (.ref (He.ga K "Peal")) "turning" = some none := He.eqO_ok (fx_at c.more 2 10 (l := hx2) (f := fx50) rfl rfl)
  have g_gc_NoPeal : PySem.W.nsIn K mainGlobals "NoPeal" = some (some (.ref (He.ga K "NoPeal"))) := He.eqO_ok (fx_at c.more 2 11 (l := hx2) (f := fx51) rfl rfl)
  have g_gc_NoBells : PySem.W.nsIn K mainGlobals "NoBells" = some (some (.ref (He.ga K "NoBells"))) := He.eqO_ok (fx_at c.more 2 12 (l := hx2) (f := fx52) rfl rfl)
  have g_gc_NoNotches : PySem.W.nsIn K mainGlobals "NoNotches" = some (some (.ref (He.ga K "NoNotches"))) := He.eqO_ok (fx_at c.more 2 13 (l := hx2) (f := fx53) rfl rfl)
  have g_gc_NoText : PySem.W.nsIn K mainGlobals "NoText" = some (some (.ref (He.ga K "NoText"))) := He.eqO_ok (fx_at c.more 2 14 (l := hx2) (f := fx54) rfl rfl)
  have g_gc_NoStanding : PySem.W.nsIn K mainGlobals "NoStanding" = some (some (.ref (He.ga K "NoStanding"))) := He.eqO_ok (fx_at c.more 2 15 (l := hx2) (f := fx55) rfl rfl)
  have g_gc_NoRow : PySem.W.nsIn K mainGlobals "NoRow" = some (some (.ref (He.ga K "NoRow"))) := He.eqO_ok (fx_at c.more 2 16 (l := hx2) (f := fx56) rfl rfl)
  have g_gc_NoDials : PySem.W.nsIn K mainGlobals "NoDials" = some (some (.ref (He.ga K "NoDials"))) := He.eqO_ok (fx_at c.more 2 17 (l := hx2) (f := fx57) rfl rfl)
  have g_gc_NoRings : PySem.W.nsIn K mainGlobals "NoRings" = some (some (.ref (He.ga K "NoRings"))) := He.eqO_ok (fx_at c.more 2 18 (l := hx2) (f := fx58) rfl rfl)
  have g_gc_NoCourse : PySem.W.nsIn K mainGlobals "NoCourse" = some (some (.ref (He.ga K "NoCourse"))) := He.eqO_ok (fx_at c.more 2 19 (l := hx2) (f := fx59) rfl rfl)
  have g_gc_NoNumber : PySem.W.nsIn K mainGlobals "NoNumber" = some (some (.ref (He.ga K "NoNumber"))) := He.eqO_ok (fx_at c.more 3 0 (l := hx3) (f := fx60) rfl rfl)
  have g_gc_NoModuli : PySem.W.nsIn K mainGlobals "NoModuli" = some (some (.ref (He.ga K "NoModuli"))) := He.eqO_ok (fx_at c.more 3 1 (l := hx3) (f := fx61) rfl rfl)
  have g_gc_NoVectors : PySem.W.nsIn K mainGlobals "NoVectors" = some (some (.ref (He.ga K "NoVectors"))) := He.eqO_ok (fx_at c.more 3 2 (l := hx3) (f := fx62) rfl rfl)
  have g_gc_NoVector : PySem.W.nsIn K mainGlobals "NoVector" = some (some (.ref (He.ga K "NoVector"))) := He.eqO_ok (fx_at c.more 3 3 (l := hx3) (f := fx63) rfl rfl)
  have g_gc_NoWeights : PySem.W.nsIn K mainGlobals "NoWeights" = some (some (.ref (He.ga K "NoWeights"))) := He.eqO_ok (fx_at c.more 3 4 (l := hx3) (f := fx64) rfl rfl)
  have g_gc_NoTruth : PySem.W.nsIn K mainGlobals "NoTruth" = some (some (.ref (He.ga K "NoTruth"))) := He.eqO_ok (fx_at c.more 3 5 (l := hx3) (f := fx65) rfl rfl)
  have g_gc_NoHistories : PySem.W.nsIn K mainGlobals "NoHistories" = some (some (.ref (He.ga K "NoHistories"))) := He.eqO_ok (fx_at c.more 3 6 (l := hx3) (f := fx66) rfl rfl)
  have g_gc_NoDeed : PySem.W.nsIn K mainGlobals "NoDeed" = some (some (.ref (He.ga K "NoDeed"))) := He.eqO_ok (fx_at c.more 3 7 (l := hx3) (f := fx67) rfl rfl)
  have g_gc_NoLog : PySem.W.nsIn K mainGlobals "NoLog" = some (some (.ref (He.ga K "NoLog"))) := He.eqO_ok (fx_at c.more 3 8 (l := hx3) (f := fx68) rfl rfl)
  have g_gc_NoSay : PySem.W.nsIn K mainGlobals "NoSay" = some (some (.ref (He.ga K "NoSay"))) := He.eqO_ok (fx_at c.more 3 9 (l := hx3) (f := fx69) rfl rfl)
  have g_gc_NoName : PySem.W.nsIn K mainGlobals "NoName" = some (some (.ref (He.ga K "NoName"))) := He.eqO_ok (fx_at c.more 3 10 (l := hx3) (f := fx70) rfl rfl)
  have g_gc_NoPlace : PySem.W.nsIn K mainGlobals "NoPlace" = some (some (.ref (He.ga K "NoPlace"))) := He.eqO_ok (fx_at c.more 3 11 (l := hx3) (f := fx71) rfl rfl)
  have g_gc_NoBack : PySem.W.nsIn K mainGlobals "NoBack" = some (some (.ref (He.ga K "NoBack"))) := He.eqO_ok (fx_at c.more 3 12 (l := hx3) (f := fx72) rfl rfl)
  have g_gc_TooMany : PySem.W.nsIn K mainGlobals "TooMany" = some (some (.ref (He.ga K "TooMany"))) := He.eqO_ok (fx_at c.more 3 13 (l := hx3) (f := fx73) rfl rfl)
  have g_gc_BellError : PySem.W.nsIn K mainGlobals "BellError" = some (some (.ref (He.ga K "BellError"))) := He.eqO_ok (fx_at c.more 3 14 (l := hx3) (f := fx74) rfl rfl)
  have g_gc_LostError : PySem.W.nsIn K mainGlobals "LostError" = some (some (.ref (He.ga K "LostError"))) := He.eqO_ok (fx_at c.more 3 15 (l := hx3) (f := fx75) rfl rfl)
  have g_gc_GreatError : PySem.W.nsIn K mainGlobals "GreatError" = some (some (.ref (He.ga K "GreatError"))) := He.eqO_ok (fx_at c.more 3 16 (l := hx3) (f := fx76) rfl rfl)
  have g_sB_BellError : PySem.W.subIn K (.ref (He.ga K "BellError")) (.type "BaseException") = some true := of_decide_eq_true (fx_at c.more 3 17 (l := hx3) (f := fx77) rfl rfl)
  have g_hD_BellError : PySem.W.hasDictIn K (He.ga K "BellError") = true := (fx_at c.more 3 18 (l := hx3) (f := fx78) rfl rfl)
  have g_tY_BellError : PySem.W.typeIn K (.ref (He.ga K "BellError")) = some (.type "type") := of_decide_eq_true (fx_at c.more 3 19 (l := hx3) (f := fx79) rfl rfl)
  have g_sU_NoText_BellError : PySem.W.subIn K (.ref (He.ga K "NoText")) (.ref (He.ga K "BellError")) = some true := of_decide_eq_true (fx_at c.more 4 0 (l := hx4) (f := fx80) rfl rfl)
  have g_sB_LostError : PySem.W.subIn K (.ref (He.ga K "LostError")) (.type "BaseException") = some true := of_decide_eq_true (fx_at c.more 4 1 (l := hx4) (f := fx81) rfl rfl)
  have g_hD_LostError : PySem.W.hasDictIn K (He.ga K "LostError") = true := (fx_at c.more 4 2 (l := hx4) (f := fx82) rfl rfl)
  have g_tY_LostError : PySem.W.typeIn K (.ref (He.ga K "LostError")) = some (.type "type") := of_decide_eq_true (fx_at c.more 4 3 (l := hx4) (f := fx83) rfl rfl)
  have g_sU_NoText_LostError : PySem.W.subIn K (.ref (He.ga K "NoText")) (.ref (He.ga K "LostError")) = some false := of_decide_eq_true (fx_at c.more 4 4 (l := hx4) (f := fx84) rfl rfl)
  have g_sB_GreatError : PySem.W.subIn K (.ref (He.ga K "GreatError")) (.type "BaseException") = some true := of_decide_eq_true (fx_at c.more 4 5 (l := hx4) (f := fx85) rfl rfl)
  have g_hD_GreatError : PySem.W.hasDictIn K (He.ga K "GreatError") = true := (fx_at c.more 4 6 (l := hx4) (f := fx86) rfl rfl)
  have g_tY_GreatError : PySem.W.typeIn K (.ref (He.ga K "GreatError")) = some (.type "type") := of_decide_eq_true (fx_at c.more 4 7 (l := hx4) (f := fx87) rfl rfl)
  have g_sU_NoText_GreatError : PySem.W.subIn K (.ref (He.ga K "NoText")) (.ref (He.ga K "GreatError")) = some false := of_decide_eq_true (fx_at c.more 4 8 (l := hx4) (f := fx88) rfl rfl)
  have g_gA_NoText : PySem.W.findIn K (.ref (He.ga K "NoText")) "__getattribute__" = some (some (.builtin "BaseException.__getattribute__")) := He.eqO_ok (fx_at c.more 4 9 (l := hx4) (f := fx89) rfl rfl)
  have g_gG_NoText : PySem.W.findIn K (.ref (He.ga K "NoText")) "__getattr__" = some none := He.eqO_ok (fx_at c.more 4 10 (l := hx4) (f := fx90) rfl rfl)
  have g_sB_NoText : PySem.W.subIn K (.ref (He.ga K "NoText")) (.type "BaseException") = some true := of_decide_eq_true (fx_at c.more 4 11 (l := hx4) (f := fx91) rfl rfl)
  have g_hD_NoText : PySem.W.hasDictIn K (He.ga K "NoText") = true := (fx_at c.more 4 12 (l := hx4) (f := fx92) rfl rfl)
  have g_cC_NoText : PySem.W.findIn K (.ref (He.ga K "NoText")) "__class__" = some (some (.builtin "object.__class__")) := He.eqO_ok (fx_at c.more 4 13 (l := hx4) (f := fx93) rfl rfl)
  have g_cN : PySem.W.specialIn K (.builtin "object.__class__") "__get__" = some (some (.builtin "getset_descriptor.__get__")) := He.eqO_ok (fx_at c.more 4 14 (l := hx4) (f := fx94) rfl rfl)
  have g_cT : PySem.W.takesIn K (.builtin "object.__class__") = some true := of_decide_eq_true (fx_at c.more 4 15 (l := hx4) (f := fx95) rfl rfl)
  have g_cM_NoText : PySem.W.mroIn K (He.ga K "NoText") (.type "object") = some true := of_decide_eq_true (fx_at c.more 4 16 (l := hx4) (f := fx96) rfl rfl)
  have g_iC_NoPeal : PySem.W.isClsIn K (He.ga K "NoPeal") = true := (fx_at c.more 4 17 (l := hx4) (f := fx97) rfl rfl)
  have g_tY_NoPeal : PySem.W.typeIn K (.ref (He.ga K "NoPeal")) = some (.type "type") := of_decide_eq_true (fx_at c.more 4 18 (l := hx4) (f := fx98) rfl rfl)
  have g_sU_NoText_NoText : PySem.W.subIn K (.ref (He.ga K "NoText")) (.ref (He.ga K "NoText")) = some true := of_decide_eq_true (fx_at c.more 4 19 (l := hx4) (f := fx99) rfl rfl)
  have g_sU_NoText_NoPeal : PySem.W.subIn K (.ref (He.ga K "NoText")) (.ref (He.ga K "NoPeal")) = some false := of_decide_eq_true (fx_at c.more 5 0 (l := hx5) (f := fx100) rfl rfl)
  have g_iC_NoBells : PySem.W.isClsIn K (He.ga K "NoBells") = true := (fx_at c.more 5 1 (l := hx5) (f := fx101) rfl rfl)
  have g_tY_NoBells : PySem.W.typeIn K (.ref (He.ga K "NoBells")) = some (.type "type") := of_decide_eq_true (fx_at c.more 5 2 (l := hx5) (f := fx102) rfl rfl)
  have g_sU_NoText_NoBells : PySem.W.subIn K (.ref (He.ga K "NoText")) (.ref (He.ga K "NoBells")) = some false := of_decide_eq_true (fx_at c.more 5 3 (l := hx5) (f := fx103) rfl rfl)
  have g_iC_NoNotches : PySem.W.isClsIn K (He.ga K "NoNotches") = true := (fx_at c.more 5 4 (l := hx5) (f := fx104) rfl rfl)
  have g_tY_NoNotches : PySem.W.typeIn K (.ref (He.ga K "NoNotches")) = some (.type "type") := of_decide_eq_true (fx_at c.more 5 5 (l := hx5) (f := fx105) rfl rfl)
  have g_sU_NoText_NoNotches : PySem.W.subIn K (.ref (He.ga K "NoText")) (.ref (He.ga K "NoNotches")) = some false := of_decide_eq_true (fx_at c.more 5 6 (l := hx5) (f := fx106) rfl rfl)
  have g_iC_NoStanding : PySem.W.isClsIn K (He.ga K "NoStanding") = true := (fx_at c.more 5 7 (l := hx5) (f := fx107) rfl rfl)
  have g_tY_NoStanding : PySem.W.typeIn K (.ref (He.ga K "NoStanding")) = some (.type "type") := of_decide_eq_true (fx_at c.more 5 8 (l := hx5) (f := fx108) rfl rfl)
  have g_sU_NoText_NoStanding : PySem.W.subIn K (.ref (He.ga K "NoText")) (.ref (He.ga K "NoStanding")) = some false := of_decide_eq_true (fx_at c.more 5 9 (l := hx5) (f := fx109) rfl rfl)
  have g_iC_NoRow : PySem.W.isClsIn K (He.ga K "NoRow") = true := (fx_at c.more 5 10 (l := hx5) (f := fx110) rfl rfl)
  have g_tY_NoRow : PySem.W.typeIn K (.ref (He.ga K "NoRow")) = some (.type "type") := of_decide_eq_true (fx_at c.more 5 11 (l := hx5) (f := fx111) rfl rfl)
  have g_sU_NoText_NoRow : PySem.W.subIn K (.ref (He.ga K "NoText")) (.ref (He.ga K "NoRow")) = some false := of_decide_eq_true (fx_at c.more 5 12 (l := hx5) (f := fx112) rfl rfl)
  have g_iC_NoDials : PySem.W.isClsIn K (He.ga K "NoDials") = true := (fx_at c.more 5 13 (l := hx5) (f := fx113) rfl rfl)
  have g_tY_NoDials : PySem.W.typeIn K (.ref (He.ga K "NoDials")) = some (.type "type") := of_decide_eq_true (fx_at c.more 5 14 (l := hx5) (f := fx114) rfl rfl)
  have g_sU_NoText_NoDials : PySem.W.subIn K (.ref (He.ga K "NoText")) (.ref (He.ga K "NoDials")) = some false := of_decide_eq_true (fx_at c.more 5 15 (l := hx5) (f := fx115) rfl rfl)
  have g_iC_NoRings : PySem.W.isClsIn K (He.ga K "NoRings") = true := (fx_at c.more 5 16 (l := hx5) (f := fx116) rfl rfl)
  have g_tY_NoRings : PySem.W.typeIn K (.ref (He.ga K "NoRings")) = some (.type "type") := of_decide_eq_true (fx_at c.more 5 17 (l := hx5) (f := fx117) rfl rfl)
  have g_sU_NoText_NoRings : PySem.W.subIn K (.ref (He.ga K "NoText")) (.ref (He.ga K "NoRings")) = some false := of_decide_eq_true (fx_at c.more 5 18 (l := hx5) (f := fx118) rfl rfl)
  have g_iC_NoCourse : PySem.W.isClsIn K (He.ga K "NoCourse") = true := (fx_at c.more 5 19 (l := hx5) (f := fx119) rfl rfl)
  have g_tY_NoCourse : PySem.W.typeIn K (.ref (He.ga K "NoCourse")) = some (.type "type") := of_decide_eq_true (fx_at c.more 6 0 (l := hx6) (f := fx120) rfl rfl)
  have g_sU_NoText_NoCourse : PySem.W.subIn K (.ref (He.ga K "NoText")) (.ref (He.ga K "NoCourse")) = some false := of_decide_eq_true (fx_at c.more 6 1 (l := hx6) (f := fx121) rfl rfl)
  have g_iC_NoNumber : PySem.W.isClsIn K (He.ga K "NoNumber") = true := (fx_at c.more 6 2 (l := hx6) (f := fx122) rfl rfl)
  have g_tY_NoNumber : PySem.W.typeIn K (.ref (He.ga K "NoNumber")) = some (.type "type") := of_decide_eq_true (fx_at c.more 6 3 (l := hx6) (f := fx123) rfl rfl)
  have g_sU_NoText_NoNumber : PySem.W.subIn K (.ref (He.ga K "NoText")) (.ref (He.ga K "NoNumber")) = some false := of_decide_eq_true (fx_at c.more 6 4 (l := hx6) (f := fx124) rfl rfl)
  have g_iC_NoModuli : PySem.W.isClsIn K (He.ga K "NoModuli") = true := (fx_at c.more 6 5 (l := hx6) (f := fx125) rfl rfl)
  have g_tY_NoModuli : PySem.W.typeIn K (.ref (He.ga K "NoModuli")) = some (.type "type") := of_decide_eq_true (fx_at c.more 6 6 (l := hx6) (f := fx126) rfl rfl)
  have g_sU_NoText_NoModuli : PySem.W.subIn K (.ref (He.ga K "NoText")) (.ref (He.ga K "NoModuli")) = some false := of_decide_eq_true (fx_at c.more 6 7 (l := hx6) (f := fx127) rfl rfl)
  have g_iC_NoVectors : PySem.W.isClsIn K (He.ga K "NoVectors") = true := (fx_at c.more 6 8 (l := hx6) (f := fx128) rfl rfl)
  have g_tY_NoVectors : PySem.W.typeIn K (.ref (He.ga K "NoVectors")) = some (.type "type") := of_decide_eq_true (fx_at c.more 6 9 (l := hx6) (f := fx129) rfl rfl)
  have g_sU_NoText_NoVectors : PySem.W.subIn K (.ref (He.ga K "NoText")) (.ref (He.ga K "NoVectors")) = some false := of_decide_eq_true (fx_at c.more 6 10 (l := hx6) (f := fx130) rfl rfl)
  have g_iC_NoVector : PySem.W.isClsIn K (He.ga K "NoVector") = true := (fx_at c.more 6 11 (l := hx6) (f := fx131) rfl rfl)
  have g_tY_NoVector : PySem.W.typeIn K (.ref (He.ga K "NoVector")) = some (.type "type") := of_decide_eq_true (fx_at c.more 6 12 (l := hx6) (f := fx132) rfl rfl)
  have g_sU_NoText_NoVector : PySem.W.subIn K (.ref (He.ga K "NoText")) (.ref (He.ga K "NoVector")) = some false := of_decide_eq_true (fx_at c.more 6 13 (l := hx6) (f := fx133) rfl rfl)
  have g_iC_NoWeights : PySem.W.isClsIn K (He.ga K "NoWeights") = true := (fx_at c.more 6 14 (l := hx6) (f := fx134) rfl rfl)
  have g_tY_NoWeights : PySem.W.typeIn K (.ref (He.ga K "NoWeights")) = some (.type "type") := of_decide_eq_true (fx_at c.more 6 15 (l := hx6) (f := fx135) rfl rfl)
  have g_sU_NoText_NoWeights : PySem.W.subIn K (.ref (He.ga K "NoText")) (.ref (He.ga K "NoWeights")) = some false := of_decide_eq_true (fx_at c.more 6 16 (l := hx6) (f := fx136) rfl rfl)
  have g_iC_NoTruth : PySem.W.isClsIn K (He.ga K "NoTruth") = true := (fx_at c.more 6 17 (l := hx6) (f := fx137) rfl rfl)
  have g_tY_NoTruth : PySem.W.typeIn K (.ref (He.ga K "NoTruth")) = some (.type "type") := of_decide_eq_true (fx_at c.more 6 18 (l := hx6) (f := fx138) rfl rfl)
  have g_sU_NoText_NoTruth : PySem.W.subIn K (.ref (He.ga K "NoText")) (.ref (He.ga K "NoTruth")) = some false := of_decide_eq_true (fx_at c.more 6 19 (l := hx6) (f := fx139) rfl rfl)
  have g_iC_NoHistories : PySem.W.isClsIn K (He.ga K "NoHistories") = true := (fx_at c.more 7 0 (l := hx7) (f := fx140) rfl rfl)
  have g_tY_NoHistories : PySem.W.typeIn K (.ref (He.ga K "NoHistories")) = some (.type "type") := of_decide_eq_true (fx_at c.more 7 1 (l := hx7) (f := fx141) rfl rfl)
  have g_sU_NoText_NoHistories : PySem.W.subIn K (.ref (He.ga K "NoText")) (.ref (He.ga K "NoHistories")) = some false := of_decide_eq_true (fx_at c.more 7 2 (l := hx7) (f := fx142) rfl rfl)
  have g_iC_NoDeed : PySem.W.isClsIn K (He.ga K "NoDeed") = true := (fx_at c.more 7 3 (l := hx7) (f := fx143) rfl rfl)
  have g_tY_NoDeed : PySem.W.typeIn K (.ref (He.ga K "NoDeed")) = some (.type "type") := of_decide_eq_true (fx_at c.more 7 4 (l := hx7) (f := fx144) rfl rfl)
  have g_sU_NoText_NoDeed : PySem.W.subIn K (.ref (He.ga K "NoText")) (.ref (He.ga K "NoDeed")) = some false := of_decide_eq_true (fx_at c.more 7 5 (l := hx7) (f := fx145) rfl rfl)
  have g_iC_NoLog : PySem.W.isClsIn K (He.ga K "NoLog") = true := (fx_at c.more 7 6 (l := hx7) (f := fx146) rfl rfl)
  have g_tY_NoLog : PySem.W.typeIn K (.ref (He.ga K "NoLog")) = some (.type "type") := of_decide_eq_true (fx_at c.more 7 7 (l := hx7) (f := fx147) rfl rfl)
  have g_sU_NoText_NoLog : PySem.W.subIn K (.ref (He.ga K "NoText")) (.ref (He.ga K "NoLog")) = some false := of_decide_eq_true (fx_at c.more 7 8 (l := hx7) (f := fx148) rfl rfl)
  have g_iC_NoSay : PySem.W.isClsIn K (He.ga K "NoSay") = true := (fx_at c.more 7 9 (l := hx7) (f := fx149) rfl rfl)
  have g_tY_NoSay : PySem.W.typeIn K (.ref (He.ga K "NoSay")) = some (.type "type") := of_decide_eq_true (fx_at c.more 7 10 (l := hx7) (f := fx150) rfl rfl)
  have g_sU_NoText_NoSay : PySem.W.subIn K (.ref (He.ga K "NoText")) (.ref (He.ga K "NoSay")) = some false := of_decide_eq_true (fx_at c.more 7 11 (l := hx7) (f := fx151) rfl rfl)
  have g_iC_NoName : PySem.W.isClsIn K (He.ga K "NoName") = true := (fx_at c.more 7 12 (l := hx7) (f := fx152) rfl rfl)
  have g_tY_NoName : PySem.W.typeIn K (.ref (He.ga K "NoName")) = some (.type "type") := of_decide_eq_true (fx_at c.more 7 13 (l := hx7) (f := fx153) rfl rfl)
  have g_sU_NoText_NoName : PySem.W.subIn K (.ref (He.ga K "NoText")) (.ref (He.ga K "NoName")) = some false := of_decide_eq_true (fx_at c.more 7 14 (l := hx7) (f := fx154) rfl rfl)
  have g_iC_NoPlace : PySem.W.isClsIn K (He.ga K "NoPlace") = true := (fx_at c.more 7 15 (l := hx7) (f := fx155) rfl rfl)
  have g_tY_NoPlace : PySem.W.typeIn K (.ref (He.ga K "NoPlace")) = some (.type "type") := of_decide_eq_true (fx_at c.more 7 16 (l := hx7) (f := fx156) rfl rfl)
  have g_sU_NoText_NoPlace : PySem.W.subIn K (.ref (He.ga K "NoText")) (.ref (He.ga K "NoPlace")) = some false := of_decide_eq_true (fx_at c.more 7 17 (l := hx7) (f := fx157) rfl rfl)
  have g_iC_NoBack : PySem.W.isClsIn K (He.ga K "NoBack") = true := (fx_at c.more 7 18 (l := hx7) (f := fx158) rfl rfl)
  have g_tY_NoBack : PySem.W.typeIn K (.ref (He.ga K "NoBack")) = some (.type "type") := of_decide_eq_true (fx_at c.more 7 19 (l := hx7) (f := fx159) rfl rfl)
  have g_sU_NoText_NoBack : PySem.W.subIn K (.ref (He.ga K "NoText")) (.ref (He.ga K "NoBack")) = some false := of_decide_eq_true (fx_at c.more 8 0 (l := hx8) (f := fx160) rfl rfl)
  have g_iC_TooMany : PySem.W.isClsIn K (He.ga K "TooMany") = true := (fx_at c.more 8 1 (l := hx8) (f := fx161) rfl rfl)
  have g_tY_TooMany : PySem.W.typeIn K (.ref (He.ga K "TooMany")) = some (.type "type") := of_decide_eq_true (fx_at c.more 8 2 (l := hx8) (f := fx162) rfl rfl)
  have g_sU_NoText_TooMany : PySem.W.subIn K (.ref (He.ga K "NoText")) (.ref (He.ga K "TooMany")) = some false := of_decide_eq_true (fx_at c.more 8 3 (l := hx8) (f := fx163) rfl rfl)
  have g_iC_BellError : PySem.W.isClsIn K (He.ga K "BellError") = true := (fx_at c.more 8 4 (l := hx8) (f := fx164) rfl rfl)
  have g_iC_LostError : PySem.W.isClsIn K (He.ga K "LostError") = true := (fx_at c.more 8 5 (l := hx8) (f := fx165) rfl rfl)
  have g_iC_GreatError : PySem.W.isClsIn K (He.ga K "GreatError") = true := (fx_at c.more 8 6 (l := hx8) (f := fx166) rfl rfl)
  have g_sU_NoText_ValueError : PySem.W.subIn K (.ref (He.ga K "NoText")) (.type "ValueError") = some true := of_decide_eq_true (fx_at c.more 8 7 (l := hx8) (f := fx167) rfl rfl)
  have g_sU_NoText_LookupError : PySem.W.subIn K (.ref (He.ga K "NoText")) (.type "LookupError") = some false := of_decide_eq_true (fx_at c.more 8 8 (l := hx8) (f := fx168) rfl rfl)
  have g_sU_NoText_ArithmeticError : PySem.W.subIn K (.ref (He.ga K "NoText")) (.type "ArithmeticError") = some false := of_decide_eq_true (fx_at c.more 8 9 (l := hx8) (f := fx169) rfl rfl)
  have g_nF_NoText : PySem.W.findIn K (.ref (He.ga K "NoText")) "row" = some none := He.eqO_ok (fx_at c.more 8 10 (l := hx8) (f := fx170) rfl rfl)
  obtain ⟨_, _, _, _, _, _, _, _, _, _, _, _, _, _, g_xL_NoText⟩ := fExc_ok (C := fun K => (He.ga K "NoText")) (mro := fun K => [.ref (He.ga K "BellError"), .type "ValueError", .type "Exception", .type "BaseException", .type "object"]) (newId := "ValueError.__new__") (fx_at c.more 8 11 (l := hx8) (f := fx171) rfl rfl)
  have g_sA_NoText : PySem.W.findIn K (.ref (He.ga K "NoText")) "__setattr__" = some (some (.builtin "object.__setattr__")) := He.eqO_ok (fx_at c.more 8 12 (l := hx8) (f := fx172) rfl rfl)
  have g_tY_NoText : PySem.W.typeIn K (.ref (He.ga K "NoText")) = some (.type "type") := of_decide_eq_true (fx_at c.more 8 13 (l := hx8) (f := fx173) rfl rfl)
  have g_kP_NoText : PySem.W.keepIn K (.ref (He.ga K "NoText")) = true := (fx_at c.more 8 14 (l := hx8) (f := fx174) rfl rfl)
  have g_bS_BellError : PySem.W.specialIn K (.ref (He.ga K "BellError")) "__getattribute__" = some (some (.builtin "type.__getattribute__")) := He.eqO_ok (fx_at c.more 8 15 (l := hx8) (f := fx175) rfl rfl)
  have g_bR_BellError : PySem.W.readsIn K (He.ga K "BellError") (.type "type") = true := (fx_at c.more 8 16 (l := hx8) (f := fx176) rfl rfl)
  have g_bF_BellError : PySem.W.findCls K (.ref (He.ga K "BellError")) (.type "type") "__init__" = some (.val (.builtin "ValueError.__init__")) := fCls_ok (C := fun K => (.ref (He.ga K "BellError"))) (M := fun K => (.type "type")) (fx_at c.more 8 17 (l := hx8) (f := fx177) rfl rfl)
  have g_a0 : PySem.W.findIn K (.ref (He.ga K "NoText")) "__init__" = some (some (.ref (He.fAd K ("NoText", some "__init__")))) := He.eqO_ok (fx_at c.more 8 18 (l := hx8) (f := fx178) rfl rfl)
  have g_t0 : PySem.W.typeIn K (.ref (He.fAd K ("NoText", some "__init__"))) = some (.type "function") := of_decide_eq_true (fx_at c.more 8 19 (l := hx8) (f := fx179) rfl rfl)
  have g_k0 : PySem.W.keepIn K (.ref (He.fAd K ("NoText", some "__init__"))) = true := (fx_at c.more 9 0 (l := hx9) (f := fx180) rfl rfl)
  have g_a1 : PySem.W.nsIn K mainGlobals "is_whole" = some (some (.ref (He.fAd K ("is_whole", none)))) := He.eqO_ok (fx_at c.more 9 1 (l := hx9) (f := fx181) rfl rfl)
  have g_k1 : PySem.W.keepIn K (.ref (He.fAd K ("is_whole", none))) = true := (fx_at c.more 9 2 (l := hx9) (f := fx182) rfl rfl)
  have g_a2 : PySem.W.nsIn K mainGlobals "is_within" = some (some (.ref (He.fAd K ("is_within", none)))) := He.eqO_ok (fx_at c.more 9 3 (l := hx9) (f := fx183) rfl rfl)
  have g_k2 : PySem.W.keepIn K (.ref (He.fAd K ("is_within", none))) = true := (fx_at c.more 9 4 (l := hx9) (f := fx184) rfl rfl)
  have g_a3 : PySem.W.nsIn K mainGlobals "is_name" = some (some (.ref (He.fAd K ("is_name", none)))) := He.eqO_ok (fx_at c.more 9 5 (l := hx9) (f := fx185) rfl rfl)
  have g_k3 : PySem.W.keepIn K (.ref (He.fAd K ("is_name", none))) = true := (fx_at c.more 9 6 (l := hx9) (f := fx186) rfl rfl)
  have g_a4 : PySem.W.nsIn K mainGlobals "is_bell" = some (some (.ref (He.fAd K ("is_bell", none)))) := He.eqO_ok (fx_at c.more 9 7 (l := hx9) (f := fx187) rfl rfl)
  have g_k4 : PySem.W.keepIn K (.ref (He.fAd K ("is_bell", none))) = true := (fx_at c.more 9 8 (l := hx9) (f := fx188) rfl rfl)
  have g_a5 : PySem.W.nsIn K mainGlobals "check_bells" = some (some (.ref (He.fAd K ("check_bells", none)))) := He.eqO_ok (fx_at c.more 9 9 (l := hx9) (f := fx189) rfl rfl)
  have g_k5 : PySem.W.keepIn K (.ref (He.fAd K ("check_bells", none))) = true := (fx_at c.more 9 10 (l := hx9) (f := fx190) rfl rfl)
  have g_a6 : PySem.W.nsIn K mainGlobals "is_notch" = some (some (.ref (He.fAd K ("is_notch", none)))) := He.eqO_ok (fx_at c.more 9 11 (l := hx9) (f := fx191) rfl rfl)
  have g_k6 : PySem.W.keepIn K (.ref (He.fAd K ("is_notch", none))) = true := (fx_at c.more 9 12 (l := hx9) (f := fx192) rfl rfl)
  have g_a7 : PySem.W.nsIn K mainGlobals "check_notches" = some (some (.ref (He.fAd K ("check_notches", none)))) := He.eqO_ok (fx_at c.more 9 13 (l := hx9) (f := fx193) rfl rfl)
  have g_k7 : PySem.W.keepIn K (.ref (He.fAd K ("check_notches", none))) = true := (fx_at c.more 9 14 (l := hx9) (f := fx194) rfl rfl)
  have g_a8 : PySem.W.findIn K (.ref (He.ga K "Peal")) "__init__" = some (some (.ref (He.fAd K ("Peal", some "__init__")))) := He.eqO_ok (fx_at c.more 9 15 (l := hx9) (f := fx195) rfl rfl)
  have g_i8 : PySem.W.isFn K (.ref (He.fAd K ("Peal", some "__init__"))) = true := (fx_at c.more 9 16 (l := hx9) (f := fx196) rfl rfl)
  have g_k8 : PySem.W.keepIn K (.ref (He.fAd K ("Peal", some "__init__"))) = true := (fx_at c.more 9 17 (l := hx9) (f := fx197) rfl rfl)
  obtain ⟨_, _, g_tn8⟩ := fTup0_ok (A := He.dflAt ("Peal", some "__init__") 0) (fx_at c.more 9 18 (l := hx9) (f := fx198) rfl rfl)
  have g_a9 : PySem.W.nsIn K mainGlobals "check_peal" = some (some (.ref (He.fAd K ("check_peal", none)))) := He.eqO_ok (fx_at c.more 9 19 (l := hx9) (f := fx199) rfl rfl)
  have g_k9 : PySem.W.keepIn K (.ref (He.fAd K ("check_peal", none))) = true := (fx_at c.more 10 0 (l := hx10) (f := fx200) rfl rfl)
  have g_a10 : PySem.W.nsIn K mainGlobals "parts_in" = some (some (.ref (He.fAd K ("parts_in", none)))) := He.eqO_ok (fx_at c.more 10 1 (l := hx10) (f := fx201) rfl rfl)
  have g_k10 : PySem.W.keepIn K (.ref (He.fAd K ("parts_in", none))) = true := (fx_at c.more 10 2 (l := hx10) (f := fx202) rfl rfl)
  have g_a11 : PySem.W.nsIn K mainGlobals "fits_course" = some (some (.ref (He.fAd K ("fits_course", none)))) := He.eqO_ok (fx_at c.more 10 3 (l := hx10) (f := fx203) rfl rfl)
  have g_k11 : PySem.W.keepIn K (.ref (He.fAd K ("fits_course", none))) = true := (fx_at c.more 10 4 (l := hx10) (f := fx204) rfl rfl)
  have g_a12 : PySem.W.nsIn K mainGlobals "check_course" = some (some (.ref (He.fAd K ("check_course", none)))) := He.eqO_ok (fx_at c.more 10 5 (l := hx10) (f := fx205) rfl rfl)
  have g_k12 : PySem.W.keepIn K (.ref (He.fAd K ("check_course", none))) = true := (fx_at c.more 10 6 (l := hx10) (f := fx206) rfl rfl)
  have g_a13 : PySem.W.nsIn K mainGlobals "part_text" = some (some (.ref (He.fAd K ("part_text", none)))) := He.eqO_ok (fx_at c.more 10 7 (l := hx10) (f := fx207) rfl rfl)
  have g_k13 : PySem.W.keepIn K (.ref (He.fAd K ("part_text", none))) = true := (fx_at c.more 10 8 (l := hx10) (f := fx208) rfl rfl)
  have g_a14 : PySem.W.nsIn K mainGlobals "course_text" = some (some (.ref (He.fAd K ("course_text", none)))) := He.eqO_ok (fx_at c.more 10 9 (l := hx10) (f := fx209) rfl rfl)
  have g_k14 : PySem.W.keepIn K (.ref (He.fAd K ("course_text", none))) = true := (fx_at c.more 10 10 (l := hx10) (f := fx210) rfl rfl)
  have g_a15 : PySem.W.nsIn K mainGlobals "show_course" = some (some (.ref (He.fAd K ("show_course", none)))) := He.eqO_ok (fx_at c.more 10 11 (l := hx10) (f := fx211) rfl rfl)
  have g_k15 : PySem.W.keepIn K (.ref (He.fAd K ("show_course", none))) = true := (fx_at c.more 10 12 (l := hx10) (f := fx212) rfl rfl)
  have g_a16 : PySem.W.nsIn K mainGlobals "end_of" = some (some (.ref (He.fAd K ("end_of", none)))) := He.eqO_ok (fx_at c.more 10 13 (l := hx10) (f := fx213) rfl rfl)
  have g_k16 : PySem.W.keepIn K (.ref (He.fAd K ("end_of", none))) = true := (fx_at c.more 10 14 (l := hx10) (f := fx214) rfl rfl)
  have g_a17 : PySem.W.nsIn K mainGlobals "part_read" = some (some (.ref (He.fAd K ("part_read", none)))) := He.eqO_ok (fx_at c.more 10 15 (l := hx10) (f := fx215) rfl rfl)
  have g_k17 : PySem.W.keepIn K (.ref (He.fAd K ("part_read", none))) = true := (fx_at c.more 10 16 (l := hx10) (f := fx216) rfl rfl)
  have g_a18 : PySem.W.nsIn K mainGlobals "course_read" = some (some (.ref (He.fAd K ("course_read", none)))) := He.eqO_ok (fx_at c.more 10 17 (l := hx10) (f := fx217) rfl rfl)
  have g_k18 : PySem.W.keepIn K (.ref (He.fAd K ("course_read", none))) = true := (fx_at c.more 10 18 (l := hx10) (f := fx218) rfl rfl)
  have g_a19 : PySem.W.nsIn K mainGlobals "read_course" = some (some (.ref (He.fAd K ("read_course", none)))) := He.eqO_ok (fx_at c.more 10 19 (l := hx10) (f := fx219) rfl rfl)
  have g_k19 : PySem.W.keepIn K (.ref (He.fAd K ("read_course", none))) = true := (fx_at c.more 11 0 (l := hx11) (f := fx220) rfl rfl)
  have g_a20 : PySem.W.nsIn K mainGlobals "_law_sort" = some (some (.ref (He.fAd K ("_law_sort", none)))) := He.eqO_ok (fx_at c.more 11 1 (l := hx11) (f := fx221) rfl rfl)
  have g_k20 : PySem.W.keepIn K (.ref (He.fAd K ("_law_sort", none))) = true := (fx_at c.more 11 2 (l := hx11) (f := fx222) rfl rfl)
  have g_a21 : PySem.W.nsIn K mainGlobals "_law_caught" = some (some (.ref (He.fAd K ("_law_caught", none)))) := He.eqO_ok (fx_at c.more 11 3 (l := hx11) (f := fx223) rfl rfl)
  have g_k21 : PySem.W.keepIn K (.ref (He.fAd K ("_law_caught", none))) = true := (fx_at c.more 11 4 (l := hx11) (f := fx224) rfl rfl)
  have g_a22 : PySem.W.nsIn K mainGlobals "_law_opened" = some (some (.ref (He.fAd K ("_law_opened", none)))) := He.eqO_ok (fx_at c.more 11 5 (l := hx11) (f := fx225) rfl rfl)
  have g_k22 : PySem.W.keepIn K (.ref (He.fAd K ("_law_opened", none))) = true := (fx_at c.more 11 6 (l := hx11) (f := fx226) rfl rfl)
  have g_a23 : PySem.W.nsIn K mainGlobals "_law_pull" = some (some (.ref (He.fAd K ("_law_pull", none)))) := He.eqO_ok (fx_at c.more 11 7 (l := hx11) (f := fx227) rfl rfl)
  have g_k23 : PySem.W.keepIn K (.ref (He.fAd K ("_law_pull", none))) = true := (fx_at c.more 11 8 (l := hx11) (f := fx228) rfl rfl)
  have g_a24 : PySem.W.nsIn K mainGlobals "_law_spelt" = some (some (.ref (He.fAd K ("_law_spelt", none)))) := He.eqO_ok (fx_at c.more 11 9 (l := hx11) (f := fx229) rfl rfl)
  have g_k24 : PySem.W.keepIn K (.ref (He.fAd K ("_law_spelt", none))) = true := (fx_at c.more 11 10 (l := hx11) (f := fx230) rfl rfl)
  have g_a25 : PySem.W.nsIn K mainGlobals "_law_calls" = some (some (.ref (He.fAd K ("_law_calls", none)))) := He.eqO_ok (fx_at c.more 11 11 (l := hx11) (f := fx231) rfl rfl)
  have g_k25 : PySem.W.keepIn K (.ref (He.fAd K ("_law_calls", none))) = true := (fx_at c.more 11 12 (l := hx11) (f := fx232) rfl rfl)
  have g_a26 : PySem.W.nsIn K mainGlobals "_law_figure" = some (some (.ref (He.fAd K ("_law_figure", none)))) := He.eqO_ok (fx_at c.more 11 13 (l := hx11) (f := fx233) rfl rfl)
  have g_k26 : PySem.W.keepIn K (.ref (He.fAd K ("_law_figure", none))) = true := (fx_at c.more 11 14 (l := hx11) (f := fx234) rfl rfl)
  have g_a27 : PySem.W.nsIn K mainGlobals "_law_kit" = some (some (.ref (He.fAd K ("_law_kit", none)))) := He.eqO_ok (fx_at c.more 11 15 (l := hx11) (f := fx235) rfl rfl)
  have g_k27 : PySem.W.keepIn K (.ref (He.fAd K ("_law_kit", none))) = true := (fx_at c.more 11 16 (l := hx11) (f := fx236) rfl rfl)
  have g_a28 : PySem.W.nsIn K mainGlobals "_law_tune" = some (some (.ref (He.fAd K ("_law_tune", none)))) := He.eqO_ok (fx_at c.more 11 17 (l := hx11) (f := fx237) rfl rfl)
  have g_k28 : PySem.W.keepIn K (.ref (He.fAd K ("_law_tune", none))) = true := (fx_at c.more 11 18 (l := hx11) (f := fx238) rfl rfl)
  have g_a29 : PySem.W.nsIn K mainGlobals "_law_same" = some (some (.ref (He.fAd K ("_law_same", none)))) := He.eqO_ok (fx_at c.more 11 19 (l := hx11) (f := fx239) rfl rfl)
  have g_k29 : PySem.W.keepIn K (.ref (He.fAd K ("_law_same", none))) = true := (fx_at c.more 12 0 (l := hx12) (f := fx240) rfl rfl)
  have g_a30 : PySem.W.nsIn K mainGlobals "_law_text_of" = some (some (.ref (He.fAd K ("_law_text_of", none)))) := He.eqO_ok (fx_at c.more 12 1 (l := hx12) (f := fx241) rfl rfl)
  have g_k30 : PySem.W.keepIn K (.ref (He.fAd K ("_law_text_of", none))) = true := (fx_at c.more 12 2 (l := hx12) (f := fx242) rfl rfl)
  have g_a31 : PySem.W.nsIn K mainGlobals "_law_one_right" = some (some (.ref (He.fAd K ("_law_one_right", none)))) := He.eqO_ok (fx_at c.more 12 3 (l := hx12) (f := fx243) rfl rfl)
  have g_k31 : PySem.W.keepIn K (.ref (He.fAd K ("_law_one_right", none))) = true := (fx_at c.more 12 4 (l := hx12) (f := fx244) rfl rfl)
  have g_a32 : PySem.W.nsIn K mainGlobals "_law_deep" = some (some (.ref (He.fAd K ("_law_deep", none)))) := He.eqO_ok (fx_at c.more 12 5 (l := hx12) (f := fx245) rfl rfl)
  have g_k32 : PySem.W.keepIn K (.ref (He.fAd K ("_law_deep", none))) = true := (fx_at c.more 12 6 (l := hx12) (f := fx246) rfl rfl)
  have g_a33 : PySem.W.nsIn K mainGlobals "_law_right" = some (some (.ref (He.fAd K ("_law_right", none)))) := He.eqO_ok (fx_at c.more 12 7 (l := hx12) (f := fx247) rfl rfl)
  have g_k33 : PySem.W.keepIn K (.ref (He.fAd K ("_law_right", none))) = true := (fx_at c.more 12 8 (l := hx12) (f := fx248) rfl rfl)
  have g_a34 : PySem.W.nsIn K mainGlobals "law" = some (some (.ref (He.fAd K ("law", none)))) := He.eqO_ok (fx_at c.more 12 9 (l := hx12) (f := fx249) rfl rfl)
  have g_k34 : PySem.W.keepIn K (.ref (He.fAd K ("law", none))) = true := (fx_at c.more 12 10 (l := hx12) (f := fx250) rfl rfl)
  have g_z0 : PySem.W.nsIn K mainGlobals "int" = some none := He.eqO_ok (fx_at c.more 12 11 (l := hx12) (f := fx251) rfl rfl)
  have g_z1 : PySem.W.nsIn K mainGlobals "isinstance" = some none := He.eqO_ok (fx_at c.more 12 12 (l := hx12) (f := fx252) rfl rfl)
  have g_z2 : PySem.W.nsIn K mainGlobals "bool" = some none := He.eqO_ok (fx_at c.more 12 13 (l := hx12) (f := fx253) rfl rfl)
  have g_z3 : PySem.W.nsIn K mainGlobals "str" = some none := He.eqO_ok (fx_at c.more 12 14 (l := hx12) (f := fx254) rfl rfl)
  have g_z4 : PySem.W.nsIn K mainGlobals "len" = some none := He.eqO_ok (fx_at c.more 12 15 (l := hx12) (f := fx255) rfl rfl)
  have g_z5 : PySem.W.nsIn K mainGlobals "all" = some none := He.eqO_ok (fx_at c.more 12 16 (l := hx12) (f := fx256) rfl rfl)
  have g_z6 : PySem.W.nsIn K mainGlobals "tuple" = some none := He.eqO_ok (fx_at c.more 12 17 (l := hx12) (f := fx257) rfl rfl)
  have g_z7 : PySem.W.nsIn K mainGlobals "enumerate" = some none := He.eqO_ok (fx_at c.more 12 18 (l := hx12) (f := fx258) rfl rfl)
  have g_z8 : PySem.W.nsIn K mainGlobals "dict" = some none := He.eqO_ok (fx_at c.more 12 19 (l := hx12) (f := fx259) rfl rfl)
  have g_z9 : PySem.W.nsIn K mainGlobals "ValueError" = some none := He.eqO_ok (fx_at c.more 13 0 (l := hx13) (f := fx260) rfl rfl)
  have g_z10 : PySem.W.nsIn K mainGlobals "LookupError" = some none := He.eqO_ok (fx_at c.more 13 1 (l := hx13) (f := fx261) rfl rfl)
  have g_z11 : PySem.W.nsIn K mainGlobals "ArithmeticError" = some none := He.eqO_ok (fx_at c.more 13 2 (l := hx13) (f := fx262) rfl rfl)
  have g_z12 : PySem.W.nsIn K mainGlobals "repr" = some none := He.eqO_ok (fx_at c.more 13 3 (l := hx13) (f := fx263) rfl rfl)
  have g_z13 : PySem.W.nsIn K mainGlobals "abs" = some none := He.eqO_ok (fx_at c.more 13 4 (l := hx13) (f := fx264) rfl rfl)
  have g_z14 : PySem.W.nsIn K mainGlobals "divmod" = some none := He.eqO_ok (fx_at c.more 13 5 (l := hx13) (f := fx265) rfl rfl)
  have g_z15 : PySem.W.nsIn K mainGlobals "range" = some none := He.eqO_ok (fx_at c.more 13 6 (l := hx13) (f := fx266) rfl rfl)
  have g_z16 : PySem.W.nsIn K mainGlobals "sorted" = some none := He.eqO_ok (fx_at c.more 13 7 (l := hx13) (f := fx267) rfl rfl)
  have g_z17 : PySem.W.nsIn K mainGlobals "min" = some none := He.eqO_ok (fx_at c.more 13 8 (l := hx13) (f := fx268) rfl rfl)
  have g_z18 : PySem.W.nsIn K mainGlobals "max" = some none := He.eqO_ok (fx_at c.more 13 9 (l := hx13) (f := fx269) rfl rfl)
  obtain ⟨_, g_q0⟩ := fInt_ok (fx_at c.more 13 10 (l := hx13) (f := fx270) rfl rfl)
  obtain ⟨_, g_q1⟩ := fStr_ok (fx_at c.more 13 11 (l := hx13) (f := fx271) rfl rfl)
  obtain ⟨_, g_q2⟩ := fInt_ok (fx_at c.more 13 12 (l := hx13) (f := fx272) rfl rfl)
  obtain ⟨_, g_q3⟩ := fInt_ok (fx_at c.more 13 13 (l := hx13) (f := fx273) rfl rfl)
  obtain ⟨_, g_q4⟩ := fInt_ok (fx_at c.more 13 14 (l := hx13) (f := fx274) rfl rfl)
  obtain ⟨_, g_q5⟩ := fInt_ok (fx_at c.more 13 15 (l := hx13) (f := fx275) rfl rfl)
  obtain ⟨_, g_q6⟩ := fInt_ok (fx_at c.more 13 16 (l := hx13) (f := fx276) rfl rfl)
  obtain ⟨_, g_q7⟩ := fInt_ok (fx_at c.more 13 17 (l := hx13) (f := fx277) rfl rfl)
  obtain ⟨_, g_q8⟩ := fInt_ok (fx_at c.more 13 18 (l := hx13) (f := fx278) rfl rfl)
  obtain ⟨_, g_q9⟩ := fStr_ok (fx_at c.more 13 19 (l := hx13) (f := fx279) rfl rfl)
  obtain ⟨_, g_q10⟩ := fStr_ok (fx_at c.more 14 0 (l := hx14) (f := fx280) rfl rfl)
  obtain ⟨_, g_q11⟩ := fInt_ok (fx_at c.more 14 1 (l := hx14) (f := fx281) rfl rfl)
  exact all_mk X G hfa g_gc_Peal g_p1_Peal g_p2_Peal g_p3_Peal g_p4_Peal g_p5_Peal g_p6_Peal g_p7_Peal g_p8_Peal g_p9_Peal g_pa_Peal g_n_Peal_bells g_n_Peal_notches g_n_Peal_sizes g_n_Peal_turning g_gc_NoPeal g_gc_NoBells g_gc_NoNotches g_gc_NoText g_gc_NoStanding g_gc_NoRow g_gc_NoDials g_gc_NoRings g_gc_NoCourse g_gc_NoNumber g_gc_NoModuli g_gc_NoVectors g_gc_NoVector g_gc_NoWeights g_gc_NoTruth g_gc_NoHistories g_gc_NoDeed g_gc_NoLog g_gc_NoSay g_gc_NoName g_gc_NoPlace g_gc_NoBack g_gc_TooMany g_gc_BellError g_gc_LostError g_gc_GreatError g_sB_BellError g_hD_BellError g_tY_BellError g_sU_NoText_BellError g_sB_LostError g_hD_LostError g_tY_LostError g_sU_NoText_LostError g_sB_GreatError g_hD_GreatError g_tY_GreatError g_sU_NoText_GreatError g_gA_NoText g_gG_NoText g_sB_NoText g_hD_NoText g_cC_NoText g_cN g_cT g_cM_NoText g_iC_NoPeal g_tY_NoPeal g_sU_NoText_NoText g_sU_NoText_NoPeal g_iC_NoBells g_tY_NoBells g_sU_NoText_NoBells g_iC_NoNotches g_tY_NoNotches g_sU_NoText_NoNotches g_iC_NoStanding g_tY_NoStanding g_sU_NoText_NoStanding g_iC_NoRow g_tY_NoRow g_sU_NoText_NoRow g_iC_NoDials g_tY_NoDials g_sU_NoText_NoDials g_iC_NoRings g_tY_NoRings g_sU_NoText_NoRings g_iC_NoCourse g_tY_NoCourse g_sU_NoText_NoCourse g_iC_NoNumber g_tY_NoNumber g_sU_NoText_NoNumber g_iC_NoModuli g_tY_NoModuli g_sU_NoText_NoModuli g_iC_NoVectors g_tY_NoVectors g_sU_NoText_NoVectors g_iC_NoVector g_tY_NoVector g_sU_NoText_NoVector g_iC_NoWeights g_tY_NoWeights g_sU_NoText_NoWeights g_iC_NoTruth g_tY_NoTruth g_sU_NoText_NoTruth g_iC_NoHistories g_tY_NoHistories g_sU_NoText_NoHistories g_iC_NoDeed g_tY_NoDeed g_sU_NoText_NoDeed g_iC_NoLog g_tY_NoLog g_sU_NoText_NoLog g_iC_NoSay g_tY_NoSay g_sU_NoText_NoSay g_iC_NoName g_tY_NoName g_sU_NoText_NoName g_iC_NoPlace g_tY_NoPlace g_sU_NoText_NoPlace g_iC_NoBack g_tY_NoBack g_sU_NoText_NoBack g_iC_TooMany g_tY_TooMany g_sU_NoText_TooMany g_iC_BellError g_iC_LostError g_iC_GreatError g_sU_NoText_ValueError g_sU_NoText_LookupError g_sU_NoText_ArithmeticError g_nF_NoText g_xL_NoText g_sA_NoText g_tY_NoText g_kP_NoText g_bS_BellError g_bR_BellError g_bF_BellError g_a0 g_t0 g_l0 g_c0 g_k0 g_a1 g_l1 g_c1 g_k1 g_a2 g_l2 g_c2 g_k2 g_a3 g_l3 g_c3 g_k3 g_a4 g_l4 g_c4 g_k4 g_a5 g_l5 g_c5 g_k5 g_a6 g_l6 g_c6 g_k6 g_a7 g_l7 g_c7 g_k7 g_a8 g_i8 g_l8 g_c8 g_k8 g_t8 g_tn8 g_a9 g_l9 g_c9 g_k9 g_a10 g_l10 g_c10 g_k10 g_a11 g_l11 g_c11 g_k11 g_a12 g_l12 g_c12 g_k12 g_a13 g_l13 g_c13 g_k13 g_a14 g_l14 g_c14 g_k14 g_a15 g_l15 g_c15 g_k15 g_a16 g_l16 g_c16 g_k16 g_a17 g_l17 g_c17 g_k17 g_a18 g_l18 g_c18 g_k18 g_a19 g_l19 g_c19 g_k19 g_a20 g_l20 g_c20 g_k20 g_a21 g_l21 g_c21 g_k21 g_a22 g_l22 g_c22 g_k22 g_a23 g_l23 g_c23 g_k23 g_a24 g_l24 g_c24 g_k24 g_a25 g_l25 g_c25 g_k25 g_a26 g_l26 g_c26 g_k26 g_a27 g_l27 g_c27 g_k27 g_a28 g_l28 g_c28 g_k28 g_a29 g_l29 g_c29 g_k29 g_a30 g_l30 g_c30 g_k30 g_a31 g_l31 g_c31 g_k31 g_lk31 g_pv31 g_hd31 g_nT31 g_te31 g_a32 g_l32 g_c32 g_k32 g_a33 g_l33 g_c33 g_k33 g_a34 g_l34 g_c34 g_k34 g_z0 g_z1 g_z2 g_z3 g_z4 g_z5 g_z6 g_z7 g_z8 g_z9 g_z10 g_z11 g_z12 g_z13 g_z14 g_z15 g_z16 g_z17 g_z18 g_q0 g_q1 g_q2 g_q3 g_q4 g_q5 g_q6 g_q7 g_q8 g_q9 g_q10 g_q11
end K16
open PySem PySem.W PyProof.Rows
set_option maxHeartbeats 0 in
theorem PySem.Challenge.cw_sincerung_k16_courses_as_texts_holds : PySem.Challenge.rw_sincerung_k16_courses_as_texts.Holds := by
  w_on; o_law
  refine HandSHeadRun.head_any (r := H16.hR) (q := H16.hqv) (H := H16.hhk) (ob := H16.hob) (M := 30000) (loose := H16.hnames) (kwd := []) H16.hob_eq (by kernel_rfl) (fun s => by kernel_rfl) H16.hrun (by rfl) (by rfl) (by rfl) (by rfl) (by first | assumption | decide +kernel) (by decide +kernel) ⟨rfl, rfl, rfl, rfl, rfl, by decide +kernel⟩ ?hw ?hc
  case hw => w_witness2
  case hc => exact Kx.walk_ofTX (l := PySem.Challenge.rw_sincerung_k16_courses_as_texts) (n := 63) (k := 25) (x := "_law_script") rfl (by decide) rfl ⟨rfl, by decide, by decide⟩ fun w mg fa h Y G hmg => let ⟨K, KX, c⟩ := Y; ⟨K, KX, K16.gathered KX G hmg c⟩
end
