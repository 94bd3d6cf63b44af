import PyProof.Rows.All
import HandS.Text
import Wide.All
import OpenK.AllK
import Wide.FinOn
import HandS.ForMost
import HandS.Walk
import HandS.Zip
import HandS.IsInst
import HandS.Deep
import HandS.Style
import HandS.WideBits
import HandS.TupAny
import KE.GoesEnum
import KE.GoesMore
import HandS.Wide
import KE.KTupSum
import HandS.Strs
import HandS.DictComp
import KE.KDictPairs
import HandS.Defaults
import KE.DataCmp
import KE.KDictWalk
import PyProof.ReprRoads
import PyProof.ReprLen
import HandS.TupMul
import HandS.TryOnly
import KE.KSortTupG
import KE.KDictSum
import HandS.WordsExc
import HandS.Small
import HandS.ExcInit
import HandS.HotCalls
import HandS.ExcIs
import HandS.ExcField
import KE.KExcIs
import HandS.ExcCtx
import HandS.Hot
import HandS.MakeKwOnly
import HandS.ExcInitHot
import KE.KTryMore
import HandS.Lambda
import HandS.EndTab
import KE.KNestM
import KE.KExcInit
import HandS.Flow
import HandS.Head0
import HandS.Head1
import HandS.Head2
import HandS.HeadHook4
import HandS.FStr
import KE.KFmtOwn
import HandS.Sort
import HandS.OwnEq
import PyProof.InstNe
import HandS.ExcOwn
import PyProof.FactsAll.int
import PyProof.FactsAll.bool
import PyProof.FactsAll.str
import PyProof.FactsAll.NoneType
import PyProof.FactsAll.list
import PyProof.FactsAll.tuple
import PyProof.FactsAll.dict
import PyProof.FactsAll.subtypes
import PyProof.NeKinds
import PyProof.Rows.Range3
import PyProof.Conv_bool
import PySem.Challenge.RW_sincerung_k04_peals_alike_and_shown
set_option Elab.async false
set_option linter.all false
set_option maxRecDepth 100000
section
set_option maxHeartbeats 2000000
namespace Kx
open PySem PySem.Spec PyProof.Rows L2
/-! ### what the head's one run tells, by names -/
abbrev FX := PySem.W.Frag → Bool
def fxOk (fs : List (List FX)) (K : PySem.W.Frag) : Bool := fs.all fun l => l.all fun f => f K
theorem fx_at {fs : List (List FX)} {K : PySem.W.Frag} (h : fxOk fs K = true) (i j : Nat) {l : List FX} {f : FX} (e : fs[i]? = some l) (e2 : l[j]? = some f) : f K = true :=
  List.all_eq_true.mp (List.all_eq_true.mp h l (List.mem_of_getElem? e)) f (List.mem_of_getElem? e2)
theorem def_at {fn : List He.DefD} {K : PySem.W.Frag} (D : fn.map (fun d => He.fnW K d.at_) = fn.map He.DefD.val) (i : Nat) {d : He.DefD} (h : fn[i]? = some d) : He.fnW K d.at_ = d.val := by
  have e : (fn.map fun d => He.fnW K d.at_)[i]? = (fn.map He.DefD.val)[i]? := by rw [D]
  rw [List.getElem?_map, List.getElem?_map, h] at e
  exact Option.some.inj e
def fInt (x : Str) (i : Int) : FX := fun K => match PySem.W.nsIn K mainGlobals x with
  | some (some (.int j _)) => decide (j = i)
  | _ => false
theorem fInt_ok {K : PySem.W.Frag} {x : Str} {i : Int} (h : fInt x i K = true) : ∃ t, PySem.W.nsIn K mainGlobals x = some (some (.int i t)) := by
  unfold fInt at h
  split at h
  · next j t e => exact ⟨t, by rw [e, of_decide_eq_true h]⟩
  · cases h
def fStr (x z : Str) : FX := fun K => match PySem.W.nsIn K mainGlobals x with
  | some (some (.str y _)) => decide (y = z)
  | _ => false
theorem fStr_ok {K : PySem.W.Frag} {x z : Str} (h : fStr x z K = true) : ∃ t, PySem.W.nsIn K mainGlobals x = some (some (.str z t)) := by
  unfold fStr at h
  split at h
  · next j t e => exact ⟨t, by rw [e, of_decide_eq_true h]⟩
  · cases h
/-- a def's function object: its code's name, no defaults -/
def fDef (p : He.Defn) (q : Str) : FX := fun K => match K.lookup (He.fAd K p) with
  | some ⟨_, _, .func fd, _⟩ => PySem.W.codeIn K fd.code q && (match fd.defaults with
    | .none => true
    | _ => false)
  | _ => false
theorem fDef_ok {K : PySem.W.Frag} {p : He.Defn} {q nm qn : Str} {ar : Arguments} {bd : List Stmt} {sc : Scope} (e : He.fnW K p = some (nm, qn, ar, .stmts bd, sc, mainGlobals, [], builtinsNs)) (h : fDef p q K = true) :
    ∃ oc od sl kV dc pm an cd ct, K.lookup (He.fAd K p) = some ⟨oc, od, .func (PySem.W.fnOf nm qn ar bd sc .none kV dc pm an cd ct), sl⟩ ∧ PySem.W.codeIn K cd q = true := by
  unfold fDef at h
  unfold He.fnW at e
  split at h
  · next oc od fd sl e1 =>
    rw [e1] at e
    obtain ⟨n1, n2, n3, n4, n5, n6, n7, n8, n9, n10, n11, n12, n13, n14, n15⟩ := fd
    obtain ⟨h1, h2⟩ := Bool.and_eq_true_iff.mp h
    have e2 : (some (n1, n2, n3, n4, n5, n6, n7, n15) : He.FnW) = some (nm, qn, ar, .stmts bd, sc, mainGlobals, [], builtinsNs) := e
    simp only [Option.some.injEq, Prod.mk.injEq] at e2
    obtain ⟨g1, g2, g3, g4, g5, g6, g7, g8⟩ := e2
    subst g1 g2 g3 g4 g5 g6 g7 g8
    dsimp only at h1 h2
    have h3 : n8 = .none := by
      split at h2
      · rfl
      · cases h2
    subst h3
    exact ⟨oc, od, sl, n9, n10, n11, n12, n13, n14, e1, h1⟩
  · cases h
def fDef1 (p : He.Defn) (q : Str) : FX := fun K => match K.lookup (He.fAd K p) with
  | some ⟨_, _, .func fd, _⟩ => PySem.W.codeIn K fd.code q && (match fd.defaults with
    | .ref T => (match K.lookup T with
      | some ⟨_, _, .seq its _, _⟩ => (match its.toList with
        | [.ref _] => true
        | _ => false)
      | _ => false)
    | _ => false)
  | _ => false
theorem fDef1_ok {K : PySem.W.Frag} {p : He.Defn} {q nm qn : Str} {ar : Arguments} {bd : List Stmt} {sc : Scope} (e : He.fnW K p = some (nm, qn, ar, .stmts bd, sc, mainGlobals, [], builtinsNs)) (h : fDef1 p q K = true) :
    ∃ oc od sl kV dc pm an cd ct T E cc dt nt st, K.lookup (He.fAd K p) = some ⟨oc, od, .func (PySem.W.fnOf nm qn ar bd sc (.ref T) kV dc pm an cd ct), sl⟩ ∧ PySem.W.codeIn K cd q = true ∧ K.lookup T = some ⟨cc, dt, .seq #[.ref E] nt, st⟩ ∧ E = He.dflAt p 0 K := by
  unfold fDef1 at h
  unfold He.fnW at e
  split at h
  · next oc od fd sl e1 =>
    rw [e1] at e
    obtain ⟨n1, n2, n3, n4, n5, n6, n7, n8, n9, n10, n11, n12, n13, n14, n15⟩ := fd
    obtain ⟨h1, h2⟩ := Bool.and_eq_true_iff.mp h
    have e2 : (some (n1, n2, n3, n4, n5, n6, n7, n15) : He.FnW) = some (nm, qn, ar, .stmts bd, sc, mainGlobals, [], builtinsNs) := e
    simp only [Option.some.injEq, Prod.mk.injEq] at e2
    obtain ⟨g1, g2, g3, g4, g5, g6, g7, g8⟩ := e2
    subst g1 g2 g3 g4 g5 g6 g7 g8
    dsimp only at h1 h2
    split at h2
    · next T =>
      split at h2
      · next cc dt its nt st e3 =>
        split at h2
        · next E e4 =>
          obtain ⟨l⟩ := its
          dsimp only at e4
          subst e4
          refine ⟨oc, od, sl, n9, n10, n11, n12, n13, n14, T, E, cc, dt, nt, st, e1, h1, e3, ?_⟩
          unfold He.dflAt
          rw [e1]
          dsimp only
          rw [e3]
          rfl
        · cases h2
      · cases h2
    · cases h2
  · cases h
def fTup0 (A : PySem.W.Frag → Addr) : FX := fun K => match K.lookup (A K) with
  | some ⟨.type t, none, .seq its _, _⟩ => decide (t = "tuple") && its.isEmpty
  | _ => false
theorem fTup0_ok {K : PySem.W.Frag} {A : PySem.W.Frag → Addr} (h : fTup0 A K = true) : ∃ nn sn, K.lookup (A K) = some ⟨.type "tuple", none, .seq #[] nn, sn⟩ := by
  unfold fTup0 at h
  split at h
  · next t its nn sn e =>
    obtain ⟨h1, h2⟩ := Bool.and_eq_true_iff.mp h
    rw [of_decide_eq_true h1, Array.isEmpty_iff.mp h2] at e
    exact ⟨nn, sn, e⟩
  · cases h
/-! ### the Hook: what the module's names reach, and the statics -/
def asY (g : Addr → Option Obj) (n : Nat) : List Addr := cStatics :: He.asD g n
abbrev frY (g : Addr → Option Obj) (n : Nat) : PySem.W.Frag := He.frT g (asY g n)
def obsY (n : Nat) (fn : List He.DefD) (tf : List He.Defn) (ex : FX) (g : Addr → Option Obj) : He.AlX := (fun K => (He.obsT [] fn [] K, ex K && He.tabsB g tf K)) (frY g n)
theorem saysY_of {n : Nat} {fn : List He.DefD} {tf : List He.Defn} {ex : FX} {w : World} {h : Heap} (e : obsY n fn tf ex h.get? = He.valX fn [] w) : He.SaysX [] fn [] tf ex w h (frY h.get? n) := by
  have e1 : He.obsT [] fn [] (frY h.get? n) = He.valT fn [] w := congrArg (fun z : He.AlX => z.1) e
  have e2 : (ex (frY h.get? n) && He.tabsB h.get? tf (frY h.get? n)) = true := congrArg (fun z : He.AlX => z.2) e
  obtain ⟨h1, h2⟩ := Bool.and_eq_true_iff.mp e2
  have key : ∀ p ∈ tf, PySem.W.codeHdIn (frY h.get? n) (He.cT (frY h.get? n) p).1 (He.cT (frY h.get? n) p).2 = true ∧ ∃ o, h.get? (He.cT (frY h.get? n) p).2 = some o ∧ He.emptyTab o = true := fun p hp => by
    obtain ⟨h3, h4⟩ := Bool.and_eq_true_iff.mp (List.all_eq_true.mp h2 p hp)
    refine ⟨h3, ?_⟩
    cases q : h.get? (He.cT (frY h.get? n) p).2 with
    | none =>
      rw [q] at h4
      cases h4
    | some o =>
      rw [q] at h4
      exact ⟨o, rfl, h4⟩
  exact ⟨e1, h1, fun p hp => (key p hp).1, fun p hp => by
    obtain ⟨_, o, q, z⟩ := key p hp
    exact He.frT_none q z, fun p hp => by
    obtain ⟨_, o, q, z⟩ := key p hp
    rw [q, He.emptyTab_eq z]⟩
def hookY (n : Nat) (fn : List He.DefD) (tf : List He.Defn) (ex : FX) : PySem.W.Hook where
  α := He.AlX
  obs := fun s => obsY n fn tf ex s.heap.get?
  val := fun w => He.valX fn [] w
  says := fun w h => ∃ K : PySem.W.Frag, K.In h ∧ He.SaysX [] fn [] tf ex w h K
  of := fun _ _ e => ⟨_, He.frT_in, saysY_of e⟩
  keeps := fun _ _ _ ⟨K, hK, c⟩ k => ⟨K, PySem.W.Frag.In.keeps hK k, ⟨c.t, c.more, c.hd, c.out, fun p hp => k _ _ (c.empty p hp)⟩⟩
theorem obsY_eq {n : Nat} {fn : List He.DefD} {tf : List He.Defn} {ex : FX} {g : Addr → Option Obj} {s : Shared} (h : ∀ a, g a = s.heap.get? a) : obsY n fn tf ex g = (hookY n fn tf ex).obs s := by
  have e : g = s.heap.get? := funext h
  rw [e] <;> rfl
/-- the run in two halves: each half's run is told by itself -/
def runA (r : PySem.W.OpenRow) (q : Program) (fn : List He.DefD) (ob : PySem.W.SharedT → He.AlX) (M : Nat) (loose : List Str) (w : World) : Prop :=
  ∀ os : OsState, Option.map (fun s => (HandSHeadRun.looksF r.prog (PySem.W.boot_heap w.params) s.abs, HandSHeadRun.seenQ q loose (importedModules r.prog.main.body) (fun s => PySem.W.xlAt q [] s && PySem.W.recOk r.records s) s.abs, (ob s).1)) (HandSHeadRun.endF (HandSHeadRun.stepQ (HandSHeadRun.denQ HandSHeadRun.tabQ) r.prog w) M r.prog w os) = some (true, PySem.W.openGood q loose, (He.valX fn [] w).1)
def runB (r : PySem.W.OpenRow) (fn : List He.DefD) (ob : PySem.W.SharedT → He.AlX) (M : Nat) (w : World) : Prop :=
  ∀ os : OsState, Option.map (fun s => (ob s).2) (HandSHeadRun.endF (HandSHeadRun.stepQ (HandSHeadRun.denQ HandSHeadRun.tabQ) r.prog w) M r.prog w os) = some (He.valX fn [] w).2
theorem runAB {r : PySem.W.OpenRow} {q : Program} {n : Nat} {fn : List He.DefD} {tf : List He.Defn} {ex : FX} {ob : PySem.W.SharedT → He.AlX} {M : Nat} {loose : List Str} {w : World}
    (A : runA r q fn ob M loose w) (B : runB r fn ob M w) : HandSHeadRun.RunEq r q (hookY n fn tf ex) ob M loose w := by
  intro os
  have a := A os
  have b := B os
  show Option.map (fun s => (HandSHeadRun.looksF r.prog (PySem.W.boot_heap w.params) s.abs, HandSHeadRun.seenQ q loose (importedModules r.prog.main.body) (fun s => PySem.W.xlAt q [] s && PySem.W.recOk r.records s) s.abs, (ob s : He.AlX))) _ = some (true, PySem.W.openGood q loose, (He.valX fn [] w : He.AlX))
  generalize HandSHeadRun.endF (HandSHeadRun.stepQ (HandSHeadRun.denQ HandSHeadRun.tabQ) r.prog w) M r.prog w os = e at a b ⊢
  cases e with
  | none => cases a
  | some s =>
    simp only [Option.map_some, Option.some.injEq, Prod.mk.injEq] at a b ⊢
    exact ⟨a.1, a.2.1, Prod.ext a.2.2 b⟩
/-- the Bools' run in parts: each part's run is told by itself -/
def runC (r : PySem.W.OpenRow) (b : PySem.W.SharedT → Bool) (M : Nat) (w : World) : Prop :=
  ∀ os : OsState, Option.map b (HandSHeadRun.endF (HandSHeadRun.stepQ (HandSHeadRun.denQ HandSHeadRun.tabQ) r.prog w) M r.prog w os) = some true
theorem runCC {r : PySem.W.OpenRow} {b c d : PySem.W.SharedT → Bool} {M : Nat} {w : World} (hb : ∀ s, b s = (c s && d s)) (C : runC r c M w) (D : runC r d M w) : runC r b M w := by
  intro os
  have x := C os
  have y := D os
  generalize HandSHeadRun.endF (HandSHeadRun.stepQ (HandSHeadRun.denQ HandSHeadRun.tabQ) r.prog w) M r.prog w os = e at x y ⊢
  cases e with
  | none => cases x
  | some s =>
    simp only [Option.map_some, Option.some.injEq] at x y ⊢
    rw [hb, x, y]
    rfl
theorem runCB {r : PySem.W.OpenRow} {fn : List He.DefD} {ob : PySem.W.SharedT → He.AlX} {b : PySem.W.SharedT → Bool} {M : Nat} {w : World} (hb : ∀ s, (ob s).2 = b s) (C : runC r b M w) : runB r fn ob M w := by
  intro os
  have x := C os
  generalize HandSHeadRun.endF (HandSHeadRun.stepQ (HandSHeadRun.denQ HandSHeadRun.tabQ) r.prog w) M r.prog w os = e at x ⊢
  cases e with
  | none => cases x
  | some s =>
    simp only [Option.map_some, Option.some.injEq] at x ⊢
    rw [hb, x]
    rfl
/-- a part of the Bools -/
def obB (n : Nat) (xs : List (List FX)) (s : PySem.W.SharedT) : Bool := fxOk xs (frY (HandSHeadRun.getT s) n)
def obBT (n : Nat) (xs : List (List FX)) (tf : List He.Defn) (s : PySem.W.SharedT) : Bool := fxOk xs (frY (HandSHeadRun.getT s) n) && He.tabsB (HandSHeadRun.getT s) tf (frY (HandSHeadRun.getT s) n)
theorem obBT_cut {n : Nat} {xs ys : List (List FX)} {tf : List He.Defn} (s : PySem.W.SharedT) : obBT n (xs ++ ys) tf s = (obB n xs s && obBT n ys tf s) := by
  unfold obBT obB fxOk
  rw [List.all_append, Bool.and_assoc]
end Kx
end
section
set_option maxHeartbeats 4000000
namespace H04
open PySem L2 Kx
def topS (i : Nat) : Stmt := PySem.Challenge.pw_sincerung_k04_peals_alike_and_shown.main.body.getD i (.Pass ⟨0, 0, 0, 0⟩)
abbrev s_is_whole : Stmt := topS 16
abbrev s_is_within : Stmt := topS 17
abbrev s_is_name : Stmt := topS 18
abbrev s_is_bell : Stmt := topS 20
abbrev s_check_bells : Stmt := topS 21
abbrev s_is_notch : Stmt := topS 22
abbrev s_check_notches : Stmt := topS 23
abbrev s_Peal___init__ : Stmt := inClass (topS 24) 0
abbrev s_check_name : Stmt := topS 25
abbrev s_check_two : Stmt := topS 26
abbrev s_Peal_told : Stmt := inClass (topS 24) 4
abbrev s_Peal_hung : Stmt := inClass (topS 24) 5
abbrev s_Peal_without : Stmt := inClass (topS 24) 6
abbrev s_Peal___eq__ : Stmt := inClass (topS 24) 7
abbrev s_Peal___len__ : Stmt := inClass (topS 24) 8
abbrev s_Peal___str__ : Stmt := inClass (topS 24) 9
abbrev s_Peal___repr__ : Stmt := inClass (topS 24) 10
abbrev s__law_opened : Stmt := topS 28
abbrev s__law_pull : Stmt := topS 29
abbrev s__law_spelt : Stmt := topS 30
abbrev s__law_calls : Stmt := topS 31
abbrev s__law_figure : Stmt := topS 32
abbrev s__law_kit : Stmt := topS 33
abbrev s__law_far : Stmt := topS 34
abbrev s__law_text : Stmt := topS 35
abbrev s__law_is : Stmt := topS 36
abbrev s__law_both : Stmt := topS 37
abbrev s__law_anew : Stmt := topS 38
abbrev s__law_others : Stmt := topS 39
abbrev s__law_right : Stmt := topS 40
abbrev s_law : Stmt := topS 41
def fx0 : FX := fDef ("is_whole", none) "is_whole"
def fx1 : FX := fDef ("is_within", none) "is_within"
def fx2 : FX := fDef ("is_name", none) "is_name"
def fx3 : FX := fDef ("is_bell", none) "is_bell"
def fx4 : FX := fDef ("check_bells", none) "check_bells"
def fx5 : FX := fDef ("is_notch", none) "is_notch"
def fx6 : FX := fDef ("check_notches", none) "check_notches"
def fx7 : FX := fDef1 ("Peal", some "__init__") "Peal.__init__"
def fx8 : FX := fDef ("check_name", none) "check_name"
def fx9 : FX := fDef ("check_two", none) "check_two"
def fx10 : FX := fDef ("Peal", some "told") "Peal.told"
def fx11 : FX := fDef ("Peal", some "hung") "Peal.hung"
def fx12 : FX := fDef ("Peal", some "without") "Peal.without"
def fx13 : FX := fDef ("Peal", some "__eq__") "Peal.__eq__"
def fx14 : FX := fDef ("Peal", some "__len__") "Peal.__len__"
def fx15 : FX := fDef ("Peal", some "__str__") "Peal.__str__"
def fx16 : FX := fDef ("Peal", some "__repr__") "Peal.__repr__"
def fx17 : FX := fDef ("_law_opened", none) "_law_opened"
def fx18 : FX := fDef ("_law_pull", none) "_law_pull"
def fx19 : FX := fDef ("_law_spelt", none) "_law_spelt"
def fx20 : FX := fDef ("_law_calls", none) "_law_calls"
def fx21 : FX := fDef ("_law_figure", none) "_law_figure"
def fx22 : FX := fDef ("_law_kit", none) "_law_kit"
def fx23 : FX := fDef ("_law_far", none) "_law_far"
def fx24 : FX := fDef ("_law_text", none) "_law_text"
def fx25 : FX := fDef ("_law_is", none) "_law_is"
def fx26 : FX := fDef ("_law_both", none) "_law_both"
def fx27 : FX := fDef ("_law_anew", none) "_law_anew"
def fx28 : FX := fDef ("_law_others", none) "_law_others"
def fx29 : FX := fDef ("_law_right", none) "_law_right"
def fx30 : FX := fDef ("law", none) "law"
def fx31 : FX := fun K => He.eqO (PySem.W.nsIn K mainGlobals "Peal") (some (some (.ref (He.ga K "Peal"))))
def fx32 : FX := fun K => PySem.W.plainGet K (He.ga K "Peal") Str.empty
def fx33 : FX := fun K => PySem.W.hasDictIn K (He.ga K "Peal")
def fx34 : FX := fun K => PySem.W.plainOver K (He.ga K "Peal")
def fx35 : FX := fun K => He.eqO (PySem.W.findIn K (.ref (He.ga K "Peal")) "__setattr__") (some (some (.builtin "object.__setattr__")))
def fx36 : FX := fun K => PySem.W.makesIn K (He.ga K "Peal")
def fx37 : FX := fun K => PySem.W.keepIn K (.ref (He.ga K "Peal"))
def fx38 : FX := fun K => He.eqO (PySem.W.findIn K (.ref (He.ga K "Peal")) "__class__") (some (some (.builtin "object.__class__")))
def fx39 : FX := fun K => He.eqO (PySem.W.specialIn K (.builtin "object.__class__") "__get__") (some (some (.builtin "getset_descriptor.__get__")))
def fx40 : FX := fun K => decide (PySem.W.takesIn K (.builtin "object.__class__") = some true)
def fx41 : FX := fun K => decide (PySem.W.mroIn K (He.ga K "Peal") (.type "object") = some true)
def fx42 : FX := fun K => He.eqO (PySem.W.findIn K (.ref (He.ga K "Peal")) "__ne__") (some (some (.builtin "object.__ne__")))
def fx43 : FX := fun K => He.eqO (PySem.W.findIn K (.ref (He.ga K "Peal")) "__bool__") (some none)
def fx44 : FX := fun K => decide (PySem.W.mroIn K (He.ga K "Peal") (.type "tuple") = some false)
def fx45 : FX := fun K => decide (PySem.W.mroIn K (He.ga K "Peal") (.type "int") = some false)
def fx46 : FX := fun K => decide (PySem.W.mroIn K (He.ga K "Peal") (.type "bool") = some false)
def fx47 : FX := fun K => decide (PySem.W.mroIn K (He.ga K "Peal") (.type "str") = some false)
def fx48 : FX := fun K => decide (PySem.W.mroIn K (He.ga K "Peal") (.type "list") = some false)
def fx49 : FX := fun K => decide (PySem.W.mroIn K (He.ga K "Peal") (.type "dict") = some false)
def fx50 : FX := fun K => decide (PySem.W.mroIn K (He.ga K "Peal") (.type "NoneType") = some false)
def fx51 : FX := fun K => He.eqO (PySem.W.findIn K (.ref (He.ga K "Peal")) "bells") (some none)
def fx52 : FX := fun K => He.eqO (PySem.W.findIn K (.ref (He.ga K "Peal")) "notches") (some none)
def fx53 : FX := fun K => He.eqO (PySem.W.findIn K (.ref (He.ga K "Peal")) "sizes") (some none)
def fx54 : FX := fun K => He.eqO (PySem.W.findIn K (.ref (He.ga K "Peal")) "turning") (some none)
def fx55 : FX := fun K => PySem.W.isClsIn K (He.ga K "Peal")
def fx56 : FX := fun K => decide (PySem.W.typeIn K (.ref (He.ga K "Peal")) = some (.type "type"))
def fx57 : FX := fun K => He.eqO (PySem.W.nsIn K mainGlobals "is_whole") (some (some (.ref (He.fAd K ("is_whole", none)))))
def fx58 : FX := fun K => PySem.W.keepIn K (.ref (He.fAd K ("is_whole", none)))
def fx59 : FX := fun K => He.eqO (PySem.W.nsIn K mainGlobals "is_within") (some (some (.ref (He.fAd K ("is_within", none)))))
def fx60 : FX := fun K => PySem.W.keepIn K (.ref (He.fAd K ("is_within", none)))
def fx61 : FX := fun K => He.eqO (PySem.W.nsIn K mainGlobals "is_name") (some (some (.ref (He.fAd K ("is_name", none)))))
def fx62 : FX := fun K => PySem.W.keepIn K (.ref (He.fAd K ("is_name", none)))
def fx63 : FX := fun K => He.eqO (PySem.W.nsIn K mainGlobals "is_bell") (some (some (.ref (He.fAd K ("is_bell", none)))))
def fx64 : FX := fun K => PySem.W.keepIn K (.ref (He.fAd K ("is_bell", none)))
def fx65 : FX := fun K => He.eqO (PySem.W.nsIn K mainGlobals "check_bells") (some (some (.ref (He.fAd K ("check_bells", none)))))
def fx66 : FX := fun K => PySem.W.keepIn K (.ref (He.fAd K ("check_bells", none)))
def fx67 : FX := fun K => He.eqO (PySem.W.nsIn K mainGlobals "is_notch") (some (some (.ref (He.fAd K ("is_notch", none)))))
def fx68 : FX := fun K => PySem.W.keepIn K (.ref (He.fAd K ("is_notch", none)))
def fx69 : FX := fun K => He.eqO (PySem.W.nsIn K mainGlobals "check_notches") (some (some (.ref (He.fAd K ("check_notches", none)))))
def fx70 : FX := fun K => PySem.W.keepIn K (.ref (He.fAd K ("check_notches", none)))
def fx71 : FX := fun K => He.eqO (PySem.W.findIn K (.ref (He.ga K "Peal")) "__init__") (some (some (.ref (He.fAd K ("Peal", some "__init__")))))
def fx72 : FX := fun K => PySem.W.isFn K (.ref (He.fAd K ("Peal", some "__init__")))
def fx73 : FX := fun K => PySem.W.keepIn K (.ref (He.fAd K ("Peal", some "__init__")))
def fx74 : FX := fTup0 (He.dflAt ("Peal", some "__init__") 0)
def fx75 : FX := fun K => He.eqO (PySem.W.nsIn K mainGlobals "check_name") (some (some (.ref (He.fAd K ("check_name", none)))))
def fx76 : FX := fun K => PySem.W.keepIn K (.ref (He.fAd K ("check_name", none)))
def fx77 : FX := fun K => He.eqO (PySem.W.nsIn K mainGlobals "check_two") (some (some (.ref (He.fAd K ("check_two", none)))))
def fx78 : FX := fun K => PySem.W.keepIn K (.ref (He.fAd K ("check_two", none)))
def fx79 : FX := fun K => He.eqO (PySem.W.findIn K (.ref (He.ga K "Peal")) "told") (some (some (.ref (He.fAd K ("Peal", some "told")))))
def fx80 : FX := fun K => PySem.W.isFn K (.ref (He.fAd K ("Peal", some "told")))
def fx81 : FX := fun K => PySem.W.keepIn K (.ref (He.fAd K ("Peal", some "told")))
def fx82 : FX := fun K => He.eqO (PySem.W.findIn K (.ref (He.ga K "Peal")) "hung") (some (some (.ref (He.fAd K ("Peal", some "hung")))))
def fx83 : FX := fun K => PySem.W.isFn K (.ref (He.fAd K ("Peal", some "hung")))
def fx84 : FX := fun K => PySem.W.keepIn K (.ref (He.fAd K ("Peal", some "hung")))
def fx85 : FX := fun K => He.eqO (PySem.W.findIn K (.ref (He.ga K "Peal")) "without") (some (some (.ref (He.fAd K ("Peal", some "without")))))
def fx86 : FX := fun K => PySem.W.isFn K (.ref (He.fAd K ("Peal", some "without")))
def fx87 : FX := fun K => PySem.W.keepIn K (.ref (He.fAd K ("Peal", some "without")))
def fx88 : FX := fun K => He.eqO (PySem.W.findIn K (.ref (He.ga K "Peal")) "__eq__") (some (some (.ref (He.fAd K ("Peal", some "__eq__")))))
def fx89 : FX := fun K => PySem.W.isFn K (.ref (He.fAd K ("Peal", some "__eq__")))
def fx90 : FX := fun K => PySem.W.keepIn K (.ref (He.fAd K ("Peal", some "__eq__")))
def fx91 : FX := fun K => He.eqO (PySem.W.findIn K (.ref (He.ga K "Peal")) "__len__") (some (some (.ref (He.fAd K ("Peal", some "__len__")))))
def fx92 : FX := fun K => PySem.W.isFn K (.ref (He.fAd K ("Peal", some "__len__")))
def fx93 : FX := fun K => PySem.W.keepIn K (.ref (He.fAd K ("Peal", some "__len__")))
def fx94 : FX := fun K => He.eqO (PySem.W.findIn K (.ref (He.ga K "Peal")) "__str__") (some (some (.ref (He.fAd K ("Peal", some "__str__")))))
def fx95 : FX := fun K => PySem.W.isFn K (.ref (He.fAd K ("Peal", some "__str__")))
def fx96 : FX := fun K => PySem.W.keepIn K (.ref (He.fAd K ("Peal", some "__str__")))
def fx97 : FX := fun K => He.eqO (PySem.W.findIn K (.ref (He.ga K "Peal")) "__repr__") (some (some (.ref (He.fAd K ("Peal", some "__repr__")))))
def fx98 : FX := fun K => PySem.W.isFn K (.ref (He.fAd K ("Peal", some "__repr__")))
def fx99 : FX := fun K => PySem.W.keepIn K (.ref (He.fAd K ("Peal", some "__repr__")))
def fx100 : FX := fun K => He.eqO (PySem.W.nsIn K mainGlobals "_law_opened") (some (some (.ref (He.fAd K ("_law_opened", none)))))
def fx101 : FX := fun K => PySem.W.keepIn K (.ref (He.fAd K ("_law_opened", none)))
def fx102 : FX := fun K => He.eqO (PySem.W.nsIn K mainGlobals "_law_pull") (some (some (.ref (He.fAd K ("_law_pull", none)))))
def fx103 : FX := fun K => PySem.W.keepIn K (.ref (He.fAd K ("_law_pull", none)))
def fx104 : FX := fun K => He.eqO (PySem.W.nsIn K mainGlobals "_law_spelt") (some (some (.ref (He.fAd K ("_law_spelt", none)))))
def fx105 : FX := fun K => PySem.W.keepIn K (.ref (He.fAd K ("_law_spelt", none)))
def fx106 : FX := fun K => He.eqO (PySem.W.nsIn K mainGlobals "_law_calls") (some (some (.ref (He.fAd K ("_law_calls", none)))))
def fx107 : FX := fun K => PySem.W.keepIn K (.ref (He.fAd K ("_law_calls", none)))
def fx108 : FX := fun K => He.eqO (PySem.W.nsIn K mainGlobals "_law_figure") (some (some (.ref (He.fAd K ("_law_figure", none)))))
def fx109 : FX := fun K => PySem.W.keepIn K (.ref (He.fAd K ("_law_figure", none)))
def fx110 : FX := fun K => He.eqO (PySem.W.nsIn K mainGlobals "_law_kit") (some (some (.ref (He.fAd K ("_law_kit", none)))))
def fx111 : FX := fun K => PySem.W.keepIn K (.ref (He.fAd K ("_law_kit", none)))
def fx112 : FX := fun K => He.eqO (PySem.W.nsIn K mainGlobals "_law_far") (some (some (.ref (He.fAd K ("_law_far", none)))))
def fx113 : FX := fun K => PySem.W.keepIn K (.ref (He.fAd K ("_law_far", none)))
def fx114 : FX := fun K => He.eqO (PySem.W.nsIn K mainGlobals "_law_text") (some (some (.ref (He.fAd K ("_law_text", none)))))
def fx115 : FX := fun K => PySem.W.keepIn K (.ref (He.fAd K ("_law_text", none)))
def fx116 : FX := fun K => He.eqO (PySem.W.nsIn K mainGlobals "_law_is") (some (some (.ref (He.fAd K ("_law_is", none)))))
def fx117 : FX := fun K => PySem.W.keepIn K (.ref (He.fAd K ("_law_is", none)))
def fx118 : FX := fun K => He.eqO (PySem.W.nsIn K mainGlobals "_law_both") (some (some (.ref (He.fAd K ("_law_both", none)))))
def fx119 : FX := fun K => PySem.W.keepIn K (.ref (He.fAd K ("_law_both", none)))
def fx120 : FX := fun K => He.eqO (PySem.W.nsIn K mainGlobals "_law_anew") (some (some (.ref (He.fAd K ("_law_anew", none)))))
def fx121 : FX := fun K => PySem.W.keepIn K (.ref (He.fAd K ("_law_anew", none)))
def fx122 : FX := fun K => He.eqO (PySem.W.nsIn K mainGlobals "_law_others") (some (some (.ref (He.fAd K ("_law_others", none)))))
def fx123 : FX := fun K => PySem.W.keepIn K (.ref (He.fAd K ("_law_others", none)))
def fx124 : FX := fun K => He.eqO (PySem.W.nsIn K mainGlobals "_law_right") (some (some (.ref (He.fAd K ("_law_right", none)))))
def fx125 : FX := fun K => PySem.W.keepIn K (.ref (He.fAd K ("_law_right", none)))
def fx126 : FX := fun K => He.eqO (PySem.W.nsIn K mainGlobals "law") (some (some (.ref (He.fAd K ("law", none)))))
def fx127 : FX := fun K => PySem.W.keepIn K (.ref (He.fAd K ("law", none)))
def fx128 : FX := fun K => He.eqO (PySem.W.nsIn K mainGlobals "int") (some none)
def fx129 : FX := fun K => He.eqO (PySem.W.nsIn K mainGlobals "isinstance") (some none)
def fx130 : FX := fun K => He.eqO (PySem.W.nsIn K mainGlobals "bool") (some none)
def fx131 : FX := fun K => He.eqO (PySem.W.nsIn K mainGlobals "str") (some none)
def fx132 : FX := fun K => He.eqO (PySem.W.nsIn K mainGlobals "len") (some none)
def fx133 : FX := fun K => He.eqO (PySem.W.nsIn K mainGlobals "all") (some none)
def fx134 : FX := fun K => He.eqO (PySem.W.nsIn K mainGlobals "tuple") (some none)
def fx135 : FX := fun K => He.eqO (PySem.W.nsIn K mainGlobals "enumerate") (some none)
def fx136 : FX := fun K => He.eqO (PySem.W.nsIn K mainGlobals "dict") (some none)
def fx137 : FX := fun K => He.eqO (PySem.W.nsIn K mainGlobals "sorted") (some none)
def fx138 : FX := fun K => He.eqO (PySem.W.nsIn K mainGlobals "abs") (some none)
def fx139 : FX := fun K => He.eqO (PySem.W.nsIn K mainGlobals "divmod") (some none)
def fx140 : FX := fun K => He.eqO (PySem.W.nsIn K mainGlobals "range") (some none)
def fx141 : FX := fun K => He.eqO (PySem.W.nsIn K mainGlobals "list") (some none)
def fx142 : FX := fun K => He.eqO (PySem.W.nsIn K mainGlobals "repr") (some none)
def fx143 : FX := fun K => He.eqO (PySem.W.nsIn K mainGlobals "min") (some none)
def fx144 : FX := fun K => He.eqO (PySem.W.nsIn K mainGlobals "max") (some none)
def fx145 : FX := fInt "MOST_LETTERS" (6)
def fx146 : FX := fStr "LETTERS" "abcdefghijklmnopqrstuvwxyz"
def fx147 : FX := fInt "LEAST_MARKS" (2)
def fx148 : FX := fInt "MOST_MARKS" (24)
def fx149 : FX := fInt "MOST_BELLS" (8)
def fx150 : FX := fInt "MOST_NUMBER" (99)
def hx0 : List FX := [fx0, fx1, fx2, fx3, fx4, fx5, fx6, fx7, fx8, fx9, fx10, fx11, fx12, fx13, fx14, fx15, fx16, fx17, fx18, fx19]
def hx1 : List FX := [fx20, fx21, fx22, fx23, fx24, fx25, fx26, fx27, fx28, fx29, fx30, fx31, fx32, fx33, fx34, fx35, fx36, fx37, fx38, fx39]
def hx2 : List FX := [fx40, fx41, fx42, fx43, fx44, fx45, fx46, fx47, fx48, fx49, fx50, fx51, fx52, fx53, fx54, fx55, fx56, fx57, fx58, fx59]
def hx3 : List FX := [fx60, fx61, fx62, fx63, fx64, fx65, fx66, fx67, fx68, fx69, fx70, fx71, fx72, fx73, fx74, fx75, fx76, fx77, fx78, fx79]
def hx4 : List FX := [fx80, fx81, fx82, fx83, fx84, fx85, fx86, fx87, fx88, fx89, fx90, fx91, fx92, fx93, fx94, fx95, fx96, fx97, fx98, fx99]
def hx5 : List FX := [fx100, fx101, fx102, fx103, fx104, fx105, fx106, fx107, fx108, fx109, fx110, fx111, fx112, fx113, fx114, fx115, fx116, fx117, fx118, fx119]
def hx6 : List FX := [fx120, fx121, fx122, fx123, fx124, fx125, fx126, fx127, fx128, fx129, fx130, fx131, fx132, fx133, fx134, fx135, fx136, fx137, fx138, fx139]
def hx7 : List FX := [fx140, fx141, fx142, fx143, fx144, fx145, fx146, fx147, fx148, fx149, fx150]
def hxs : List (List FX) := [hx0, hx1, hx2, hx3, hx4, hx5, hx6, hx7]
def hd0 : He.DefD := ⟨("is_whole", none), "is_whole", "is_whole", defArgs s_is_whole, defBody s_is_whole, defScope s_is_whole, [], []⟩
def hd1 : He.DefD := ⟨("is_within", none), "is_within", "is_within", defArgs s_is_within, defBody s_is_within, defScope s_is_within, [], []⟩
def hd2 : He.DefD := ⟨("is_name", none), "is_name", "is_name", defArgs s_is_name, defBody s_is_name, defScope s_is_name, [], []⟩
def hd3 : He.DefD := ⟨("is_bell", none), "is_bell", "is_bell", defArgs s_is_bell, defBody s_is_bell, defScope s_is_bell, [], []⟩
def hd4 : He.DefD := ⟨("check_bells", none), "check_bells", "check_bells", defArgs s_check_bells, defBody s_check_bells, defScope s_check_bells, [], []⟩
def hd5 : He.DefD := ⟨("is_notch", none), "is_notch", "is_notch", defArgs s_is_notch, defBody s_is_notch, defScope s_is_notch, [], []⟩
def hd6 : He.DefD := ⟨("check_notches", none), "check_notches", "check_notches", defArgs s_check_notches, defBody s_check_notches, defScope s_check_notches, [], []⟩
def hd7 : He.DefD := ⟨("Peal", some "__init__"), "__init__", "Peal.__init__", defArgs s_Peal___init__, defBody s_Peal___init__, defScope s_Peal___init__, [.adr (He.dflAt ("Peal", some "__init__") 0)], []⟩
def hd8 : He.DefD := ⟨("check_name", none), "check_name", "check_name", defArgs s_check_name, defBody s_check_name, defScope s_check_name, [], []⟩
def hd9 : He.DefD := ⟨("check_two", none), "check_two", "check_two", defArgs s_check_two, defBody s_check_two, defScope s_check_two, [], []⟩
def hd10 : He.DefD := ⟨("Peal", some "told"), "told", "Peal.told", defArgs s_Peal_told, defBody s_Peal_told, defScope s_Peal_told, [], []⟩
def hd11 : He.DefD := ⟨("Peal", some "hung"), "hung", "Peal.hung", defArgs s_Peal_hung, defBody s_Peal_hung, defScope s_Peal_hung, [], []⟩
def hd12 : He.DefD := ⟨("Peal", some "without"), "without", "Peal.without", defArgs s_Peal_without, defBody s_Peal_without, defScope s_Peal_without, [], []⟩
def hd13 : He.DefD := ⟨("Peal", some "__eq__"), "__eq__", "Peal.__eq__", defArgs s_Peal___eq__, defBody s_Peal___eq__, defScope s_Peal___eq__, [], []⟩
def hd14 : He.DefD := ⟨("Peal", some "__len__"), "__len__", "Peal.__len__", defArgs s_Peal___len__, defBody s_Peal___len__, defScope s_Peal___len__, [], []⟩
def hd15 : He.DefD := ⟨("Peal", some "__str__"), "__str__", "Peal.__str__", defArgs s_Peal___str__, defBody s_Peal___str__, defScope s_Peal___str__, [], []⟩
def hd16 : He.DefD := ⟨("Peal", some "__repr__"), "__repr__", "Peal.__repr__", defArgs s_Peal___repr__, defBody s_Peal___repr__, defScope s_Peal___repr__, [], []⟩
def hd17 : He.DefD := ⟨("_law_opened", none), "_law_opened", "_law_opened", defArgs s__law_opened, defBody s__law_opened, defScope s__law_opened, [], []⟩
def hd18 : He.DefD := ⟨("_law_pull", none), "_law_pull", "_law_pull", defArgs s__law_pull, defBody s__law_pull, defScope s__law_pull, [], []⟩
def hd19 : He.DefD := ⟨("_law_spelt", none), "_law_spelt", "_law_spelt", defArgs s__law_spelt, defBody s__law_spelt, defScope s__law_spelt, [], []⟩
def hd20 : He.DefD := ⟨("_law_calls", none), "_law_calls", "_law_calls", defArgs s__law_calls, defBody s__law_calls, defScope s__law_calls, [], []⟩
def hd21 : He.DefD := ⟨("_law_figure", none), "_law_figure", "_law_figure", defArgs s__law_figure, defBody s__law_figure, defScope s__law_figure, [], []⟩
def hd22 : He.DefD := ⟨("_law_kit", none), "_law_kit", "_law_kit", defArgs s__law_kit, defBody s__law_kit, defScope s__law_kit, [], []⟩
def hd23 : He.DefD := ⟨("_law_far", none), "_law_far", "_law_far", defArgs s__law_far, defBody s__law_far, defScope s__law_far, [], []⟩
def hd24 : He.DefD := ⟨("_law_text", none), "_law_text", "_law_text", defArgs s__law_text, defBody s__law_text, defScope s__law_text, [], []⟩
def hd25 : He.DefD := ⟨("_law_is", none), "_law_is", "_law_is", defArgs s__law_is, defBody s__law_is, defScope s__law_is, [], []⟩
def hd26 : He.DefD := ⟨("_law_both", none), "_law_both", "_law_both", defArgs s__law_both, defBody s__law_both, defScope s__law_both, [], []⟩
def hd27 : He.DefD := ⟨("_law_anew", none), "_law_anew", "_law_anew", defArgs s__law_anew, defBody s__law_anew, defScope s__law_anew, [], []⟩
def hd28 : He.DefD := ⟨("_law_others", none), "_law_others", "_law_others", defArgs s__law_others, defBody s__law_others, defScope s__law_others, [], []⟩
def hd29 : He.DefD := ⟨("_law_right", none), "_law_right", "_law_right", defArgs s__law_right, defBody s__law_right, defScope s__law_right, [], []⟩
def hd30 : He.DefD := ⟨("law", none), "law", "law", defArgs s_law, defBody s_law, defScope s_law, [], []⟩
def hfn0 : List He.DefD := [hd0, hd1, hd2, hd3, hd4, hd5, hd6, hd7, hd8, hd9, hd10, hd11, hd12, hd13, hd14, hd15, hd16, hd17, hd18, hd19]
def hfn1 : List He.DefD := [hd20, hd21, hd22, hd23, hd24, hd25, hd26, hd27, hd28, hd29, hd30]
abbrev hfn : List He.DefD := hfn0 ++ (hfn1)
abbrev htf : List He.Defn := []
end H04
namespace H04
open PySem PySem.W PySem.Calls PyProof.Rows
abbrev hR : OpenRow := OpenLaw.row PySem.Challenge.rw_sincerung_k04_peals_alike_and_shown
abbrev hqv : Program := view hR.prog [41]
def hn0 : List PySem.Str := ["MOST_BELLS", "MOST_LETTERS", "LEAST_MARKS", "MOST_MARKS", "MOST_NUMBER", "LETTERS", "BellError", "LostError", "GreatError", "NoBells", "NoNotches", "NoNumber", "NoName", "TooMany", "is_whole", "is_within", "is_name", "is_bell", "check_bells", "is_notch"]
def hn1 : List PySem.Str := ["check_notches", "Peal", "check_name", "check_two", "_law_opened", "_law_pull", "_law_spelt", "_law_calls", "_law_figure", "_law_kit", "_law_far", "_law_text", "_law_is", "_law_both", "_law_anew", "_law_others", "_law_right"]
abbrev hnames : List PySem.Str := hn0 ++ hn1
abbrev hhk : Hook := Kx.hookY 5 hfn htf (Kx.fxOk hxs)
def hob (s : SharedT) : He.AlX := Kx.obsY 5 hfn htf (Kx.fxOk hxs) (HandSHeadRun.getT s)
theorem hob_eq (s : SharedT) : hob s = hhk.obs s.abs := Kx.obsY_eq (HandSHeadRun.getT_eq s)
set_option maxHeartbeats 0 in
theorem hrunA (w : World) : Kx.runA hR hqv hfn hob 30000 hnames w := by
  intro os
  kernel_rfl
set_option maxHeartbeats 0 in
theorem hrunB0 (w : World) : Kx.runC hR (Kx.obB 5 [hx0, hx1]) 30000 w := by
  intro os
  kernel_rfl
set_option maxHeartbeats 0 in
theorem hrunB1 (w : World) : Kx.runC hR (Kx.obB 5 [hx2, hx3, hx4]) 30000 w := by
  intro os
  kernel_rfl
set_option maxHeartbeats 0 in
theorem hrunB2 (w : World) : Kx.runC hR (Kx.obBT 5 [hx5, hx6, hx7] htf) 30000 w := by
  intro os
  kernel_rfl
theorem hrunB (w : World) : Kx.runB hR hfn hob 30000 w := Kx.runCB (b := Kx.obBT 5 hxs htf) (fun _ => rfl) (Kx.runCC (b := Kx.obBT 5 ([hx0, hx1] ++ [hx2, hx3, hx4, hx5, hx6, hx7]) htf) Kx.obBT_cut (hrunB0 w) (Kx.runCC (b := Kx.obBT 5 ([hx2, hx3, hx4] ++ [hx5, hx6, hx7]) htf) Kx.obBT_cut (hrunB1 w) (hrunB2 w)))
theorem hrun (w : World) : HandSHeadRun.RunEq hR hqv hhk hob 30000 hnames w := Kx.runAB (hrunA w) (hrunB w)
end H04
end
section
set_option maxHeartbeats 2000000
namespace Kx
open PySem L2 PySem.Spec PyProof.Rows
/-! ### tuples whose object is known to have no dict of its own: the making rules once more -/
section
variable {X : Cx} {K : PySem.W.Frag}
theorem frz_ok {P : Program} {w : World} {H : Hp} {h : Heap} {xs : List V} {its : List Value} (hz : xs.length ≤ sizeLine) (r : Vals xs its) :
    ObjOk P w H (h.push { cls := .type "tuple", data := .seq its.toArray }) h.objs.size (.frz { cls := .type "tuple", data := .seq its.toArray } (.tup xs)) :=
  ⟨Heap.get?_push_size _ rfl, hz, its, r, ⟨_, Heap.get?_push_size _ rfl, rfl, _, rfl⟩⟩
def tTupF (t : TA) : TE := fun σ H Q => t σ H fun xs H1 => xs.length ≤ sizeLine ∧ ∀ p o, H1 p = none → o.dict = none → Q (.ref p) (upd H1 p (.frz o (.tup xs)))
theorem pe_tupF {es : List Expr} {t : TA} {pos : Pos} {x1} (h : PA X es t) : PE X (.Tuple es x1 pos) (tTupF t) := by
  refine ⟨fun pins s σ H Q I hq => ?_⟩
  refine wpAny_Tuple_spliced (thn (h.run pos pins s σ H _ I hq) fun us s1 ⟨xs, H1, I1, r, z, q⟩ => ⟨by rw [← r.length]; exact z, ?_⟩)
  exact ⟨.ref s1.heap.objs.size, _, I1.laid (t' := s1.toks) (fun b u e => Heap.get?_push_of_some _ e) (Nat.le_refl _) (frz_ok z r), rfl, q _ _ (I1.hok.fresh (Nat.le_refl _)) rfl⟩
def rTupOf (K : PySem.W.Frag) : List V → Hp → VK → Prop := fun xs H Q => ∃ p ys, xs = [.ref p] ∧ ((SqL K H p ys ∧ ∀ l o, H l = none → o.dict = none → Q (.ref l) (upd H l (.frz o (.tup ys)))) ∨ (SqT K H p ys ∧ Q (.ref p) H))
theorem cl_tupleF : CallR X (.type "tuple") (rTupOf X.K) := by
  intro pins s σ H xs us Q I r h
  obtain ⟨p, ys, rfl, h⟩ := h
  obtain ⟨u, rfl, rx⟩ := vals1 r
  cases rx
  rcases h with ⟨hq, q⟩ | ⟨hq, q⟩
  · obtain ⟨its, r1, pl, hz⟩ := I.list hq
    have hl := r1.length
    refine call_tuple_list pl.isList (fun h1 kp => ?_) (by simp only [List.size_toArray] <;> omega)
    have I1 : Inv X pins σ H { s with heap := h1 } := I.kept (t' := s.toks) kp
    exact ⟨.ref h1.objs.size, _, I1.laid (t' := s.toks) (fun b o e => Heap.get?_push_of_some _ e) (Nat.le_refl _) (frz_ok hz r1), rfl, q _ _ (I1.hok.fresh (Nat.le_refl _)) rfl⟩
  · obtain ⟨its, r1, pl, _⟩ := I.tuple hq
    exact call_tuple_same pl ⟨.ref p, H, I, rfl, q⟩
def rCatF (K : PySem.W.Frag) : R2 := fun x y H Q => ∃ a b xs ys, x = .ref a ∧ y = .ref b ∧ SqT K H a xs ∧ SqT K H b ys ∧ xs.length + ys.length ≤ sizeLine ∧
  (xs = [] → Q (.ref b) H) ∧ (xs ≠ [] → ys = [] → Q (.ref a) H) ∧ (xs ≠ [] → ys ≠ [] → ∀ p o, H p = none → o.dict = none → Q (.ref p) (upd H p (.frz o (.tup (xs ++ ys)))))
theorem op_catF : OpR X (binaryOp .Add) (rCatF X.K) := by
  intro pins s σ H x y v u Q I rx ry h
  obtain ⟨a, b, xs, ys, rfl, rfl, ha, hb, hz, q0, q1, q2⟩ := h
  by_cases hx : xs = []
  · exact op_catA pins s σ H _ _ v u Q I rx ry ⟨a, b, xs, ys, rfl, rfl, ha, hb, hz, q0, fun n => absurd hx n, fun n => absurd hx n⟩
  · cases rx
    cases ry
    obtain ⟨its, r1, p1, _⟩ := I.tuple ha
    obtain ⟨its2, r2, p2, _⟩ := I.tuple hb
    refine HT.cat_tup p1 p2 (fun z => hx (r1.nil_iff.mp z)) (fun z => ⟨.ref a, H, I, rfl, q1 hx (r2.nil_iff.mp z)⟩) (fun z => ?_) (by rw [← r1.length, ← r2.length]; exact hz)
    exact ⟨.ref s.heap.objs.size, _, I.laid (t' := s.toks) (fun b ob q => Heap.get?_push_of_some _ q) (Nat.le_refl _) (frz_ok (by rw [List.length_append]; exact hz) (r1.append r2)), rfl, q2 hx (fun w => z (r2.nil_iff.mpr w)) _ _ (I.hok.fresh (Nat.le_refl _)) rfl⟩
def rSlF (K : PySem.W.Frag) : V → Option Int → Option Int → Hp → VK → Prop := fun x lo hi H Q => ∃ a xs, x = .ref a ∧ SqT K H a xs ∧
  (HT.sIx xs.length 0 lo = 0 ∧ HT.sIx xs.length xs.length hi = xs.length → Q (.ref a) H) ∧ (¬ (HT.sIx xs.length 0 lo = 0 ∧ HT.sIx xs.length xs.length hi = xs.length) → ∀ p o, H p = none → o.dict = none → Q (.ref p) (upd H p (.frz o (.tup (cutV xs lo hi)))))
theorem sl_tupF : SlR X (rSlF X.K) := by
  intro pins s σ H x v vl vu lo hi sl Q I rx hs pl pu h
  obtain ⟨a, xs, rfl, hx, q1, q2⟩ := h
  by_cases hw : HT.sIx xs.length 0 lo = 0 ∧ HT.sIx xs.length xs.length hi = xs.length
  · exact sl_tupA pins s σ H _ v vl vu lo hi sl Q I rx hs pl pu ⟨a, xs, rfl, hx, q1, fun n => absurd hw n⟩
  · cases rx
    obtain ⟨its, r, ht, hz⟩ := I.tuple hx
    have hl : its.toArray.size = xs.length := by rw [List.size_toArray]; exact r.length.symm
    refine ⟨"tuple", _, PyProof.Rows.slot_tuple_getitem.lookup, ht.typeIs, ?_⟩
    refine HT.getItem_tuple_cut ht hs pl pu (by rw [hl]; exact hw) ?_ (by rw [hl]; exact hz)
    rw [hl]
    exact ⟨.ref s.heap.objs.size, _, I.laid (t' := s.toks) (fun b ob q => Heap.get?_push_of_some _ q) (Nat.le_refl _) (frz_ok (Nat.le_trans (cutV_length xs lo hi) hz) ((r.drop (HT.sIx xs.length 0 lo)).take (HT.sIx xs.length xs.length hi - HT.sIx xs.length 0 lo))), rfl, q2 hw _ _ (I.hok.fresh (Nat.le_refl _)) rfl⟩
/-- a tuple that is known to have no dict of its own -/
def TupG (K : PySem.W.Frag) (G : Hp) (a : Addr) (xs : List V) : Prop :=
  (∃ o, G a = some (.frz o (.tup xs)) ∧ o.dict = none) ∨ ∃ (o : Obj) (its : Array Value) (n : Nat), K.lookup a = some o ∧ o.cls = .type "tuple" ∧ o.dict = none ∧ o.data = .seq its n ∧ its.size ≤ sizeLine ∧ Vals xs its.toList
theorem TupG.sq {G : Hp} {a : Addr} {xs : List V} (h : TupG K G a xs) : SqT K G a xs := by
  rcases h with ⟨o, h, _⟩ | ⟨o, its, n, h1, h2, _, h4, h5, h6⟩
  · exact .inl (.inr ⟨o, h⟩)
  · exact .inr ⟨o, its, n, h1, h2, h4, h5, h6⟩
theorem TupG.up {G H : Hp} {a : Addr} {xs : List V} (s : Same G H) (h : TupG K G a xs) : TupG K H a xs := by
  rcases h with ⟨o, h, hd⟩ | h
  · exact .inl ⟨o, s _ _ h, hd⟩
  · exact .inr h
/-! the call of a method of such a tuple -/
end
end Kx
end
section
set_option maxHeartbeats 2000000
namespace Kx
open PySem L2
/-! ### what is known: G stands still, M may be changed, both are tracked in H -/
/-- the tables of code objects that are looked after: each with the name that its code objects bear -/
class Tb where
  t : List (Addr × Str)
/-- no table, nothing of the model's own words -/
def Nt : HO → Prop
  | .tbl _ => False
  | .ext _ => False
  | _ => True
/-- what may be changed -/
def Mt : Option HO → Prop
  | some (.lst _) => True
  | some (.dK _) => True
  | some (.dT _) => True
  | some (.ins _ _ _) => True
  | _ => False
theorem Mt.nt {o : HO} (h : Mt (some o)) : Nt o := by cases o <;> first | exact trivial | exact h.elim
/-- no table -/
def NoTbl : HO → Prop
  | .tbl _ => False
  | _ => True
theorem Nt.noTbl {o : HO} (h : Nt o) : NoTbl o := by cases o <;> first | exact trivial | exact h.elim
/-- the tables stand in H; none stands in G -/
structure TbG [T : Tb] (G H : Hp) : Prop where
  t : LamX.Tabs T.t H
  n : ∀ a o, G a = some o → NoTbl o
section
variable [Tb] {G H : Hp} {p : Addr} {o u : HO}
theorem tabs_at (h : TbG G H) (hp : ∀ u, H p = some u → Nt u) : LamX.Tabs Tb.t (upd H p o) := fun q hq => by
  obtain ⟨ps, h1, h2, h3⟩ := h.t q hq
  have ne : ∀ {a : Addr} {u : HO}, H a = some u → ¬ Nt u → a ≠ p := fun {a u} e n z => by
    subst z
    exact n (hp u e)
  refine ⟨ps, by rw [upd_ne (ne h1 id)]; exact h1, h2, fun pos cv hc => ?_⟩
  obtain ⟨c, e1, e2⟩ := h3 pos cv hc
  exact ⟨c, e1, by rw [upd_ne (ne e2 id)]; exact e2⟩
theorem no_upd (h : ∀ a o, G a = some o → NoTbl o) (ho : NoTbl o) : ∀ a u, (upd G p o) a = some u → NoTbl u := fun a u e => by
  by_cases ha : a = p
  · subst ha; rw [upd_same] at e; cases e; exact ho
  · rw [upd_ne ha] at e; exact h a u e
theorem tb_new (h : TbG G H) (hp : H p = none) : TbG G (upd H p o) := ⟨tabs_at h fun u e => (by rw [hp] at e; cases e), h.n⟩
theorem tb_newG (h : TbG G H) (hp : H p = none) (ho : NoTbl o) : TbG (upd G p o) (upd H p o) := ⟨tabs_at h fun u e => (by rw [hp] at e; cases e), no_upd h.n ho⟩
theorem tb_of (h : TbG G H) (hp : H p = some u) (n : Nt u) : TbG G (upd H p o) := ⟨tabs_at h fun v e => (by rw [hp] at e; cases e; exact n), h.n⟩
theorem tb_G (h : TbG G H) (ho : NoTbl o) : TbG (upd G p o) H := ⟨h.t, no_upd h.n ho⟩
end
structure Ok [Tb] (G M H : Hp) : Prop where
  g : Same G H
  m : Same M H
  d : ∀ a o, M a = some o → G a = none
  mu : ∀ a o, M a = some o → Mt (some o)
  tb : TbG G H
theorem Same.new {H : Hp} {p : Addr} {o : HO} (h : H p = none) : Same H (upd H p o) := fun a u e => by
  rw [upd_ne (ne_of_none e h)]
  exact e
theorem Same.none {G H : Hp} (s : Same G H) {p : Addr} (h : H p = none) : G p = none := s.free h
/-- a new object that stands still -/
theorem Ok.newG [Tb] {G M H : Hp} {p : Addr} (o : HO) (k : Ok G M H) (h : H p = none) (hn : NoTbl o := by exact trivial) : Ok (upd G p o) M (upd H p o) := by
  refine ⟨fun a u e => ?_, fun a u e => ?_, fun a u e => ?_, k.mu, tb_newG k.tb h hn⟩
  · by_cases ha : a = p
    · subst ha; rw [upd_same] at e ⊢; exact e
    · rw [upd_ne ha] at e ⊢; exact k.g a u e
  · rw [upd_ne (ne_of_none (k.m a u e) h)]; exact k.m a u e
  · rw [upd_ne (ne_of_none (k.m a u e) h)]; exact k.d a u e
theorem mu_upd {M : Hp} {p : Addr} {o : HO} (k : ∀ a o, M a = some o → Mt (some o)) (hm : Mt (some o)) : ∀ a u, (upd M p o) a = some u → Mt (some u) := fun a u e => by
  by_cases ha : a = p
  · subst ha; rw [upd_same] at e; cases e; exact hm
  · rw [upd_ne ha] at e; exact k a u e
/-- a new object that may be changed -/
theorem Ok.newM [Tb] {G M H : Hp} {p : Addr} (o : HO) (k : Ok G M H) (h : H p = none) (hm : Mt (some o) := by exact trivial) : Ok G (upd M p o) (upd H p o) := by
  refine ⟨fun a u e => ?_, fun a u e => ?_, fun a u e => ?_, mu_upd k.mu hm, tb_new k.tb h⟩
  · rw [upd_ne (ne_of_none (k.g a u e) h)]; exact k.g a u e
  · by_cases ha : a = p
    · subst ha; rw [upd_same] at e ⊢; exact e
    · rw [upd_ne ha] at e ⊢; exact k.m a u e
  · by_cases ha : a = p
    · subst ha; exact Same.none k.g h
    · rw [upd_ne ha] at e; exact k.d a u e
/-- a changed object -/
theorem Ok.chg [Tb] {G M H : Hp} {p : Addr} {u : HO} (o : HO) (k : Ok G M H) (h : M p = some u) (hm : Mt (some o) := by exact trivial) : Ok G (upd M p o) (upd H p o) := by
  have gp : G p = none := k.d p u h
  refine ⟨fun a u e => ?_, fun a u e => ?_, fun a u e => ?_, mu_upd k.mu hm, tb_of k.tb (k.m p u h) (k.mu p u h).nt⟩
  · rw [upd_ne (ne_of_none e gp)]; exact k.g a u e
  · by_cases ha : a = p
    · subst ha; rw [upd_same] at e ⊢; exact e
    · rw [upd_ne ha] at e ⊢; exact k.m a u e
  · by_cases ha : a = p
    · subst ha; exact gp
    · rw [upd_ne ha] at e; exact k.d a u e
/-- what may be changed is let go: it stands still from here on -/
theorem Ok.frz [Tb] {G M H : Hp} {p : Addr} {o : HO} (k : Ok G (upd M p o) H) (h : M p = none) : Ok (upd G p o) M H := by
  refine ⟨fun a u e => ?_, fun a u e => ?_, fun a u e => ?_, fun a u e => k.mu a u (by rw [upd_ne (ne_of_none e h)]; exact e), tb_G k.tb (k.mu p o upd_same).nt.noTbl⟩
  · by_cases ha : a = p
    · subst ha; rw [upd_same] at e; exact k.m a u (by rw [upd_same]; exact e)
    · rw [upd_ne ha] at e; exact k.g a u e
  · exact k.m a u (by rw [upd_ne (ne_of_none e h)]; exact e)
  · have ha := ne_of_none e h
    rw [upd_ne ha]
    exact k.d a u (by rw [upd_ne ha]; exact e)
theorem Ok.less [Tb] {G M M' H : Hp} (k : Ok G M' H) (s : Same M M') : Ok G M H := ⟨k.g, fun a o e => k.m a o (s a o e), fun a o e => k.d a o (s a o e), fun a o e => k.mu a o (s a o e), k.tb⟩
theorem Ok.gp [Tb] {G M H : Hp} {p : Addr} {o : HO} (k : Ok G (upd M p o) H) : G p = none := k.d p o upd_same
theorem upd_back {M : Hp} {p : Addr} {o : HO} (h : M p = some o) : upd M p o = M := by
  funext a
  unfold upd
  split
  · next e => rw [e, h]
  · rfl
theorem upd_comm {M : Hp} {p q : Addr} {o u : HO} (h : p ≠ q) : upd (upd M p o) q u = upd (upd M q u) p o := by
  funext a
  unfold upd
  by_cases h1 : a = q <;> by_cases h2 : a = p
  · subst h1; exact absurd h2.symm h
  · rw [if_pos h1, if_neg h2, if_pos h1]
  · rw [if_neg h1, if_pos h2, if_pos h2]
  · rw [if_neg h1, if_neg h2, if_neg h2, if_neg h1]
theorem rd_up {G H : Hp} {a : Addr} {u : HO} (e : Same G H) (h : Rd G a u) : Rd H a u := by
  rcases h with h | ⟨o, h⟩
  · exact Or.inl (e a _ h)
  · exact Or.inr ⟨o, e a _ h⟩
/-- the class that the top has given this name -/
def clsAt (K : PySem.W.Frag) (n : Str) : Addr := match PySem.W.nsIn K mainGlobals n with
  | some (some (.ref C)) => C
  | _ => 0
theorem clsAt_of {K : PySem.W.Frag} {n : Str} {C : Addr} (h : PySem.W.nsIn K mainGlobals n = some (some (.ref C))) : clsAt K n = C := by
  unfold clsAt
  rw [h]
/-! ### data in the heap: lists are plain tracked ones; texts have code points; dicts and instances stand still -/
inductive Dat where
  | none
  | bool (b : Bool)
  | int (i : Int)
  | str (s : Str)
  | list (xs : List Dat)
  | tuple (xs : List Dat)
  /-- a tuple of which no more is known -/
  | rtup (xs : List Dat)
  /-- a dict by ints and texts: its keys, its values -/
  | dK (ks : List Key) (xs : List Dat)
  /-- a dict by tuples of these -/
  | dT (ks : List (List Key)) (xs : List Dat)
  /-- an instance of the class of this name: its fields, their values -/
  | ins (C : Str) (ns : List Str) (xs : List Dat)
abbrev sok (x : Str) : Bool := PyData.strOk x
def keyOk : Key → Bool
  | .inl _ => true
  | .inr x => sok x
mutual
inductive Dq (K : PySem.W.Frag) (G : Hp) : V → Dat → Prop
  | non : Dq K G .non .none
  | bl (b : Bool) : Dq K G (.bl b) (.bool b)
  | int (i : Int) : Dq K G (.int i) (.int i)
  | str {x : Str} (h : sok x = true) : Dq K G (.str x) (.str x)
  | lst {a : Addr} {xs : List V} {ds : List Dat} : G a = some (.lst xs) → DqAll K G xs ds → Dq K G (.ref a) (.list ds)
  | tup {a : Addr} {xs : List V} {ds : List Dat} : TupG K G a xs → DqAll K G xs ds → Dq K G (.ref a) (.tuple ds)
  | rtup {a : Addr} {xs : List V} {ds : List Dat} : G a = some (.tup xs) → DqAll K G xs ds → Dq K G (.ref a) (.rtup ds)
  | dK {a : Addr} {kvs : List (Key × V)} {ks : List Key} {ds : List Dat} : Rd G a (.dK kvs) → kvs.map (·.1) = ks → ks.all keyOk = true → DqAll K G (kvs.map (·.2)) ds → Dq K G (.ref a) (.dK ks ds)
  | dT {a : Addr} {kvs : List (List Key × V)} {ks : List (List Key)} {ds : List Dat} : Rd G a (.dT kvs) → kvs.map (·.1) = ks → (ks.all fun k => k.all keyOk) = true → DqAll K G (kvs.map (·.2)) ds → Dq K G (.ref a) (.dT ks ds)
  | ins {a dx : Addr} {C : Str} {fs : List (Str × V)} {ns : List Str} {ds : List Dat} : G a = some (.ins (clsAt K C) dx fs) → fs.map (·.1) = ns → DqAll K G (fs.map (·.2)) ds → Dq K G (.ref a) (.ins C ns ds)
inductive DqAll (K : PySem.W.Frag) (G : Hp) : List V → List Dat → Prop
  | nil : DqAll K G [] []
  | cons {v : V} {d : Dat} {vs : List V} {ds : List Dat} : Dq K G v d → DqAll K G vs ds → DqAll K G (v :: vs) (d :: ds)
end
/-! plain data, as the library has them -/
mutual
def toPy : Dat → PyData
  | .none => .none
  | .bool b => .bool b
  | .int i => .int i
  | .str x => .str x
  | .list xs => .list (toPys xs)
  | .tuple xs => .tuple (toPys xs)
  | .rtup xs => .tuple (toPys xs)
  | .dK _ _ => .none
  | .dT _ _ => .none
  | .ins _ _ _ => .none
def toPys : List Dat → List PyData
  | [] => []
  | x :: xs => toPy x :: toPys xs
def pur : Dat → Bool
  | .none => true
  | .bool _ => true
  | .int _ => true
  | .str _ => true
  | .list xs => purs xs
  | .tuple xs => purs xs
  | .rtup xs => purs xs
  | .dK _ _ => false
  | .dT _ _ => false
  | .ins _ _ _ => false
def purs : List Dat → Bool
  | [] => true
  | x :: xs => pur x && purs xs
end
section
variable {K : PySem.W.Frag}
theorem sqT_up {G H : Hp} {a : Addr} {xs : List V} (e : Same G H) (h : SqT K G a xs) : SqT K H a xs := by
  rcases h with h | h
  · exact Or.inl (rd_up e h)
  · exact Or.inr h
mutual
theorem dp_up {G H : Hp} (e : Same G H) : ∀ (d : Dat) {v : V}, Dq K G v d → Dq K H v d
  | .none, _, h => by cases h; exact .non
  | .bool b, _, h => by cases h; exact .bl b
  | .int i, _, h => by cases h; exact .int i
  | .str x, _, h => by
    cases h with
    | str h => exact .str h
  | .list ds, _, h => by
    cases h with
    | lst a b => exact .lst (e _ _ a) (dpAll_up e ds b)
  | .tuple ds, _, h => by
    cases h with
    | tup a b => exact .tup (a.up e) (dpAll_up e ds b)
  | .rtup ds, _, h => by
    cases h with
    | rtup a b => exact .rtup (e _ _ a) (dpAll_up e ds b)
  | .dK ks ds, _, h => by
    cases h with
    | dK a b c d => exact .dK (rd_up e a) b c (dpAll_up e ds d)
  | .dT ks ds, _, h => by
    cases h with
    | dT a b c d => exact .dT (rd_up e a) b c (dpAll_up e ds d)
  | .ins C ns ds, _, h => by
    cases h with
    | ins a b c => exact .ins (e _ _ a) b (dpAll_up e ds c)
theorem dpAll_up {G H : Hp} (e : Same G H) : ∀ (ds : List Dat) {vs : List V}, DqAll K G vs ds → DqAll K H vs ds
  | [], _, h => by cases h; exact .nil
  | d :: ds, _, h => by
    cases h with
    | cons a b => exact .cons (dp_up e d a) (dpAll_up e ds b)
end
mutual
theorem dq_dp {G : Hp} : ∀ (d : Dat) {v : V}, pur d = true → Dq K G v d → Dp K G v (toPy d)
  | .none, _, _, h => by cases h; unfold toPy; exact .non
  | .bool b, _, _, h => by cases h; unfold toPy; exact .bl b
  | .int i, _, _, h => by cases h; unfold toPy; exact .int i
  | .str x, _, _, h => by cases h; unfold toPy; exact .str x
  | .list ds, _, p, h => by
    cases h with
    | lst a b => unfold toPy; exact .lst (.inl (.inl a)) (dqAll_dp ds (by unfold pur at p; exact p) b)
  | .tuple ds, _, p, h => by
    cases h with
    | tup a b => unfold toPy; exact .tup a.sq (dqAll_dp ds (by unfold pur at p; exact p) b)
  | .rtup ds, _, p, h => by
    cases h with
    | rtup a b => unfold toPy; exact .tup (.inl (.inl a)) (dqAll_dp ds (by unfold pur at p; exact p) b)
  | .dK _ _, _, p, h => by unfold pur at p; cases p
  | .dT _ _, _, p, h => by unfold pur at p; cases p
  | .ins _ _ _, _, p, h => by unfold pur at p; cases p
theorem dqAll_dp {G : Hp} : ∀ (ds : List Dat) {vs : List V}, purs ds = true → DqAll K G vs ds → DpAll K G vs (toPys ds)
  | [], _, _, h => by cases h; unfold toPys; exact .nil
  | d :: ds, _, p, h => by
    cases h with
    | cons a b =>
      unfold purs at p
      rw [Bool.and_eq_true] at p
      unfold toPys
      exact .cons (dq_dp d p.1 a) (dqAll_dp ds p.2 b)
end
/-! what stands in the heap can be laid -/
mutual
theorem dq_lay {G : Hp} : ∀ (d : Dat) {v : V}, pur d = true → Dq K G v d → (toPy d).canLay0 = true
  | .none, _, _, h => by unfold toPy PyData.canLay0; rfl
  | .bool b, _, _, h => by unfold toPy PyData.canLay0; rfl
  | .int i, _, _, h => by unfold toPy PyData.canLay0; rfl
  | .str x, _, _, h => by
    cases h with
    | str h => unfold toPy PyData.canLay0; exact h
  | .list ds, _, p, h => by
    cases h with
    | lst a b => unfold toPy PyData.canLay0; exact dqAll_lay ds (by unfold pur at p; exact p) b
  | .tuple ds, _, p, h => by
    cases h with
    | tup a b => unfold toPy PyData.canLay0; exact dqAll_lay ds (by unfold pur at p; exact p) b
  | .rtup ds, _, p, h => by
    cases h with
    | rtup a b => unfold toPy PyData.canLay0; exact dqAll_lay ds (by unfold pur at p; exact p) b
  | .dK _ _, _, p, h => by unfold pur at p; cases p
  | .dT _ _, _, p, h => by unfold pur at p; cases p
  | .ins _ _ _, _, p, h => by unfold pur at p; cases p
theorem dqAll_lay {G : Hp} : ∀ (ds : List Dat) {vs : List V}, purs ds = true → DqAll K G vs ds → PyData.canLayAll0 (toPys ds) = true
  | [], _, _, h => by unfold toPys PyData.canLayAll0; rfl
  | d :: ds, _, p, h => by
    cases h with
    | cons a b =>
      unfold purs at p
      rw [Bool.and_eq_true] at p
      unfold toPys PyData.canLayAll0
      rw [dq_lay d p.1 a, dqAll_lay ds p.2 b]
      rfl
end
theorem dpAll_len {G : Hp} : ∀ {ds : List Dat} {vs : List V}, DqAll K G vs ds → vs.length = ds.length
  | _, _, .nil => rfl
  | _, _, .cons _ b => congrArg (· + 1) (dpAll_len b)
theorem dpAll_get {G : Hp} : ∀ {ds : List Dat} {vs : List V} {i : Nat} {d : Dat}, DqAll K G vs ds → ds[i]? = some d → ∃ v, vs[i]? = some v ∧ Dq K G v d
  | _, _, _, _, .nil, h => by simp at h
  | _, _, 0, _, .cons a _, h => by simp at h; subst h; exact ⟨_, rfl, a⟩
  | _, _, i + 1, d, .cons _ b, h => by
    obtain ⟨v, h1, h2⟩ := dpAll_get (i := i) (d := d) b (by simpa using h)
    exact ⟨v, by simpa using h1, h2⟩
theorem dpAll_app {G : Hp} : ∀ {ds es : List Dat} {vs ws : List V}, DqAll K G vs ds → DqAll K G ws es → DqAll K G (vs ++ ws) (ds ++ es)
  | _, _, _, _, .nil, h => h
  | _, _, _, _, .cons a b, h => .cons a (dpAll_app b h)
theorem dpAll_drop {G : Hp} : ∀ {ds : List Dat} {vs : List V} (n : Nat), DqAll K G vs ds → DqAll K G (vs.drop n) (ds.drop n)
  | _, _, 0, h => h
  | _, _, _ + 1, .nil => .nil
  | _, _, n + 1, .cons _ b => dpAll_drop n b
theorem dpAll_take {G : Hp} : ∀ {ds : List Dat} {vs : List V} (n : Nat), DqAll K G vs ds → DqAll K G (vs.take n) (ds.take n)
  | _, _, 0, _ => .nil
  | _, _, _ + 1, .nil => .nil
  | _, _, n + 1, .cons a b => .cons a (dpAll_take n b)
theorem dpAll_erase {G : Hp} : ∀ {ds : List Dat} {vs : List V} (n : Nat), DqAll K G vs ds → DqAll K G (vs.eraseIdx n) (ds.eraseIdx n)
  | _, _, _, .nil => .nil
  | _, _, 0, .cons _ b => b
  | _, _, n + 1, .cons x b => .cons x (dpAll_erase n b)
theorem dpAll_bls {G : Hp} : ∀ {ns : List Bool} {vs : List V}, DqAll K G vs (ns.map Dat.bool) → vs = ns.map V.bl
  | [], _, h => by cases h; rfl
  | n :: ns, _, h => by
    cases h with
    | cons a b => cases a; exact congrArg (V.bl n :: ·) (dpAll_bls b)
theorem dpAll_strs {G : Hp} : ∀ {ns : List Str} {vs : List V}, DqAll K G vs (ns.map Dat.str) → vs = ns.map V.str
  | [], _, h => by cases h; rfl
  | n :: ns, _, h => by
    cases h with
    | cons a b => cases a; exact congrArg (V.str n :: ·) (dpAll_strs b)
end
/-! ### what evaluates to what -/
abbrev VP := V → Hp → Prop
def Mo (P : VP) : Prop := ∀ v G G', Same G G' → P v G → P v G'
abbrev DD (K : PySem.W.Frag) (d : Dat) : VP := fun v G => Dq K G v d
abbrev OW (p : Addr) : VP := fun v _ => v = .ref p
theorem mo_dd {K : PySem.W.Frag} {d : Dat} : Mo (DD K d) := fun _ _ _ s h => dp_up s d h
theorem mo_ow {p : Addr} : Mo (OW p) := fun _ _ _ _ h => h
def Ev [Tb] (te : TE) (σ : St) (G M M' : Hp) (P : VP) : Prop :=
  ∀ G0 H, Same G G0 → Ok G0 M H → ∀ Q : VK, (∀ v G' H', Same G0 G' → Ok G' M' H' → P v G' → Q v H') → te σ H Q
def EvA [Tb] (ta : TA) (σ : St) (G M M' : Hp) (P : List V → Hp → Prop) : Prop :=
  ∀ G0 H, Same G G0 → Ok G0 M H → ∀ Q : List V → Hp → Prop, (∀ vs G' H', Same G0 G' → Ok G' M' H' → P vs G' → Q vs H') → ta σ H Q
def EvT [Tb] (tt : TT) (σ : St) (G M M' : Hp) (b : Bool) : Prop :=
  ∀ G0 H, Same G G0 → Ok G0 M H → ∀ Q : Bool → Hp → Prop, (∀ G' H', Same G0 G' → Ok G' M' H' → Q b H') → tt σ H Q
/-- a new list of one's own -/
def EvL [Tb] (K : PySem.W.Frag) (te : TE) (σ : St) (G M M' : Hp) (ds : List Dat) : Prop :=
  ∀ G0 H, Same G G0 → Ok G0 M H → ∀ Q : VK, (∀ p vs G' H', Same G0 G' → Ok G' (upd M' p (.lst vs)) H' → M' p = none → DqAll K G' vs ds → Q (.ref p) H') → te σ H Q
def EvO [Tb] (to : TO) (σ : St) (G M M' : Hp) (o : Option Int) : Prop :=
  ∀ G0 H, Same G G0 → Ok G0 M H → ∀ Q : Option Int → Hp → Prop, (∀ G' H', Same G0 G' → Ok G' M' H' → Q o H') → to σ H Q
/-- a rule on values -/
def RV2 [Tb] (r : R2) (G M M' : Hp) (P1 P2 P : VP) : Prop :=
  ∀ x y G0 H, Same G G0 → Ok G0 M H → P1 x G0 → P2 y G0 → ∀ Q : VK, (∀ v G' H', Same G0 G' → Ok G' M' H' → P v G' → Q v H') → r x y H Q
def RVn [Tb] (r : List V → Hp → VK → Prop) (G M M' : Hp) (Ps : List V → Hp → Prop) (P : VP) : Prop :=
  ∀ xs G0 H, Same G G0 → Ok G0 M H → Ps xs G0 → ∀ Q : VK, (∀ v G' H', Same G0 G' → Ok G' M' H' → P v G' → Q v H') → r xs H Q
def RVnL [Tb] (K : PySem.W.Frag) (r : List V → Hp → VK → Prop) (G M M' : Hp) (Ps : List V → Hp → Prop) (ds : List Dat) : Prop :=
  ∀ xs G0 H, Same G G0 → Ok G0 M H → Ps xs G0 → ∀ Q : VK, (∀ p vs G' H', Same G0 G' → Ok G' (upd M' p (.lst vs)) H' → M' p = none → DqAll K G' vs ds → Q (.ref p) H') → r xs H Q
def RV2L [Tb] (K : PySem.W.Frag) (r : R2) (G M M' : Hp) (P1 P2 : VP) (ds : List Dat) : Prop :=
  ∀ x y G0 H, Same G G0 → Ok G0 M H → P1 x G0 → P2 y G0 → ∀ Q : VK, (∀ p vs G' H', Same G0 G' → Ok G' (upd M' p (.lst vs)) H' → M' p = none → DqAll K G' vs ds → Q (.ref p) H') → r x y H Q
def nilP : List V → Hp → Prop := fun vs _ => vs = []
def conP (P : VP) (R : List V → Hp → Prop) : List V → Hp → Prop := fun vs G => ∃ v r, vs = v :: r ∧ P v G ∧ R r G
section
variable {K : PySem.W.Frag} {σ : St} {G G' M M1 M2 M3 : Hp} {ta tb te tc : TE} {P P1 P2 : VP} {d e : Dat} {ds es : List Dat}
theorem Ev.up [Tb] (s : Same G G') (h : Ev te σ G M M1 P) : Ev te σ G' M M1 P := fun G0 H a => h G0 H (s.trans a)
theorem EvT.up [Tb] {tt : TT} {b : Bool} (s : Same G G') (h : EvT tt σ G M M1 b) : EvT tt σ G' M M1 b := fun G0 H a => h G0 H (s.trans a)
theorem EvL.up [Tb] (s : Same G G') (h : EvL K te σ G M M1 ds) : EvL K te σ G' M M1 ds := fun G0 H a => h G0 H (s.trans a)
theorem EvL.ev [Tb] (h : EvL K te σ G M M1 ds) : Ev te σ G M M1 (DD K (.list ds)) := fun G0 H s k Q q =>
  h G0 H s k Q fun p vs G' H' s' k' hp hd => q _ (upd G' p (.lst vs)) H' (s'.trans (Same.new k'.gp)) (k'.frz hp) (.lst upd_same (dpAll_up (Same.new k'.gp) ds hd))
theorem ev_var [Tb] {i : Nat} {v : V} (h : σ[i]? = some (some v)) (m : Mo P) (hp : P v G) : Ev (tVar i) σ G M M P := fun G0 H s k Q q =>
  ⟨v, h, q v G0 H (Same.refl G0) k (m v G G0 s hp)⟩
theorem ev_d [Tb] {i : Nat} {v : V} (h : σ[i]? = some (some v)) (hp : Dq K G v d) : Ev (tVar i) σ G M M (DD K d) := ev_var h mo_dd hp
theorem ev_own [Tb] {i : Nat} {p : Addr} (h : σ[i]? = some (some (.ref p))) : Ev (tVar i) σ G M M (OW p) := ev_var h mo_ow rfl
theorem ev_c [Tb] {v : V} (hp : ∀ G, Dq K G v d) : Ev (tC v) σ G M M (DD K d) := fun G0 H s k Q q => q v G0 H (Same.refl G0) k (hp G0)
theorem ev_int [Tb] {i : Int} : Ev (tC (.int i)) σ G M M (DD K (.int i)) := ev_c fun _ => .int i
theorem ev_str [Tb] {x : Str} (h : sok x = true) : Ev (tC (.str x)) σ G M M (DD K (.str x)) := ev_c fun _ => .str h
theorem ev_bl [Tb] {b : Bool} : Ev (tC (.bl b)) σ G M M (DD K (.bool b)) := ev_c fun _ => .bl b
theorem ev_non [Tb] : Ev (tC .non) σ G M M (DD K .none) := ev_c fun _ => .non
theorem ev_op [Tb] {r : R2} (m : Mo P1) (ha : Ev ta σ G M M1 P1) (hb : Ev tb σ G M1 M2 P2) (hr : RV2 r G M2 M3 P1 P2 P) : Ev (tOp r ta tb) σ G M M3 P := fun G0 H s k Q q =>
  ha G0 H s k _ fun x G1 H1 s1 k1 hx => hb G1 H1 (s.trans s1) k1 _ fun y G2 H2 s2 k2 hy => hr x y G2 H2 ((s.trans s1).trans s2) k2 (m x G1 G2 s2 hx) hy Q fun v G3 H3 s3 k3 hv => q v G3 H3 ((s1.trans s2).trans s3) k3 hv
theorem el_op [Tb] {r : R2} (m : Mo P1) (ha : Ev ta σ G M M1 P1) (hb : Ev tb σ G M1 M2 P2) (hr : RV2L K r G M2 M3 P1 P2 ds) : EvL K (tOp r ta tb) σ G M M3 ds := fun G0 H s k Q q =>
  ha G0 H s k _ fun x G1 H1 s1 k1 hx => hb G1 H1 (s.trans s1) k1 _ fun y G2 H2 s2 k2 hy => hr x y G2 H2 ((s.trans s1).trans s2) k2 (m x G1 G2 s2 hx) hy Q fun p vs G3 H3 s3 k3 hv => q p vs G3 H3 ((s1.trans s2).trans s3) k3 hv
theorem ea_nil [Tb] : EvA tNil σ G M M nilP := fun G0 H s k Q q => q [] G0 H (Same.refl _) k rfl
theorem ea_cons [Tb] {tr : TA} {R : List V → Hp → Prop} (m : Mo P) (ha : Ev ta σ G M M1 P) (hr : EvA tr σ G M1 M2 R) : EvA (tCons ta tr) σ G M M2 (conP P R) := fun G0 H s k Q q =>
  ha G0 H s k _ fun x G1 H1 s1 k1 hx => hr G1 H1 (s.trans s1) k1 _ fun xs G2 H2 s2 k2 hy => q (x :: xs) G2 H2 (s1.trans s2) k2 ⟨x, xs, rfl, m x G1 G2 s2 hx, hy⟩
theorem ea_d [Tb] {tr : TA} {R : List V → Hp → Prop} (ha : Ev ta σ G M M1 (DD K d)) (hr : EvA tr σ G M1 M2 R) : EvA (tCons ta tr) σ G M M2 (conP (DD K d) R) := ea_cons mo_dd ha hr
theorem ev_cb [Tb] {r : List V → Hp → VK → Prop} {t : TA} {R : List V → Hp → Prop} (ha : EvA t σ G M M1 R) (hr : RVn r G M1 M2 R P) : Ev (tCB r t) σ G M M2 P := fun G0 H s k Q q =>
  ha G0 H s k _ fun xs G1 H1 s1 k1 hx => hr xs G1 H1 (s.trans s1) k1 hx Q fun v G2 H2 s2 k2 hv => q v G2 H2 (s1.trans s2) k2 hv
theorem el_cb [Tb] {r : List V → Hp → VK → Prop} {t : TA} {R : List V → Hp → Prop} (ha : EvA t σ G M M1 R) (hr : RVnL K r G M1 M2 R ds) : EvL K (tCB r t) σ G M M2 ds := fun G0 H s k Q q =>
  ha G0 H s k _ fun xs G1 H1 s1 k1 hx => hr xs G1 H1 (s.trans s1) k1 hx Q fun p vs G2 H2 s2 k2 hv => q p vs G2 H2 (s1.trans s2) k2 hv
/-- values of a list of data -/
def allP (K : PySem.W.Frag) (ds : List Dat) : List V → Hp → Prop := fun vs G => DqAll K G vs ds
theorem ea_nilD [Tb] : EvA tNil σ G M M (allP K []) := fun G0 H s k Q q => q [] G0 H (Same.refl _) k .nil
theorem ea_consD [Tb] {tr : TA} (ha : Ev ta σ G M M1 (DD K d)) (hr : EvA tr σ G M1 M2 (allP K ds)) : EvA (tCons ta tr) σ G M M2 (allP K (d :: ds)) := fun G0 H s k Q q =>
  ha G0 H s k _ fun x G1 H1 s1 k1 hx => hr G1 H1 (s.trans s1) k1 _ fun xs G2 H2 s2 k2 hy => q (x :: xs) G2 H2 (s1.trans s2) k2 (.cons (dp_up s2 d hx) hy)
theorem ev_tup [Tb] {t : TA} (ha : EvA t σ G M M1 (allP K ds)) (hl : ds.length ≤ sizeLine := by simp [sizeLine_eq]) : Ev (tTupF t) σ G M M1 (DD K (.tuple ds)) := fun G0 H s k Q q =>
  ha G0 H s k _ fun xs G1 H1 s1 k1 hx => ⟨by rw [dpAll_len hx]; exact hl, fun p o hp hd => q _ (upd G1 p (.frz o (.tup xs))) _ (s1.trans (Same.new (Same.none k1.g hp))) (k1.newG _ hp) (.tup (.inl ⟨o, upd_same, hd⟩) (dpAll_up (Same.new (Same.none k1.g hp)) ds hx))⟩
theorem newL [Tb] {Q : VK} {G0 G1 H1 M1 : Hp} {xs : List V} (s1 : Same G0 G1) (k1 : Ok G1 M1 H1) (hx : DqAll K G1 xs ds) (q : ∀ p vs G' H', Same G0 G' → Ok G' (upd M1 p (.lst vs)) H' → M1 p = none → DqAll K G' vs ds → Q (.ref p) H') : ∀ p, H1 p = none → Q (.ref p) (upd H1 p (.lst xs)) :=
  fun p hp => q p xs G1 _ s1 (k1.newM _ hp) (Same.none k1.m hp) hx
theorem newT [Tb] {Q : VK} {G0 G1 H1 M1 : Hp} {xs : List V} (s1 : Same G0 G1) (k1 : Ok G1 M1 H1) (hx : DqAll K G1 xs ds) (q : ∀ v G' H', Same G0 G' → Ok G' M1 H' → Dq K G' v (.tuple ds) → Q v H') : ∀ p o, H1 p = none → o.dict = none → Q (.ref p) (upd H1 p (.frz o (.tup xs))) :=
  fun p o hp hd => q _ (upd G1 p (.frz o (.tup xs))) _ (s1.trans (Same.new (Same.none k1.g hp))) (k1.newG _ hp) (.tup (.inl ⟨o, upd_same, hd⟩) (dpAll_up (Same.new (Same.none k1.g hp)) ds hx))
theorem newR [Tb] {Q : VK} {G0 G1 H1 M1 : Hp} {xs : List V} (s1 : Same G0 G1) (k1 : Ok G1 M1 H1) (hx : DqAll K G1 xs ds) (q : ∀ v G' H', Same G0 G' → Ok G' M1 H' → Dq K G' v (.rtup ds) → Q v H') : ∀ p, H1 p = none → Q (.ref p) (upd H1 p (.tup xs)) :=
  fun p hp => q _ (upd G1 p (.tup xs)) _ (s1.trans (Same.new (Same.none k1.g hp))) (k1.newG _ hp) (.rtup upd_same (dpAll_up (Same.new (Same.none k1.g hp)) ds hx))
theorem el_lst [Tb] {t : TA} (ha : EvA t σ G M M1 (allP K ds)) (hl : ds.length ≤ sizeLine := by simp [sizeLine_eq]) : EvL K (tLst t) σ G M M1 ds := fun G0 H s k Q q =>
  ha G0 H s k _ fun xs G1 H1 s1 k1 hx => ⟨by rw [dpAll_len hx]; exact hl, newL s1 k1 hx q⟩
theorem ev_is [Tb] {d' : Dat} (h : Ev te σ G M M1 (DD K d)) (e : d = d') : Ev te σ G M M1 (DD K d') := e ▸ h
/-! ### operators -/
theorem rv_I0 [Tb] {g : Int → Int → V} {f : Int → Int → Dat} {i j : Int} (hg : ∀ i j G, Dq K G (g i j) (f i j)) : RV2 (rI0 g) G M M (DD K (.int i)) (DD K (.int j)) (DD K (f i j)) := fun x y G0 H s k hx hy Q q => by
  cases hx; cases hy
  exact ⟨i, j, rfl, rfl, q _ G0 H (Same.refl _) k (hg i j G0)⟩
theorem rv_I [Tb] {C : Int → Int → Prop} {g : Int → Int → V} {f : Int → Int → Dat} {i j : Int} (hg : ∀ i j G, Dq K G (g i j) (f i j)) (hc : C i j) : RV2 (rI C g) G M M (DD K (.int i)) (DD K (.int j)) (DD K (f i j)) := fun x y G0 H s k hx hy Q q => by
  cases hx; cases hy
  exact ⟨i, j, rfl, rfl, hc, q _ G0 H (Same.refl _) k (hg i j G0)⟩
theorem ev_add [Tb] {i j : Int} (ha : Ev ta σ G M M1 (DD K (.int i))) (hb : Ev tb σ G M1 M2 (DD K (.int j))) : Ev (tOp (rI0 fun i j => .int (i + j)) ta tb) σ G M M2 (DD K (.int (i + j))) := ev_op mo_dd ha hb (rv_I0 (f := fun i j => .int (i + j)) fun i j _ => .int _)
theorem ev_sub [Tb] {i j : Int} (ha : Ev ta σ G M M1 (DD K (.int i))) (hb : Ev tb σ G M1 M2 (DD K (.int j))) : Ev (tOp (rI0 fun i j => .int (i - j)) ta tb) σ G M M2 (DD K (.int (i - j))) := ev_op mo_dd ha hb (rv_I0 (f := fun i j => .int (i - j)) fun i j _ => .int _)
theorem ev_mod [Tb] {i j : Int} (hc : j ≠ 0) (ha : Ev ta σ G M M1 (DD K (.int i))) (hb : Ev tb σ G M1 M2 (DD K (.int j))) : Ev (tOp (rI (fun _ j => j ≠ 0) fun i j => .int (i.fmod j)) ta tb) σ G M M2 (DD K (.int (i.fmod j))) := ev_op mo_dd ha hb (rv_I (f := fun i j => .int (i.fmod j)) (fun i j _ => .int _) hc)
theorem ev_pow [Tb] {i j : Int} (hc : CPow i j) (ha : Ev ta σ G M M1 (DD K (.int i))) (hb : Ev tb σ G M1 M2 (DD K (.int j))) : Ev (tOp (rI CPow fun i j => .int (i ^ j.toNat)) ta tb) σ G M M2 (DD K (.int (i ^ j.toNat))) := ev_op mo_dd ha hb (rv_I (f := fun i j => .int (i ^ j.toNat)) (fun i j _ => .int _) hc)
theorem ev_lt [Tb] {i j : Int} (ha : Ev ta σ G M M1 (DD K (.int i))) (hb : Ev tb σ G M1 M2 (DD K (.int j))) : Ev (tOp (rI0 fun i j => .bl (decide (i < j))) ta tb) σ G M M2 (DD K (.bool (decide (i < j)))) := ev_op mo_dd ha hb (rv_I0 (f := fun i j => .bool (decide (i < j))) fun i j _ => .bl _)
theorem ev_gt [Tb] {i j : Int} (ha : Ev ta σ G M M1 (DD K (.int i))) (hb : Ev tb σ G M1 M2 (DD K (.int j))) : Ev (tOp (rI0 fun i j => .bl (decide (j < i))) ta tb) σ G M M2 (DD K (.bool (decide (j < i)))) := ev_op mo_dd ha hb (rv_I0 (f := fun i j => .bool (decide (j < i))) fun i j _ => .bl _)
theorem ev_eqI [Tb] {i j : Int} (ha : Ev ta σ G M M1 (DD K (.int i))) (hb : Ev tb σ G M1 M2 (DD K (.int j))) : Ev (tOp rEq ta tb) σ G M M2 (DD K (.bool (decide (i = j)))) := ev_op mo_dd ha hb fun x y G0 H s k hx hy Q q => by
  cases hx; cases hy
  refine ⟨rfl, q _ G0 H (Same.refl _) k ?_⟩
  rw [show decide (V.int i = V.int j) = decide (i = j) by simp]
  exact .bl _
theorem ev_neI [Tb] {i j : Int} (ha : Ev ta σ G M M1 (DD K (.int i))) (hb : Ev tb σ G M1 M2 (DD K (.int j))) : Ev (tOp rNe ta tb) σ G M M2 (DD K (.bool (!decide (i = j)))) := ev_op mo_dd ha hb fun x y G0 H s k hx hy Q q => by
  cases hx; cases hy
  refine ⟨rfl, q _ G0 H (Same.refl _) k ?_⟩
  rw [show decide (V.int i = V.int j) = decide (i = j) by simp]
  exact .bl _
theorem ev_eqS [Tb] {i j : Str} (ha : Ev ta σ G M M1 (DD K (.str i))) (hb : Ev tb σ G M1 M2 (DD K (.str j))) : Ev (tOp rEq ta tb) σ G M M2 (DD K (.bool (decide (i = j)))) := ev_op mo_dd ha hb fun x y G0 H s k hx hy Q q => by
  cases hx; cases hy
  refine ⟨rfl, q _ G0 H (Same.refl _) k ?_⟩
  rw [show decide (V.str i = V.str j) = decide (i = j) by simp]
  exact .bl _
theorem ev_neS [Tb] {i j : Str} (ha : Ev ta σ G M M1 (DD K (.str i))) (hb : Ev tb σ G M1 M2 (DD K (.str j))) : Ev (tOp rNe ta tb) σ G M M2 (DD K (.bool (!decide (i = j)))) := ev_op mo_dd ha hb fun x y G0 H s k hx hy Q q => by
  cases hx; cases hy
  refine ⟨rfl, q _ G0 H (Same.refl _) k ?_⟩
  rw [show decide (V.str i = V.str j) = decide (i = j) by simp]
  exact .bl _
theorem shp_of {v : V} {n : Nat} (p : pur d = true) (hn : (toPy d).depth ≤ 64) (h : Dq K G v d) : SeqAt.shaped (toPy d) = true := by
  unfold SeqAt.shaped
  rw [dq_lay d p h]
  simpa using hn
theorem ev_eqD [Tb] (p1 : pur d = true) (p2 : pur e = true) (h1 : (toPy d).depth ≤ 64) (h2 : (toPy e).depth ≤ 64) (ha : Ev ta σ G M M1 (DD K d)) (hb : Ev tb σ G M1 M2 (DD K e)) : Ev (tOp (rEqD K) ta tb) σ G M M2 (DD K (.bool (PyData.eqv (toPy d) (toPy e)))) := ev_op mo_dd ha hb fun x y G0 H s k hx hy Q q =>
  ⟨toPy d, toPy e, dq_dp d p1 (dp_up k.g d hx), dq_dp e p2 (dp_up k.g e hy), shp_of (n := 0) p1 h1 hx, shp_of (n := 0) p2 h2 hy, q _ G0 H (Same.refl _) k (.bl _)⟩
theorem ev_neD [Tb] (p1 : pur d = true) (p2 : pur e = true) (h1 : (toPy d).depth ≤ 64) (h2 : (toPy e).depth ≤ 64) (ha : Ev ta σ G M M1 (DD K d)) (hb : Ev tb σ G M1 M2 (DD K e)) : Ev (tOp (rNeD K) ta tb) σ G M M2 (DD K (.bool (!PyData.eqv (toPy d) (toPy e)))) := ev_op mo_dd ha hb fun x y G0 H s k hx hy Q q =>
  ⟨toPy d, toPy e, dq_dp d p1 (dp_up k.g d hx), dq_dp e p2 (dp_up k.g e hy), shp_of (n := 0) p1 h1 hx, shp_of (n := 0) p2 h2 hy, q _ G0 H (Same.refl _) k (.bl _)⟩
theorem ev_neg [Tb] {i : Int} (ha : Ev ta σ G M M1 (DD K (.int i))) : Ev (tUn (rU fun i => .int (-i)) ta) σ G M M1 (DD K (.int (-i))) := fun G0 H s k Q q =>
  ha G0 H s k _ fun x G1 H1 s1 k1 hx => by
    cases hx
    exact ⟨i, rfl, q _ G1 H1 s1 k1 (.int _)⟩
/-! ### items and slices -/
theorem dp_list {G : Hp} {v : V} (h : Dq K G v (.list ds)) : ∃ a vs, v = .ref a ∧ G a = some (.lst vs) ∧ DqAll K G vs ds := by
  cases h with | lst a b => exact ⟨_, _, rfl, a, b⟩
theorem dp_tuple {G : Hp} {v : V} (h : Dq K G v (.tuple ds)) : ∃ a vs, v = .ref a ∧ SqT K G a vs ∧ DqAll K G vs ds := by
  cases h with | tup a b => exact ⟨_, _, rfl, a.sq, b⟩
theorem dp_rtup {G : Hp} {v : V} (h : Dq K G v (.rtup ds)) : ∃ a vs, v = .ref a ∧ G a = some (.tup vs) ∧ DqAll K G vs ds := by
  cases h with | rtup a b => exact ⟨_, _, rfl, a, b⟩
theorem atI_of {G : Hp} {vs : List V} {i : Int} (h : DqAll K G vs ds) (ha : atI ds i = some d) : ∃ v, atI vs i = some v ∧ Dq K G v d := by
  unfold atI at ha ⊢
  rw [dpAll_len h]
  cases e : ixN ds.length i with
  | none => rw [e] at ha; cases ha
  | some j =>
    rw [e] at ha
    obtain ⟨v, h1, h2⟩ := dpAll_get h ha
    exact ⟨v, h1, h2⟩
theorem ev_ixL [Tb] {i : Int} (hi : atI ds i = some d) (ha : Ev ta σ G M M1 (DD K (.list ds))) (hb : Ev tb σ G M1 M2 (DD K (.int i))) : Ev (tOp (rIxL K) ta tb) σ G M M2 (DD K d) := ev_op mo_dd ha hb fun x y G0 H s k hx hy Q q => by
  obtain ⟨a, vs, rfl, h1, h2⟩ := dp_list hx
  cases hy
  obtain ⟨v, h3, h4⟩ := atI_of h2 hi
  exact ⟨a, vs, i, v, rfl, rfl, .inl (.inl (k.g _ _ h1)), h3, q v G0 H (Same.refl _) k h4⟩
theorem ev_ixT [Tb] {i : Int} (hi : atI ds i = some d) (ha : Ev ta σ G M M1 (DD K (.tuple ds))) (hb : Ev tb σ G M1 M2 (DD K (.int i))) : Ev (tOp (rIxT K) ta tb) σ G M M2 (DD K d) := ev_op mo_dd ha hb fun x y G0 H s k hx hy Q q => by
  obtain ⟨a, vs, rfl, h1, h2⟩ := dp_tuple hx
  cases hy
  obtain ⟨v, h3, h4⟩ := atI_of h2 hi
  exact ⟨a, vs, i, v, rfl, rfl, sqT_up k.g h1, h3, q v G0 H (Same.refl _) k h4⟩
/-- an item of a list of one's own (its values told) -/
theorem ev_ixO [Tb] {i : Int} {p : Addr} {vs : List V} (ha : Ev ta σ G M M1 (OW p)) (hb : Ev tb σ G M1 M2 (DD K (.int i))) (hp : M2 p = some (.lst vs)) (hv : DqAll K G vs ds) (hi : atI ds i = some d) : Ev (tOp (rIxL K) ta tb) σ G M M2 (DD K d) := ev_op mo_ow ha hb fun x y G0 H s k hx hy Q q => by
  cases hx
  cases hy
  obtain ⟨v, h3, h4⟩ := atI_of hv hi
  exact ⟨p, vs, i, v, rfl, rfl, .inl (.inl (k.m _ _ hp)), h3, q v G0 H (Same.refl _) k (dp_up s d h4)⟩
def cut {α : Type} (xs : List α) (lo hi : Option Int) : List α := (xs.drop (HT.sIx xs.length 0 lo)).take (HT.sIx xs.length xs.length hi - HT.sIx xs.length 0 lo)
theorem cut_of {G : Hp} {vs : List V} {lo hi : Option Int} (h : DqAll K G vs ds) : DqAll K G (cutV vs lo hi) (cut ds lo hi) := by
  unfold cutV cut
  rw [dpAll_len h]
  exact dpAll_take _ (dpAll_drop _ h)
theorem cut_map {α β : Type} {f : α → β} {xs : List α} {lo hi : Option Int} : cut (xs.map f) lo hi = (cut xs lo hi).map f := by
  unfold cut
  rw [List.length_map, ← List.map_drop, ← List.map_take]
theorem eo_none [Tb] : EvO tNoPart σ G M M none := fun G0 H _ k Q q => q G0 H (Same.refl _) k
theorem eo_some [Tb] {i : Int} (h : Ev te σ G M M1 (DD K (.int i))) : EvO (tPart te) σ G M M1 (some i) := fun G0 H s k Q q => h G0 H s k _ fun v G1 H1 s1 k1 hv => by
  cases hv
  exact ⟨i, rfl, q G1 H1 s1 k1⟩
end
end Kx
end
section
set_option maxHeartbeats 2000000
namespace Kx
open PySem L2
section
variable {K : PySem.W.Frag} {σ : St} {G G' M M1 M2 M3 : Hp} {ta tb te tc : TE} {P P1 P2 : VP} {d e : Dat} {ds es : List Dat}
theorem ev_slT [Tb] {tl th : TO} {lo hi : Option Int} (h : Ev te σ G M M (DD K (.tuple ds))) (h1 : EvO tl σ G M M lo) (h2 : EvO th σ G M M hi) : Ev (tSl (rSlF K) te tl th) σ G M M (DD K (.tuple (cut ds lo hi))) := fun G0 H s k Q q =>
  h G0 H s k _ fun x G1 H1 s1 k1 hx => h1 G1 H1 (s.trans s1) k1 _ fun G2 H2 s2 k2 => h2 G2 H2 ((s.trans s1).trans s2) k2 _ fun G3 H3 s3 k3 => by
    have s13 := s2.trans s3
    have hx3 := dp_up s13 _ hx
    obtain ⟨a, vs, rfl, ha, hb⟩ := dp_tuple hx3
    refine ⟨a, vs, rfl, sqT_up k3.g ha, fun hw => ?_, fun _ => newT (s1.trans s13) k3 (cut_of hb) q⟩
    have e1 : cut ds lo hi = ds := by
      unfold cut
      rw [← dpAll_len hb, hw.1, hw.2, List.drop_zero, Nat.sub_zero, dpAll_len hb, List.take_length]
    rw [e1] at q
    exact q _ G3 H3 (s1.trans s13) k3 hx3
theorem ev_catT [Tb] (hl : ds.length + es.length ≤ sizeLine) (ha : Ev ta σ G M M1 (DD K (.tuple ds))) (hb : Ev tb σ G M1 M2 (DD K (.tuple es))) : Ev (tOp (rCatF K) ta tb) σ G M M2 (DD K (.tuple (ds ++ es))) := ev_op mo_dd ha hb fun x y G0 H s k hx hy Q q => by
  obtain ⟨a, vs, rfl, ha, hb⟩ := dp_tuple hx
  obtain ⟨b, ws, rfl, hc, hd⟩ := dp_tuple hy
  have l1 := dpAll_len hb
  have l2 := dpAll_len hd
  refine ⟨a, b, vs, ws, rfl, rfl, sqT_up k.g ha, sqT_up k.g hc, by rw [l1, l2]; exact hl, fun z => ?_, fun _ z => ?_, fun _ _ => newT (Same.refl _) k (dpAll_app hb hd) q⟩
  · subst z
    cases hb
    exact q _ G0 H (Same.refl _) k hy
  · subst z
    cases hd
    rw [List.append_nil] at q
    exact q _ G0 H (Same.refl _) k hx
theorem el_cat [Tb] (hl : ds.length + es.length ≤ sizeLine) (ha : Ev ta σ G M M1 (DD K (.list ds))) (hb : Ev tb σ G M1 M2 (DD K (.list es))) : EvL K (tOp rCat ta tb) σ G M M2 (ds ++ es) := el_op mo_dd ha hb fun x y G0 H s k hx hy Q q => by
  obtain ⟨a, vs, rfl, ha, hb⟩ := dp_list hx
  obtain ⟨b, ws, rfl, hc, hd⟩ := dp_list hy
  exact ⟨a, b, vs, ws, rfl, rfl, k.g _ _ ha, k.g _ _ hc, by rw [dpAll_len hb, dpAll_len hd]; exact hl, newL (Same.refl _) k (dpAll_app hb hd) q⟩
def rListOf (K : PySem.W.Frag) : List V → Hp → VK → Prop := fun xs H Q => ∃ p ys, xs = [.ref p] ∧ (SqL K H p ys ∨ SqT K H p ys) ∧ ∀ l, H l = none → Q (.ref l) (upd H l (.lst ys))
def rLen (K : PySem.W.Frag) : List V → Hp → VK → Prop := fun xs H Q => ∃ p ys, xs = [.ref p] ∧ (SqL K H p ys ∨ SqT K H p ys) ∧ Q (.int ys.length) H
theorem one_of {R : List V → Hp → Prop} {xs : List V} {G : Hp} (h : conP P nilP xs G) : ∃ v, xs = [v] ∧ P v G := by
  obtain ⟨v, r, rfl, hp, hr⟩ := h
  cases hr
  exact ⟨v, rfl, hp⟩
theorem el_listT [Tb] (ha : EvA (tCons ta tNil) σ G M M1 (conP (DD K (.tuple ds)) nilP)) : EvL K (tCB (rListOf K) (tCons ta tNil)) σ G M M1 ds := el_cb ha fun xs G0 H s k hx Q q => by
  obtain ⟨v, rfl, hv⟩ := one_of (R := nilP) hx
  obtain ⟨a, vs, rfl, ha, hb⟩ := dp_tuple hv
  exact ⟨a, vs, rfl, .inr (sqT_up k.g ha), newL (Same.refl _) k hb q⟩
theorem ev_tupL [Tb] (ha : EvA (tCons ta tNil) σ G M M1 (conP (DD K (.list ds)) nilP)) : Ev (tCB (rTupOf K) (tCons ta tNil)) σ G M M1 (DD K (.tuple ds)) := ev_cb ha fun xs G0 H s k hx Q q => by
  obtain ⟨v, rfl, hv⟩ := one_of (R := nilP) hx
  obtain ⟨a, vs, rfl, ha, hb⟩ := dp_list hv
  exact ⟨a, vs, rfl, .inl ⟨.inl (.inl (k.g _ _ ha)), newT (Same.refl _) k hb q⟩⟩
theorem ev_tupO [Tb] {p : Addr} {vs : List V} (hp : M1 p = some (.lst vs)) (hd : DqAll K G vs ds) (ha : EvA (tCons ta tNil) σ G M M1 (conP (OW p) nilP)) : Ev (tCB (rTupOf K) (tCons ta tNil)) σ G M M1 (DD K (.tuple ds)) := ev_cb ha fun xs G0 H s k hx Q q => by
  obtain ⟨v, rfl, hv⟩ := one_of (R := nilP) hx
  cases hv
  exact ⟨p, vs, rfl, .inl ⟨.inl (.inl (k.m _ _ hp)), newT (Same.refl _) k (dpAll_up s _ hd) q⟩⟩
theorem ev_lenL [Tb] (ha : EvA (tCons ta tNil) σ G M M1 (conP (DD K (.list ds)) nilP)) : Ev (tCB (rLen K) (tCons ta tNil)) σ G M M1 (DD K (.int (ds.length : Int))) := ev_cb ha fun xs G0 H s k hx Q q => by
  obtain ⟨v, rfl, hv⟩ := one_of (R := nilP) hx
  obtain ⟨a, vs, rfl, ha, hb⟩ := dp_list hv
  refine ⟨a, vs, rfl, .inl (.inl (.inl (k.g _ _ ha))), q _ G0 H (Same.refl _) k ?_⟩
  rw [dpAll_len hb]
  exact .int _
theorem ev_lenT [Tb] (ha : EvA (tCons ta tNil) σ G M M1 (conP (DD K (.tuple ds)) nilP)) : Ev (tCB (rLen K) (tCons ta tNil)) σ G M M1 (DD K (.int (ds.length : Int))) := ev_cb ha fun xs G0 H s k hx Q q => by
  obtain ⟨v, rfl, hv⟩ := one_of (R := nilP) hx
  obtain ⟨a, vs, rfl, ha, hb⟩ := dp_tuple hv
  refine ⟨a, vs, rfl, .inr (sqT_up k.g ha), q _ G0 H (Same.refl _) k ?_⟩
  rw [dpAll_len hb]
  exact .int _
theorem ev_lenO [Tb] {p : Addr} {vs : List V} (hp : M1 p = some (.lst vs)) (hd : DqAll K G vs ds) (ha : EvA (tCons ta tNil) σ G M M1 (conP (OW p) nilP)) : Ev (tCB (rLen K) (tCons ta tNil)) σ G M M1 (DD K (.int (ds.length : Int))) := ev_cb ha fun xs G0 H s k hx Q q => by
  obtain ⟨v, rfl, hv⟩ := one_of (R := nilP) hx
  cases hv
  refine ⟨p, vs, rfl, .inl (.inl (.inl (k.m _ _ hp))), q _ G0 H (Same.refl _) k ?_⟩
  rw [dpAll_len hd]
  exact .int _
theorem ev_allL [Tb] {bs : List Bool} (ha : EvA (tCons ta tNil) σ G M M1 (conP (DD K (.list (bs.map Dat.bool))) nilP)) : Ev (tCB (rAll K) (tCons ta tNil)) σ G M M1 (DD K (.bool (bs.all id))) := ev_cb ha fun xs G0 H s k hx Q q => by
  obtain ⟨v, rfl, hv⟩ := one_of (R := nilP) hx
  obtain ⟨a, vs, rfl, ha, hb⟩ := dp_list hv
  rw [dpAll_bls hb] at ha
  exact ⟨a, bs, rfl, .inl (.inl (k.g _ _ ha)), q _ G0 H (Same.refl _) k (.bl _)⟩
def rInt1 : List V → Hp → VK → Prop := fun xs H Q => (∃ i, xs = [.int i] ∧ Q (.int i) H) ∨ ∃ k, xs = [.bl k] ∧ Q (.int (if k then 1 else 0)) H
theorem ev_intB [Tb] {b : Bool} (ha : EvA (tCons ta tNil) σ G M M1 (conP (DD K (.bool b)) nilP)) : Ev (tCB rInt1 (tCons ta tNil)) σ G M M1 (DD K (.int (if b then 1 else 0))) := ev_cb ha fun xs G0 H s k hx Q q => by
  obtain ⟨v, rfl, hv⟩ := one_of (R := nilP) hx
  cases hv
  exact .inr ⟨b, rfl, q _ G0 H (Same.refl _) k (.int _)⟩
def rAbs : List V → Hp → VK → Prop := fun xs H Q => ∃ i, xs = [.int i] ∧ Q (.int (if i < 0 then -i else i)) H
theorem ev_abs [Tb] {i : Int} (ha : EvA (tCons ta tNil) σ G M M1 (conP (DD K (.int i)) nilP)) : Ev (tCB rAbs (tCons ta tNil)) σ G M M1 (DD K (.int (if i < 0 then -i else i))) := ev_cb ha fun xs G0 H s k hx Q q => by
  obtain ⟨v, rfl, hv⟩ := one_of (R := nilP) hx
  cases hv
  exact ⟨i, rfl, q _ G0 H (Same.refl _) k (.int _)⟩
def rMaxI : List V → Hp → VK → Prop := fun xs H Q => ∃ i j, xs = [.int i, .int j] ∧ Q (.int (if j > i then j else i)) H
def rMinI : List V → Hp → VK → Prop := fun xs H Q => ∃ i j, xs = [.int i, .int j] ∧ Q (.int (if j < i then j else i)) H
theorem two_of {xs : List V} {G : Hp} (h : conP P (conP P1 nilP) xs G) : ∃ v w, xs = [v, w] ∧ P v G ∧ P1 w G := by
  obtain ⟨v, r, rfl, hp, hr⟩ := h
  obtain ⟨w, r, rfl, hq, hr⟩ := hr
  cases hr
  exact ⟨v, w, rfl, hp, hq⟩
theorem ev_max2 [Tb] {i j : Int} (ha : EvA (tCons ta (tCons tb tNil)) σ G M M1 (conP (DD K (.int i)) (conP (DD K (.int j)) nilP))) : Ev (tCB rMaxI (tCons ta (tCons tb tNil))) σ G M M1 (DD K (.int (if j > i then j else i))) := ev_cb ha fun xs G0 H s k hx Q q => by
  obtain ⟨v, w, rfl, hv, hw⟩ := two_of hx
  cases hv; cases hw
  exact ⟨i, j, rfl, q _ G0 H (Same.refl _) k (.int _)⟩
theorem ev_min2 [Tb] {i j : Int} (ha : EvA (tCons ta (tCons tb tNil)) σ G M M1 (conP (DD K (.int i)) (conP (DD K (.int j)) nilP))) : Ev (tCB rMinI (tCons ta (tCons tb tNil))) σ G M M1 (DD K (.int (if j < i then j else i))) := ev_cb ha fun xs G0 H s k hx Q q => by
  obtain ⟨v, w, rfl, hv, hw⟩ := two_of hx
  cases hv; cases hw
  exact ⟨i, j, rfl, q _ G0 H (Same.refl _) k (.int _)⟩
def rDivmod : List V → Hp → VK → Prop := fun xs H Q => ∃ i j, xs = [.int i, .int j] ∧ CDivW i j ∧ ∀ p, H p = none → Q (.ref p) (upd H p (.tup [.int (i / j), .int (i % j)]))
theorem ev_divmod [Tb] {i j : Int} (hc : CDivW i j) (ha : EvA (tCons ta (tCons tb tNil)) σ G M M1 (conP (DD K (.int i)) (conP (DD K (.int j)) nilP))) : Ev (tCB rDivmod (tCons ta (tCons tb tNil))) σ G M M1 (DD K (.rtup [.int (i / j), .int (i % j)])) := ev_cb ha fun xs G0 H s k hx Q q => by
  obtain ⟨v, w, rfl, hv, hw⟩ := two_of hx
  cases hv; cases hw
  exact ⟨i, j, rfl, hc, newR (Same.refl _) k (.cons (.int _) (.cons (.int _) .nil)) q⟩
/-! ### isinstance -/
def tyD : Dat → String
  | .none => "NoneType"
  | .bool _ => "bool"
  | .int _ => "int"
  | .str _ => "str"
  | .list _ => "list"
  | .tuple _ => "tuple"
  | .rtup _ => "tuple"
  | .dK _ _ => "dict"
  | .dT _ _ => "dict"
  | .ins _ _ _ => "object"
def isIns : Dat → Bool
  | .ins _ _ _ => true
  | .dT _ _ => true
  | _ => false
/-- what the library asks of an own class -/
structure ClsOk (K : PySem.W.Frag) (C : Addr) : Prop where
  cl : Cls K C
  ha : PySem.W.findIn K (.ref C) "__class__" = some (some (.builtin "object.__class__"))
  hn : PySem.W.specialIn K (.builtin "object.__class__") "__get__" = some (some (.builtin "getset_descriptor.__get__"))
  htk : PySem.W.takesIn K (.builtin "object.__class__") = some true
  hm : PySem.W.mroIn K C (.type "object") = some true
/-- the classes of the instances in d are known -/
def tyV (K : PySem.W.Frag) : Dat → Value
  | .ins C _ _ => .ref (clsAt K C)
  | d => .type (tyD d)
theorem tyx_of {H : Hp} {v : V} (s : Same G H) (hc : ∀ C ns xs, d = .ins C ns xs → ClsOk K (clsAt K C)) (hT : ∀ ks xs, d ≠ .dT ks xs) (h : Dq K G v d) : TyX K H v (tyV K d) := by
  cases h with
  | non => exact .base .non
  | bl b => exact .base (.bl b)
  | int i => exact .base (.int i)
  | str x => exact .base (.str _)
  | lst a b => exact .base (.lst (s _ _ a))
  | tup a b =>
    rcases a with ⟨o, a, _⟩ | ⟨o, its, n, h1, h2, _⟩
    · exact .fTuple (s _ _ a)
    · exact .kTuple h1 h2
  | rtup a b => exact .base (.tup (s _ _ a))
  | dK a _ _ _ =>
    rcases a with a | ⟨o, a⟩
    · exact .base (.dK (s _ _ a))
    · exact .fDict (s _ _ a)
  | dT a _ _ _ => exact absurd rfl (hT _ _)
  | ins a b c =>
    have q := hc _ _ _ rfl
    exact .base (.ins (s _ _ a) q.cl q.ha q.hn q.htk q.hm)
theorem tyV_of (h : isIns d = false) : tyV K d = .type (tyD d) := by
  cases d <;> first | rfl | cases h
theorem noDT (h : isIns d = false) : ∀ ks xs, d ≠ .dT ks xs := fun ks xs e => by subst e; cases h
theorem noIns (h : isIns d = false) : ∀ C ns xs, d = .ins C ns xs → ClsOk K (clsAt K C) := fun C ns xs e => by subst e; cases h
/-- a class's name among the arguments -/
abbrev CLS (n : String) : VP := fun v _ => v = .ty n
theorem mo_cls {n : String} : Mo (CLS n) := fun _ _ _ _ h => h
theorem ev_cls [Tb] {n : String} : Ev (tC (.ty n)) σ G M M (CLS n) := fun G0 H _ k Q q => q _ G0 H (Same.refl _) k rfl
theorem ev_isi [Tb] {n : String} {b : Bool} (hi : isIns d = false) (hb : kitB (tyD d) n = some b) (ha : EvA (tCons ta (tCons tb tNil)) σ G M M1 (conP (DD K d) (conP (CLS n) nilP))) : Ev (tCB (rIsi K) (tCons ta (tCons tb tNil))) σ G M M1 (DD K (.bool b)) := ev_cb ha fun xs G0 H s k hx Q q => by
  obtain ⟨v, w, rfl, hv, hw⟩ := two_of hx
  cases hw
  exact ⟨v, _, _, _, b, rfl, .ty n, tyV_of hi ▸ tyx_of k.g (noIns hi) (noDT hi) hv, kit_ty hb, q _ G0 H (Same.refl _) k (.bl _)⟩
/-! ### truth -/
theorem et_B [Tb] {b : Bool} (h : Ev te σ G M M1 (DD K (.bool b))) : EvT (tB te) σ G M M1 b := fun G0 H s k Q q => h G0 H s k _ fun v G1 H1 s1 k1 hv => by
  cases hv
  exact ⟨b, rfl, q G1 H1 s1 k1⟩
theorem et_test [Tb] {b : Bool} (h : Ev te σ G M M1 (DD K (.bool b))) : EvT (tTest te) σ G M M1 b := fun G0 H s k Q q => h G0 H s k _ fun v G1 H1 s1 k1 hv => by
  cases hv
  exact ⟨b, rfl, q G1 H1 s1 k1⟩
theorem et_not [Tb] {t : TT} {b : Bool} (h : EvT t σ G M M1 b) : EvT (tNot t) σ G M M1 (!b) := fun G0 H s k Q q => h G0 H s k _ fun G1 H1 s1 k1 => q G1 H1 s1 k1
theorem et_andG [Tb] {t u : TT} {a c : Bool} (h : EvT t σ G M M1 a) (h1 : a = true → EvT u σ G M1 M2 c) (h2 : a = false → c = false ∧ M2 = M1) : EvT (tAnd t u) σ G M M2 c := fun G0 H s k Q q => h G0 H s k _ fun G1 H1 s1 k1 => by
  cases a with
  | true => exact iteT (h1 rfl G1 H1 (s.trans s1) k1 Q fun G2 H2 s2 k2 => q G2 H2 (s1.trans s2) k2)
  | false =>
    obtain ⟨rfl, rfl⟩ := h2 rfl
    exact iteF (q G1 H1 s1 k1)
theorem et_orG [Tb] {t u : TT} {a c : Bool} (h : EvT t σ G M M1 a) (h1 : a = false → EvT u σ G M1 M2 c) (h2 : a = true → c = true ∧ M2 = M1) : EvT (tOr t u) σ G M M2 c := fun G0 H s k Q q => h G0 H s k _ fun G1 H1 s1 k1 => by
  cases a with
  | false => exact iteF (h1 rfl G1 H1 (s.trans s1) k1 Q fun G2 H2 s2 k2 => q G2 H2 (s1.trans s2) k2)
  | true =>
    obtain ⟨rfl, rfl⟩ := h2 rfl
    exact iteT (q G1 H1 s1 k1)
theorem et_and [Tb] {t u : TT} {a b : Bool} (h : EvT t σ G M M1 a) (h1 : a = true → EvT u σ G M1 M1 b) : EvT (tAnd t u) σ G M M1 (a && b) := et_andG h (fun e => by rw [e]; exact h1 e) fun e => by rw [e]; exact ⟨rfl, rfl⟩
theorem et_or [Tb] {t u : TT} {a b : Bool} (h : EvT t σ G M M1 a) (h1 : a = false → EvT u σ G M1 M1 b) : EvT (tOr t u) σ G M M1 (a || b) := et_orG h (fun e => by rw [e]; exact h1 e) fun e => by rw [e]; exact ⟨rfl, rfl⟩
theorem ev_andG [Tb] {a c : Bool} (h : Ev ta σ G M M1 (DD K (.bool a))) (h1 : a = true → Ev tb σ G M1 M2 (DD K (.bool c))) (h2 : a = false → c = false ∧ M2 = M1) : Ev (tAndV ta tb) σ G M M2 (DD K (.bool c)) := fun G0 H s k Q q => h G0 H s k _ fun v G1 H1 s1 k1 hv => by
  cases hv
  refine ⟨a, rfl, ?_⟩
  cases a with
  | true => exact iteT (h1 rfl G1 H1 (s.trans s1) k1 Q fun v G2 H2 s2 k2 => q v G2 H2 (s1.trans s2) k2)
  | false =>
    obtain ⟨rfl, rfl⟩ := h2 rfl
    exact iteF (q _ G1 H1 s1 k1 (.bl _))
theorem ev_orG [Tb] {a c : Bool} (h : Ev ta σ G M M1 (DD K (.bool a))) (h1 : a = false → Ev tb σ G M1 M2 (DD K (.bool c))) (h2 : a = true → c = true ∧ M2 = M1) : Ev (tOrV ta tb) σ G M M2 (DD K (.bool c)) := fun G0 H s k Q q => h G0 H s k _ fun v G1 H1 s1 k1 hv => by
  cases hv
  refine ⟨a, rfl, ?_⟩
  cases a with
  | false => exact iteF (h1 rfl G1 H1 (s.trans s1) k1 Q fun v G2 H2 s2 k2 => q v G2 H2 (s1.trans s2) k2)
  | true =>
    obtain ⟨rfl, rfl⟩ := h2 rfl
    exact iteT (q _ G1 H1 s1 k1 (.bl _))
theorem ev_and [Tb] {a b : Bool} (h : Ev ta σ G M M1 (DD K (.bool a))) (h1 : a = true → Ev tb σ G M1 M1 (DD K (.bool b))) : Ev (tAndV ta tb) σ G M M1 (DD K (.bool (a && b))) := ev_andG h (fun e => by rw [e]; exact h1 e) fun e => by rw [e]; exact ⟨rfl, rfl⟩
theorem ev_not [Tb] {a : Bool} (h : Ev ta σ G M M1 (DD K (.bool a))) : Ev (tNotV ta) σ G M M1 (DD K (.bool (!a))) := fun G0 H s k Q q => h G0 H s k _ fun v G1 H1 s1 k1 hv => by
  cases hv
  exact ⟨a, rfl, q _ G1 H1 s1 k1 (.bl _)⟩
theorem ev_if [Tb] {t : TT} {b : Bool} (h : EvT t σ G M M1 b) (h1 : b = true → Ev ta σ G M1 M2 P) (h2 : b = false → Ev tb σ G M1 M2 P) : Ev (tIf t ta tb) σ G M M2 P := fun G0 H s k Q q => h G0 H s k _ fun G1 H1 s1 k1 => by
  cases b with
  | true => exact iteT (h1 rfl G1 H1 (s.trans s1) k1 Q fun v G2 H2 s2 k2 => q v G2 H2 (s1.trans s2) k2)
  | false => exact iteF (h2 rfl G1 H1 (s.trans s1) k1 Q fun v G2 H2 s2 k2 => q v G2 H2 (s1.trans s2) k2)
/-- a <= b <= c of whole numbers, and its kin -/
theorem ev_chainI [Tb] {g g' : Int → Int → Bool} {i j l : Int} (ha : Ev ta σ G M M1 (DD K (.int i))) (hb : Ev tb σ G M1 M2 (DD K (.int j))) (hc : Ev tc σ G M2 M2 (DD K (.int l))) :
    Ev (tChain (rI0 fun i j => .bl (g i j)) (rI0 fun i j => .bl (g' i j)) ta tb tc) σ G M M2 (DD K (.bool (g i j && g' j l))) := fun G0 H s k Q q =>
  ha G0 H s k _ fun x G1 H1 s1 k1 hx => hb G1 H1 (s.trans s1) k1 _ fun y G2 H2 s2 k2 hy => by
    cases hx; cases hy
    refine ⟨i, j, rfl, rfl, g i j, rfl, ?_⟩
    cases e : g i j with
    | true =>
      refine iteT (hc G2 H2 ((s.trans s1).trans s2) k2 _ fun z G3 H3 s3 k3 hz => ?_)
      cases hz
      refine ⟨j, l, rfl, rfl, ?_⟩
      rw [e] at q
      exact q _ G3 H3 ((s1.trans s2).trans s3) k3 (.bl _)
    | false =>
      rw [e] at q
      exact iteF (q _ G2 H2 (s1.trans s2) k2 (.bl _))
/-! ### calls -/
/-- the promise of a def that leaves all as it is: m tells its value -/
def spP [Tb] {α ρ : Type} (args : α → List V → Hp → Prop) (m : α → Option ρ) (res : ρ → VP) : Sp := fun vs H Q _ =>
  ∃ (G M : Hp) (a : α) (r : ρ), Ok G M H ∧ args a vs G ∧ m a = some r ∧ ∀ v G' H', Same G G' → Ok G' M H' → res r v G' → Q v H'
/-- the store of the draws -/
abbrev Sto := Int × Int × Int
def sto (z : Sto) : HO := .lst [.int z.1, .int z.2.1, .int z.2.2]
/-- the promise of a def that draws from the store -/
def spD [Tb] {α ρ : Type} (args : α → List V → Hp → Prop) (m : α → Sto → Option (ρ × Sto)) (res : ρ → VP) : Sp := fun vs H Q _ =>
  ∃ (G M : Hp) (s : Addr) (z z' : Sto) (a : α) (r : ρ) (ws : List V), vs = .ref s :: ws ∧ Ok G M H ∧ M s = some (sto z) ∧ args a ws G ∧ m a z = some (r, z') ∧ ∀ v G' H', Same G G' → Ok G' (upd M s (sto z')) H' → res r v G' → Q v H'
theorem ev_callP [Tb] {α ρ : Type} {args : α → List V → Hp → Prop} {m : α → Option ρ} {res : ρ → VP} {E : XK} {t : TA} {a : α} {r : ρ} (hm : m a = some r) (ha : EvA t σ G M M1 (args a)) : Ev (tCall (spP args m res) [] E t) σ G M M1 (res r) := fun G0 H s k Q q =>
  ha G0 H s k _ fun vs G1 H1 s1 k1 hv => by
    rw [List.append_nil]
    exact ⟨G1, M1, a, r, k1, hv, hm, fun v G2 H2 s2 k2 hr => q v G2 H2 (s1.trans s2) k2 hr⟩
theorem ev_callD [Tb] {α ρ : Type} {args : α → List V → Hp → Prop} {m : α → Sto → Option (ρ × Sto)} {res : ρ → VP} {E : XK} {t : TA} {a : α} {r : ρ} {s : Addr} {z z' : Sto} (hs : M1 s = some (sto z)) (hm : m a z = some (r, z')) (ha : EvA t σ G M M1 (conP (OW s) (args a))) : Ev (tCall (spD args m res) [] E t) σ G M (upd M1 s (sto z')) (res r) := fun G0 H s k Q q =>
  ha G0 H s k _ fun vs G1 H1 s1 k1 hv => by
    obtain ⟨v, ws, rfl, rfl, hw⟩ := hv
    rw [List.append_nil]
    exact ⟨G1, M1, _, z, z', a, r, ws, rfl, k1, hs, hw, hm, fun v G2 H2 s2 k2 hr => q v G2 H2 (s1.trans s2) k2 hr⟩
end
end Kx
end
section
set_option maxHeartbeats 2000000
namespace Kx
open PySem L2
/-! ### the rules under these names -/
section
variable {X : Cx}
theorem cl_len : CallR X (.builtin "len") (rLen X.K) := call_len_seq
theorem cl_list : CallR X (.type "list") (rListOf X.K) := call_list_of
theorem cl_tuple : CallR X (.type "tuple") (rTupOf X.K) := cl_tupleF
theorem cl_int : CallR X (.type "int") rInt1 := call_int1
theorem cl_abs : CallR X (.builtin "abs") rAbs := call_abs
theorem cl_max2 (h : X.calm = true) : CallR X (.builtin "max") rMaxI := call_max2 h
theorem cl_min2 (h : X.calm = true) : CallR X (.builtin "min") rMinI := call_min2 h
theorem cl_divmod : CallR X (.builtin "divmod") rDivmod := fun pins s σ H xs us Q I r h => by
  obtain ⟨i, j, rfl, hc, q⟩ := h
  exact call_divmodW pins s σ H _ us Q I r ⟨i, j, rfl, ⟨hc.1, PyProof.noPylong_of_log2 hc.2⟩, q⟩
end
section
variable {K : PySem.W.Frag} {σ : St} {G G' M M1 M2 M3 : Hp} {ta tb te tc : TE} {P P1 P2 : VP} {d e : Dat} {ds es : List Dat}
/-! ### what is walked -/
def Walks [Tb] (K : PySem.W.Frag) (J : It) (G : Hp) (ds : List Dat) : Prop :=
  ∃ (Y : Nat → Hp → V → Hp → Prop) (Gd : Hp → Prop), Walk J ds.length Gd Y ∧ (∀ H, Same G H → Gd H) ∧
    ∀ i d H x H' G2 M2, ds[i]? = some d → Same G G2 → Ok G2 M2 H → Y i H x H' → ∃ G3, Same G2 G3 ∧ Ok G3 M2 H' ∧ Dq K G3 x d
def Src [Tb] (K : PySem.W.Frag) (wi : TI) (σ : St) (G M M' : Hp) (ds : List Dat) : Prop :=
  ∀ G0 H, Same G G0 → Ok G0 M H → ∀ R : It → Hp → Prop, (∀ J G' H', Same G0 G' → Ok G' M' H' → Walks K J G' ds → R J H') → wi σ H R
theorem dqAll_at {vs : List V} {i : Nat} {x : V} (h : DqAll K G vs ds) (hx : vs[i]? = some x) (hd : ds[i]? = some d) : Dq K G x d := by
  obtain ⟨v, h1, h2⟩ := dpAll_get h hd
  rw [hx] at h1
  cases h1
  exact h2
theorem src_list [Tb] (h : Ev ta σ G M M1 (DD K (.list ds))) : Src K (iList K ta) σ G M M1 ds := fun G0 H s k R q =>
  h G0 H s k _ fun v G1 H1 s1 k1 hv => by
    obtain ⟨a, vs, rfl, h1, h2⟩ := dp_list hv
    refine ⟨a, rfl, ⟨vs, .inl (.inl (k1.g _ _ h1))⟩, q _ G1 H1 s1 k1 ?_⟩
    refine ⟨_, _, (dpAll_len h2) ▸ (walk_list (K := K) (a := a) (xs := vs)), fun H s => .inl (.inl (s _ _ h1)), fun i d H x H' G2 M2 hd s2 k2 y => ?_⟩
    obtain ⟨rfl, hx⟩ := y
    exact ⟨G2, Same.refl _, k2, dp_up s2 _ (dqAll_at h2 hx hd)⟩
theorem src_tup [Tb] (h : Ev ta σ G M M1 (DD K (.tuple ds))) : Src K (iTup K ta) σ G M M1 ds := fun G0 H s k R q =>
  h G0 H s k _ fun v G1 H1 s1 k1 hv => by
    obtain ⟨a, vs, rfl, h1, h2⟩ := dp_tuple hv
    refine ⟨a, rfl, ⟨vs, sqT_up k1.g h1⟩, q _ G1 H1 s1 k1 ?_⟩
    refine ⟨_, _, (dpAll_len h2) ▸ (walk_tup (K := K) (a := a) (xs := vs)), fun H s => sqT_up s h1, fun i d H x H' G2 M2 hd s2 k2 y => ?_⟩
    obtain ⟨rfl, hx⟩ := y
    exact ⟨G2, Same.refl _, k2, dp_up s2 _ (dqAll_at h2 hx hd)⟩
/-- lo, lo + 1, .. below hi -/
def irange (lo hi : Int) : List Int := (List.range (hi - lo).toNat).map fun k : Nat => lo + (k : Int)
theorem irange_len (lo hi : Int) : (irange lo hi).length = (hi - lo).toNat := by
  unfold irange
  rw [List.length_map, List.length_range]
theorem irange_get {lo hi : Int} {i : Nat} (h : i < (hi - lo).toNat) : (irange lo hi)[i]? = some (lo + (i : Int)) := by
  unfold irange
  rw [List.getElem?_map, List.getElem?_range h]
  rfl
theorem walks_range [Tb] {lo hi : Int} {n : Nat} (e : n = (hi - lo).toNat) : Walks K (Itr lo n) G ((irange lo hi).map Dat.int) := by
  have el : ((irange lo hi).map Dat.int).length = n := by rw [List.length_map, irange_len, e]
  refine ⟨YFn fun i => .int (lo + i), fun _ => True, (by rw [el]; exact walk_range), fun H _ => True.intro, fun i d H x H' G2 M2 hd s2 k2 y => ?_⟩
  obtain ⟨rfl, rfl⟩ := y
  have hi : i < (hi - lo).toNat := by
    rw [← e, ← el]
    exact (List.getElem?_eq_some_iff.mp hd).1
  rw [List.getElem?_map, irange_get hi] at hd
  cases hd
  exact ⟨G2, Same.refl _, k2, .int _⟩
theorem src_range1 [Tb] {ta : TA} {n : Int} (h1 : -(2 ^ 62) ≤ n) (h2 : n < 2 ^ 62) (h : EvA ta σ G M M1 (conP (DD K (.int n)) nilP)) : Src K (iRng1 ta) σ G M M1 ((irange 0 n).map Dat.int) := fun G0 H s k R q =>
  h G0 H s k _ fun vs G1 H1 s1 k1 hv => by
    obtain ⟨v, rfl, hw⟩ := one_of (R := nilP) hv
    cases hw
    exact ⟨n, rfl, h1, h2, q _ G1 H1 s1 k1 (walks_range (by rw [Int.sub_zero]))⟩
theorem sok_sign {z : Str} {c : Nat} (h : sok z = true) (hc : c ∈ z.cps.toList) : sok ⟨#[c]⟩ = true := by
  unfold sok PyData.strOk at h ⊢
  rw [Array.all_eq_true'] at h
  simp only [List.all_toArray, List.all_cons, List.all_nil, Bool.and_true, decide_eq_true_eq]
  have := h c (by simpa using hc)
  simpa using this
theorem src_str [Tb] {z : Str} (h : Ev ta σ G M M1 (DD K (.str z))) : Src K (iStr ta) σ G M M1 (z.cps.toList.map fun c => Dat.str ⟨#[c]⟩) := fun G0 H s k R q =>
  h G0 H s k _ fun v G1 H1 s1 k1 hv => by
    have hs : sok z = true := by
      cases hv with
      | str h => exact h
    cases hv
    refine ⟨z, rfl, q _ G1 H1 s1 k1 ?_⟩
    have el : (z.cps.toList.map fun c => Dat.str ⟨#[c]⟩).length = z.cps.size := by simp
    refine ⟨_, _, el ▸ walk_str, fun H _ => True.intro, fun i d H x H' G2 M2 hd s2 k2 y => ?_⟩
    obtain ⟨rfl, c, hc, rfl⟩ := y
    have e1 : (z.cps.toList)[i]? = some c := by simpa using hc
    rw [List.getElem?_map, e1] at hd
    cases hd
    exact ⟨G2, Same.refl _, k2, .str (sok_sign hs (List.mem_of_getElem? e1))⟩
theorem walks_pair [Tb] {J : It} {n : Nat} {xs ys : Nat → Option V} {Gd : Hp → Prop} (w : Walk J n Gd (YPair xs ys)) (hn : ds.length = n) (hG : ∀ H, Same G H → Gd H)
    (hd : ∀ (i : Nat) (d : Dat) (x y : V), ds[i]? = some d → xs i = some x → ys i = some y → ∃ d1 d2, d = .rtup [d1, d2] ∧ Dq K G x d1 ∧ Dq K G y d2) : Walks K J G ds := by
  refine ⟨_, _, hn ▸ w, hG, fun i d H x H' G2 M2 hi s2 k2 y => ?_⟩
  obtain ⟨T, x, y, rfl, hT, rfl, hx, hy⟩ := y
  obtain ⟨d1, d2, rfl, h1, h2⟩ := hd i d x y hi hx hy
  have gT := Same.none k2.g hT
  have s3 : Same G2 (upd G2 T (.tup [x, y])) := Same.new gT
  exact ⟨upd G2 T (.tup [x, y]), s3, k2.newG _ hT, .rtup upd_same (.cons (dp_up (s2.trans s3) _ h1) (.cons (dp_up (s2.trans s3) _ h2) .nil))⟩
def enumD (ds : List Dat) : List Dat := ds.mapIdx fun i d => .rtup [.int (i : Int), d]
/-! ### targets -/
def Tg (g : TG) (v : V) (σ : St) (G : Hp) (F : St → Prop) : Prop := ∀ H Q, Same G H → (∀ σ2, F σ2 → Q σ2 H) → g v σ H Q
def Tgs (g : TGs) (vs : List V) (σ : St) (G : Hp) (F : St → Prop) : Prop := ∀ H Q, Same G H → (∀ σ2, F σ2 → Q σ2 H) → g vs σ H Q
theorem tg_name {i : Nat} {v : V} {F : St → Prop} (h : F (σ.set i (some v))) : Tg (gName i) v σ G F := fun _ _ _ q => q _ h
theorem tgs_nil {F : St → Prop} (h : F σ) : Tgs gNil [] σ G F := fun _ _ _ q => ⟨rfl, q _ h⟩
theorem tgs_cons {g : TG} {gs : TGs} {v : V} {vs : List V} {F : St → Prop} (h : Tg g v σ G fun σ2 => Tgs gs vs σ2 G F) : Tgs (gCons g gs) (v :: vs) σ G F := fun H Q s q =>
  ⟨v, vs, rfl, h H _ s fun σ2 h2 => h2 H _ s q⟩
theorem tg_tup {n : Nat} {gs : TGs} {v : V} {F : St → Prop} (hv : Dq K G v (.tuple ds)) (hn : ds.length = n) (h : ∀ vs, DqAll K G vs ds → Tgs gs vs σ G F) : Tg (gTup K n gs) v σ G F := fun H Q s q => by
  obtain ⟨a, vs, rfl, h1, h2⟩ := dp_tuple hv
  exact ⟨a, vs, rfl, sqT_up s h1, by rw [dpAll_len h2]; exact hn, h vs h2 H Q s q⟩
theorem tg_t2 {g1 g2 : TG} {v : V} {F : St → Prop} {d1 d2 : Dat} (hv : Dq K G v (.tuple [d1, d2])) (h : ∀ v1 v2, Dq K G v1 d1 → Dq K G v2 d2 → Tg g1 v1 σ G fun σ1 => Tg g2 v2 σ1 G F) : Tg (gTup K 2 (gCons g1 (gCons g2 gNil))) v σ G F :=
  tg_tup hv rfl fun vs hs => by
    cases hs with
    | cons a b =>
      cases b with
      | cons b c =>
        cases c
        exact tgs_cons fun H Q s q => h _ _ a b H Q s fun σ1 h1 => q σ1 (tgs_cons fun H' Q' s' q' => h1 H' Q' s' fun σ2 h2 => q' σ2 (tgs_nil h2))
theorem tg_t3 {g1 g2 g3 : TG} {v : V} {F : St → Prop} {d1 d2 d3 : Dat} (hv : Dq K G v (.tuple [d1, d2, d3])) (h : ∀ v1 v2 v3, Dq K G v1 d1 → Dq K G v2 d2 → Dq K G v3 d3 → Tg g1 v1 σ G fun σ1 => Tg g2 v2 σ1 G fun σ2 => Tg g3 v3 σ2 G F) : Tg (gTup K 3 (gCons g1 (gCons g2 (gCons g3 gNil)))) v σ G F :=
  tg_tup hv rfl fun vs hs => by
    cases hs with
    | cons a b =>
      cases b with
      | cons b c =>
        cases c with
        | cons c d =>
          cases d
          exact tgs_cons fun H Q s q => h _ _ _ a b c H Q s fun σ1 h1 => q σ1 (tgs_cons fun H' Q' s' q' => h1 H' Q' s' fun σ2 h2 => q' σ2 (tgs_cons fun H'' Q'' s'' q'' => h2 H'' Q'' s'' fun σ3 h3 => q'' σ3 (tgs_nil h3)))
/-! ### comprehensions -/
/-- one turn's test and element: b the test's answer, o what is put behind (none: nothing) -/
def LcB [Tb] (K : PySem.W.Frag) (tt : TT) (te : TE) (σ : St) (G M M' : Hp) (o : Option Dat) : Prop :=
  ∃ (M1 : Hp) (b : Bool), EvT tt σ G M M1 b ∧ (b = true → ∃ e, o = some e ∧ Ev te σ G M1 M' (DD K e)) ∧ (b = false → o = none ∧ M' = M1)
theorem lcb_yes [Tb] (h : Ev te σ G M M1 (DD K e)) : LcB K tYes te σ G M M1 (some e) := ⟨M, true, fun G0 H _ k Q q => q G0 H (Same.refl _) k, fun _ => ⟨e, rfl, h⟩, fun z => Bool.noConfusion z⟩
theorem lcb_if [Tb] {tt : TT} {b : Bool} {o : Option Dat} (h : EvT tt σ G M M1 b) (h1 : b = true → ∃ e, o = some e ∧ Ev te σ G M1 M2 (DD K e)) (h2 : b = false → o = none ∧ M2 = M1) : LcB K tt te σ G M M2 o := ⟨M1, b, h, h1, h2⟩
/-- the general form: mm tells what may be changed, by the turn -/
theorem el_lcG [Tb] {wi : TI} {g : TG} {tt : TT} {vs : List Nat} (src : Src K wi σ G M M1 ds) (os : List (Option Dat)) (mm : Nat → Hp) (hm0 : mm 0 = M1) (hmn : mm ds.length = M2) (hdom : ∀ i a, (mm i a).isSome = (M1 a).isSome) (hl : os.length = ds.length) (hz : ds.length ≤ sizeLine)
    (hs : ∀ (i : Nat) (d : Dat) (o : Option Dat) (D : Addr) (acc : List V) (G1 : Hp) (v : V), ds[i]? = some d → os[i]? = some o → M1 D = none → Same G G1 → Dq K G1 v d →
      Tg g v (wipe σ vs) G1 fun σ2 => wipe σ2 vs = wipe σ vs ∧ LcB K tt te σ2 G1 (upd (mm i) D (.lst acc)) (upd (mm (i + 1)) D (.lst acc)) o) :
    EvL K (tLc wi g tt te vs) σ G M M2 (os.filterMap id) := by
  intro G0 H s k Q q
  refine src G0 H s k _ fun J G1 H1 s1 k1 w => ?_
  obtain ⟨Y, Gd, w, hGd, hY⟩ := w
  intro D hD
  have mD : M1 D = none := Same.none k1.m hD
  have none_at : ∀ i, mm i D = none := fun i => by
    have := hdom i D
    rw [mD] at this
    cases e : mm i D with
    | none => rfl
    | some _ => rw [e] at this; cases this
  refine lc_it w (fun i H => ∃ G2 acc, Same G1 G2 ∧ Ok G2 (upd (mm i) D (.lst acc)) H ∧ DqAll K G2 acc ((os.take i).filterMap id)) ?_ ?_ ?_ ?_
  · refine ⟨G1, [], Same.refl _, ?_, .nil⟩
    rw [hm0]
    exact k1.newM _ hD
  · rintro i H2 _ ⟨G2, acc, s2, k2, _⟩
    exact hGd H2 (s2.trans k2.g)
  · rintro i x H2 H3 hi ⟨G2, acc, s2, k2, hacc⟩ y
    obtain ⟨d, hd⟩ : ∃ d, ds[i]? = some d := ⟨ds[i], List.getElem?_eq_getElem hi⟩
    obtain ⟨o, ho⟩ : ∃ o, os[i]? = some o := ⟨os[i]'(by omega), List.getElem?_eq_getElem (by omega)⟩
    obtain ⟨G3, s3, k3, hx⟩ := hY i d H2 x H3 G2 _ hd s2 k2 y
    refine hs i d o D acc G3 x hd ho mD (((s.trans s1).trans s2).trans s3) hx H3 _ k3.g ?_
    rintro σ2 ⟨hw, Mx, b, h1, h2, h3⟩
    refine ⟨hw, h1 G3 H3 (Same.refl _) k3 _ fun G4 H4 s4 k4 => ?_⟩
    have et : (os.take (i + 1)).filterMap id = (os.take i).filterMap id ++ o.toList := by
      rw [List.take_add_one, ho, List.filterMap_append]
      cases o <;> rfl
    cases b with
    | true =>
      obtain ⟨e, rfl, he⟩ := h2 rfl
      refine iteT (he G4 H4 s4 k4 _ fun z G5 H5 s5 k5 hz5 => ?_)
      refine ⟨acc, k5.m _ _ upd_same, ?_, ?_⟩
      · rw [dpAll_len hacc]
        refine Nat.lt_of_le_of_lt (List.length_filterMap_le _ _) ?_
        rw [List.length_take]
        omega
      · refine ⟨G5, acc ++ [z], ((s2.trans s3).trans s4).trans s5, ?_, ?_⟩
        · have := k5.chg (p := D) (u := .lst acc) (.lst (acc ++ [z])) upd_same
          rw [upd_upd] at this
          exact this
        · rw [et]
          exact dpAll_app (dpAll_up ((s3.trans s4).trans s5) _ hacc) (.cons hz5 .nil)
    | false =>
      obtain ⟨rfl, e2⟩ := h3 rfl
      subst e2
      refine iteF ⟨G4, acc, (s2.trans s3).trans s4, k4, ?_⟩
      rw [et, show (none : Option Dat).toList = [] from rfl, List.append_nil]
      exact dpAll_up (s3.trans s4) _ hacc
  · rintro H2 ⟨G2, acc, s2, k2, hacc⟩
    have e1 : os.take ds.length = os := by rw [← hl, List.take_length]
    rw [e1] at hacc
    have := none_at ds.length
    rw [hmn] at k2 this
    exact q D acc G2 H2 (s1.trans s2) k2 this hacc
/-- nothing is changed by the turns, no test -/
theorem el_lc [Tb] {wi : TI} {g : TG} {vs : List Nat} (src : Src K wi σ G M M1 ds) (es : List Dat) (hl : es.length = ds.length) (hz : ds.length ≤ sizeLine)
    (hs : ∀ (i : Nat) (d e : Dat) (Mx G1 : Hp) (v : V), ds[i]? = some d → es[i]? = some e → Same M1 Mx → Same G G1 → Dq K G1 v d → Tg g v (wipe σ vs) G1 fun σ2 => wipe σ2 vs = wipe σ vs ∧ Ev te σ2 G1 Mx Mx (DD K e)) :
    EvL K (tLc wi g tYes te vs) σ G M M1 es := by
  have := el_lcG (tt := tYes) (te := te) (g := g) (vs := vs) (M2 := M1) src (es.map some) (fun _ => M1) rfl rfl (fun _ _ => rfl) (by rw [List.length_map]; exact hl) hz fun i d o D acc G1 v hd ho hD s hv => by
    rw [List.getElem?_map] at ho
    cases e : es[i]? with
    | none => rw [e] at ho; cases ho
    | some e' =>
      rw [e] at ho
      cases ho
      exact fun H Q sg q => hs i d e' (upd M1 D (.lst acc)) G1 v hd e (Same.new hD) s hv H Q sg fun σ2 h2 => q σ2 ⟨h2.1, lcb_yes h2.2⟩
  rw [List.filterMap_map, show (id ∘ some : Dat → Option Dat) = some from rfl, List.filterMap_some] at this
  exact this
/-- the turns draw: zs tells the store ahead of each -/
theorem el_lcD [Tb] {wi : TI} {g : TG} {vs : List Nat} {s : Addr} {zs : Nat → Sto} (src : Src K wi σ G M M1 ds) (es : List Dat) (h0 : M1 s = some (sto (zs 0))) (hl : es.length = ds.length) (hz : ds.length ≤ sizeLine)
    (hs : ∀ (i : Nat) (d e : Dat) (Mx G1 : Hp) (v : V), ds[i]? = some d → es[i]? = some e → (∀ a o, a ≠ s → M1 a = some o → Mx a = some o) → Mx s = some (sto (zs i)) → Same G G1 → Dq K G1 v d → Tg g v (wipe σ vs) G1 fun σ2 => wipe σ2 vs = wipe σ vs ∧ Ev te σ2 G1 Mx (upd Mx s (sto (zs (i + 1)))) (DD K e)) :
    EvL K (tLc wi g tYes te vs) σ G M (upd M1 s (sto (zs ds.length))) es := by
  have := el_lcG (tt := tYes) (te := te) (g := g) (vs := vs) (M2 := upd M1 s (sto (zs ds.length))) src (es.map some) (fun i => upd M1 s (sto (zs i))) (upd_back h0) rfl (fun i a => by
    by_cases ha : a = s
    · subst ha; rw [upd_same, h0]; rfl
    · rw [upd_ne ha]) (by rw [List.length_map]; exact hl) hz fun i d o D acc G1 v hd ho hD sg hv => by
    rw [List.getElem?_map] at ho
    cases e : es[i]? with
    | none => rw [e] at ho; cases ho
    | some e' =>
      rw [e] at ho
      cases ho
      have nD : s ≠ D := ne_of_none h0 hD
      refine fun H Q sgh q => hs i d e' (upd (upd M1 s (sto (zs i))) D (.lst acc)) G1 v hd e (fun a o ha hm => ?_) ?_ sg hv H Q sgh fun σ2 h2 => q σ2 ⟨h2.1, lcb_yes ?_⟩
      · rw [upd_ne (ne_of_none hm hD), upd_ne ha]
        exact hm
      · rw [upd_ne nD, upd_same]
      · have h3 := h2.2
        rw [upd_comm (p := D) nD.symm, upd_upd] at h3
        exact h3
  rw [List.filterMap_map, show (id ∘ some : Dat → Option Dat) = some from rfl, List.filterMap_some] at this
  exact this
/-! ### statements -/
variable {D : Ends} {H : Hp} {u : TS}
theorem q_set [Tb] {i : Nat} {σ' : V → St} (he : Ev te σ G M M1 P) (ok : Ok G M H) (hσ : ∀ v, σ.set i (some v) = σ' v) (k : ∀ v G' H', Same G G' → Ok G' M1 H' → P v G' → u D (σ' v) H') : tSeq (tAsg te (gName i)) u D σ H :=
  he G H (Same.refl _) ok _ fun v G1 H1 s1 k1 hv => by
    show u D (σ.set i (some v)) H1
    rw [hσ v]
    exact k v G1 H1 s1 k1 hv
theorem q_setL [Tb] {i : Nat} {σ' : V → St} (he : EvL K te σ G M M1 ds) (ok : Ok G M H) (hσ : ∀ v, σ.set i (some v) = σ' v) (k : ∀ p vs G' H', Same G G' → Ok G' (upd M1 p (.lst vs)) H' → M1 p = none → DqAll K G' vs ds → u D (σ' (.ref p)) H') : tSeq (tAsg te (gName i)) u D σ H :=
  he G H (Same.refl _) ok _ fun p vs G1 H1 s1 k1 hp hv => by
    show u D (σ.set i (some (.ref p))) H1
    rw [hσ]
    exact k p vs G1 H1 s1 k1 hp hv
theorem q_ret [Tb] (he : Ev te σ G M M1 P) (ok : Ok G M H) (k : ∀ v G' H', Same G G' → Ok G' M1 H' → P v G' → D.rt v H') : tSeq (tRet te) u D σ H :=
  he G H (Same.refl _) ok _ k
theorem q_expr [Tb] (he : Ev te σ G M M1 P) (ok : Ok G M H) (k : ∀ G' H', Same G G' → Ok G' M1 H' → u D σ H') : tSeq (tDrop te) u D σ H :=
  he G H (Same.refl _) ok _ fun v G1 H1 s1 k1 _ => k G1 H1 s1 k1
theorem q_if [Tb] {c : TT} {t t' : TS} {b : Bool} (hc : EvT c σ G M M1 b) (ok : Ok G M H) (h1 : b = true → ∀ G' H', Same G G' → Ok G' M1 H' → t { D with nx := u D } σ H') (h2 : b = false → ∀ G' H', Same G G' → Ok G' M1 H' → t' { D with nx := u D } σ H') : tSeq (tIfS c t t') u D σ H :=
  hc G H (Same.refl _) ok _ fun G1 H1 s1 k1 => by
    cases b with
    | true => exact iteT (h1 rfl G1 H1 s1 k1)
    | false => exact iteF (h2 rfl G1 H1 s1 k1)
/-- behind an if whose ways meet: J tells where -/
theorem q_ifJ [Tb] {c : TT} {t t' : TS} {b : Bool} (J : St → Hp → Hp → Prop) (hc : EvT c σ G M M1 b) (ok : Ok G M H)
    (h1 : b = true → ∀ G' H' D', Same G G' → Ok G' M1 H' → D'.rt = D.rt → D'.bk = D.bk → D'.ct = D.ct → (∀ σ2 G2 M2 H2, Same G' G2 → Ok G2 M2 H2 → J σ2 G2 M2 → D'.nx σ2 H2) → t D' σ H')
    (h2 : b = false → ∀ G' H' D', Same G G' → Ok G' M1 H' → D'.rt = D.rt → D'.bk = D.bk → D'.ct = D.ct → (∀ σ2 G2 M2 H2, Same G' G2 → Ok G2 M2 H2 → J σ2 G2 M2 → D'.nx σ2 H2) → t' D' σ H')
    (k : ∀ σ2 G2 M2 H2, Same G G2 → Ok G2 M2 H2 → J σ2 G2 M2 → u D σ2 H2) : tSeq (tIfS c t t') u D σ H :=
  q_if hc ok (fun e G' H' s' k' => h1 e G' H' { D with nx := u D } s' k' rfl rfl rfl fun σ2 G2 M2 H2 s2 k2 j => k σ2 G2 M2 H2 (s'.trans s2) k2 j)
    (fun e G' H' s' k' => h2 e G' H' { D with nx := u D } s' k' rfl rfl rfl fun σ2 G2 M2 H2 s2 k2 j => k σ2 G2 M2 H2 (s'.trans s2) k2 j)
theorem q_nil (h : D.nx σ H) : tNext D σ H := h
theorem q_append [Tb] {p : Addr} {vs : List V} (ho : Ev ta σ G M M (OW p)) (ha : EvA (tCons te tNil) σ G M M1 (conP (DD K d) nilP)) (hp0 : M p = some (.lst vs)) (hp : M1 p = some (.lst vs)) (hl : vs.length < sizeLine) (ok : Ok G M H)
    (k : ∀ v G' H', Same G G' → Ok G' (upd M1 p (.lst (vs ++ [v]))) H' → Dq K G' v d → u D σ H') : tSeq (tDrop (tBM K "list" rAppend ta (tCons te tNil))) u D σ H :=
  ho G H (Same.refl _) ok _ fun x G1 H1 s1 k1 hx => by
    cases hx
    refine ⟨.inl ⟨rfl, _, .inl (.inl (k1.m _ _ hp0))⟩, ha G1 H1 s1 k1 _ fun xs G2 H2 s2 k2 hv => ?_⟩
    obtain ⟨v, rfl, hw⟩ := one_of (R := nilP) hv
    exact ⟨p, vs, v, rfl, rfl, k2.m _ _ hp, hl, k v G2 _ (s1.trans s2) (k2.chg _ hp) hw⟩
/-- xs[i] = e, xs a list of one's own -/
theorem q_setItem [Tb] {p : Addr} {vs : List V} {i : Int} {j : Nat} (he : Ev te σ G M M1 (DD K d)) (ho : Ev ta σ G M1 M1 (OW p)) (hi : Ev tb σ G M1 M2 (DD K (.int i))) (hp : M2 p = some (.lst vs)) (hj : ixN vs.length i = some j) (ok : Ok G M H)
    (k : ∀ v G' H', Same G G' → Ok G' (upd M2 p (.lst (vs.set j v))) H' → Dq K G' v d → u D σ H') : tSeq (tAsg te (gSub ta tb rSetL)) u D σ H :=
  he G H (Same.refl _) ok _ fun v G1 H1 s1 k1 hv => ho G1 H1 s1 k1 _ fun x G2 H2 s2 k2 hx => hi G2 H2 (s1.trans s2) k2 _ fun y G3 H3 s3 k3 hy => by
    cases hx; cases hy
    exact ⟨p, vs, i, j, rfl, rfl, k3.m _ _ hp, hj, k v G3 _ ((s1.trans s2).trans s3) (k3.chg _ hp) (dp_up (s2.trans s3) _ hv)⟩
/-! ### loops -/
theorem q_for [Tb] {wi : TI} {g : TG} {tb : TS} (src : Src K wi σ G M M1 ds) (ok : Ok G M H) (J : Nat → St → Hp → Hp → Prop) (h0 : ∀ G', Same G G' → J 0 σ G' M1)
    (hs : ∀ i d v σ1 G1 M2 H1 (N : St → Hp → Prop), ds[i]? = some d → J i σ1 G1 M2 → Same G G1 → Ok G1 M2 H1 → Dq K G1 v d → (∀ σ2 G2 M3 H2, Same G1 G2 → Ok G2 M3 H2 → J (i + 1) σ2 G2 M3 → N σ2 H2) → g v σ1 H1 fun σ2 H2 => tb { D with nx := N, ct := N, bk := u D } σ2 H2)
    (hJ : ∀ i σ1 G1 G2 M2, J i σ1 G1 M2 → Same G1 G2 → J i σ1 G2 M2)
    (hd : ∀ σ1 G1 M2 H1, Same G G1 → Ok G1 M2 H1 → J ds.length σ1 G1 M2 → u D σ1 H1) : tSeq (tFor wi g tb) u D σ H := by
  refine src G H (Same.refl _) ok _ fun J' G1 H1 s1 k1 w => ?_
  obtain ⟨Y, Gd, w, hGd, hY⟩ := w
  refine for_it w (D := { D with nx := u D }) (fun i σ1 H2 => ∃ G2 M2, Same G1 G2 ∧ Ok G2 M2 H2 ∧ J i σ1 G2 M2) ⟨G1, M1, Same.refl _, k1, h0 G1 s1⟩ ?_ ?_ ?_
  · rintro i σ1 H2 _ ⟨G2, M2, s2, k2, _⟩
    exact hGd H2 (s2.trans k2.g)
  · rintro i x σ1 H2 H3 hi ⟨G2, M2, s2, k2, j⟩ y
    obtain ⟨d, hd'⟩ : ∃ d, ds[i]? = some d := ⟨ds[i], List.getElem?_eq_getElem hi⟩
    obtain ⟨G3, s3, k3, hx⟩ := hY i d H2 x H3 G2 M2 hd' s2 k2 y
    exact hs i d x σ1 G3 M2 H3 _ hd' (hJ i σ1 G2 G3 M2 j s3) ((s1.trans s2).trans s3) k3 hx fun σ2 G4 M4 H4 s4 k4 j4 => ⟨G4, M4, (s2.trans s3).trans s4, k4, j4⟩
  · rintro σ1 H2 ⟨G2, M2, s2, k2, j⟩
    exact hd σ1 G2 M2 H2 (s1.trans s2) k2 j
end
end Kx
end
section
set_option maxHeartbeats 2000000
namespace Kx
open PySem L2
/-! ### the mirror's own words -/
theorem bs {α β : Type} {x : Option α} {f : α → Option β} {r : β} (h : x.bind f = some r) : ∃ a, x = some a ∧ f a = some r := by
  cases x with
  | none => cases h
  | some a => exact ⟨a, rfl, h⟩
theorem cond_t {α : Type} {b : Bool} {x y : α} {r : α} (e : b = true) (h : cond b x y = r) : x = r := by subst e; exact h
theorem cond_f {α : Type} {b : Bool} {x y : α} {r : α} (e : b = false) (h : cond b x y = r) : y = r := by subst e; exact h
instance (i j : Int) : Decidable (CMul i j) := by unfold CMul; exact inferInstance
instance (i j : Int) : Decidable (CDivN i j) := by unfold CDivN; exact inferInstance
instance (i j : Int) : Decidable (CDiv i j) := by unfold CDiv; exact inferInstance
instance (i j : Int) : Decidable (CPow i j) := by unfold CPow; exact inferInstance
def grd (p : Prop) [Decidable p] : Option Unit := if p then some () else none
theorem grd_of {p : Prop} [Decidable p] {u : Unit} (h : grd p = some u) : p := by
  unfold grd at h
  split at h
  · assumption
  · cases h
theorem grd_yes {p : Prop} [Decidable p] (h : p) : grd p = some () := by
  unfold grd
  rw [if_pos h]
def CMulO (i j : Int) : Prop := CMul i j ∨ CMulX i j
instance (i j : Int) : Decidable (CMulX i j) := by unfold CMulX; exact inferInstance
instance (i j : Int) : Decidable (CMulO i j) := by unfold CMulO; exact inferInstance
theorem op_mulO {X : Cx} : OpR X (binaryOp .Mult) (rI CMulO fun i j => .int (i * j)) := opI fun _ _ _ _ _ _ _ hc q => PyProof.Rows.mul_int q (hc.elim (fun h => h.ok) (fun h => h.ok))
def CDivO (i j : Int) : Prop := CDivN i j ∨ CDivW i j
instance (i j : Int) : Decidable (CDivW i j) := by unfold CDivW; exact inferInstance
instance (i j : Int) : Decidable (CDivO i j) := by unfold CDivO; exact inferInstance
theorem op_fdivO {X : Cx} : OpR X (binaryOp .FloorDiv) (rI CDivO fun i j => .int (i.fdiv j)) := by
  intro pins s σ H x y v u Q I rx ry h
  obtain ⟨i, j, rfl, rfl, hc, q⟩ := h
  rcases hc with hc | hc
  · exact op_fdivN pins s σ H _ _ v u Q I rx ry ⟨i, j, rfl, rfl, hc, q⟩
  · refine op_fdivW pins s σ H _ _ v u Q I rx ry ⟨i, j, rfl, rfl, hc, ?_⟩
    have e : i / j = i.fdiv j := (Int.fdiv_eq_ediv_of_nonneg i (by have := hc.1; omega)).symm
    show Q (.int (i / j)) H
    rw [e]
    exact q
def mulO (i j : Int) : Option Int := (grd (CMulO i j)).bind fun _ => some (i * j)
def fdivO (i j : Int) : Option Int := (grd (CDivO i j)).bind fun _ => some (i.fdiv j)
def modO (i j : Int) : Option Int := (grd (j ≠ 0)).bind fun _ => some (i.fmod j)
def powO (i j : Int) : Option Int := (grd (CPow i j)).bind fun _ => some (i ^ j.toNat)
theorem mulO_of {i j r : Int} (h : mulO i j = some r) : CMulO i j ∧ r = i * j := by
  obtain ⟨_, h1, h2⟩ := bs h
  exact ⟨grd_of h1, (Option.some.inj h2).symm⟩
theorem fdivO_of {i j r : Int} (h : fdivO i j = some r) : CDivO i j ∧ r = i.fdiv j := by
  obtain ⟨_, h1, h2⟩ := bs h
  exact ⟨grd_of h1, (Option.some.inj h2).symm⟩
theorem modO_of {i j r : Int} (h : modO i j = some r) : j ≠ 0 ∧ r = i.fmod j := by
  obtain ⟨_, h1, h2⟩ := bs h
  exact ⟨grd_of h1, (Option.some.inj h2).symm⟩
theorem powO_of {i j r : Int} (h : powO i j = some r) : CPow i j ∧ r = i ^ j.toNat := by
  obtain ⟨_, h1, h2⟩ := bs h
  exact ⟨grd_of h1, (Option.some.inj h2).symm⟩
theorem atI_map {α β : Type} {f : α → β} {xs : List α} {i : Int} {x : α} (h : atI xs i = some x) : atI (xs.map f) i = some (f x) := by
  unfold atI at h ⊢
  rw [List.length_map]
  cases e : ixN xs.length i with
  | none => rw [e] at h; cases h
  | some j =>
    rw [e] at h
    show (xs.map f)[j]? = _
    rw [List.getElem?_map, show xs[j]? = some x from h]
    rfl
/-- the longest that is made in one go -/
def mapO {α β : Type} (f : α → Option β) : List α → Option (List β)
  | [] => some []
  | x :: xs => (f x).bind fun y => (mapO f xs).bind fun ys => some (y :: ys)
theorem mapO_len {α β : Type} {f : α → Option β} : ∀ {xs : List α} {ys : List β}, mapO f xs = some ys → ys.length = xs.length
  | [], ys, h => by cases h; rfl
  | x :: xs, ys, h => by
    obtain ⟨y, _, h⟩ := bs h
    obtain ⟨zs, h2, h⟩ := bs h
    cases h
    exact congrArg (· + 1) (mapO_len h2)
theorem mapO_get {α β : Type} {f : α → Option β} : ∀ {xs : List α} {ys : List β} {i : Nat} {x : α} {y : β}, mapO f xs = some ys → xs[i]? = some x → ys[i]? = some y → f x = some y
  | [], ys, _, _, _, h, h1, _ => by simp at h1
  | a :: xs, ys, i, x, y, h, h1, h2 => by
    obtain ⟨b, hb, h⟩ := bs h
    obtain ⟨zs, hz, h⟩ := bs h
    cases h
    cases i with
    | zero => simp at h1 h2; subst h1; subst h2; exact hb
    | succ i => exact mapO_get hz (by simpa using h1) (by simpa using h2)
def lcO {α β : Type} (f : α → Option β) (xs : List α) : Option (List β) := (grd (xs.length ≤ 16777216)).bind fun _ => mapO f xs
def mapS {α β : Type} (f : α → Sto → Option (β × Sto)) : List α → Sto → Option (List β × Sto)
  | [], z => some ([], z)
  | x :: xs, z => (f x z).bind fun y => (mapS f xs y.2).bind fun ys => some (y.1 :: ys.1, ys.2)
def lcS {α β : Type} (f : α → Sto → Option (β × Sto)) (xs : List α) (z : Sto) : Option (List β × Sto) := (grd (xs.length ≤ 16777216)).bind fun _ => mapS f xs z
theorem mapS_get {α β : Type} {f : α → Sto → Option (β × Sto)} : ∀ {xs : List α} {z : Sto} {r : List β × Sto}, mapS f xs z = some r → r.1.length = xs.length ∧ ∃ zs : Nat → Sto, zs 0 = z ∧ zs xs.length = r.2 ∧
      ∀ (i : Nat) (x : α) (y : β), xs[i]? = some x → r.1[i]? = some y → f x (zs i) = some (y, zs (i + 1))
  | [], z, r, h => by cases h; exact ⟨rfl, fun _ => z, rfl, rfl, fun i x y h => by simp at h⟩
  | a :: xs, z, r, h => by
    obtain ⟨b, hb, h⟩ := bs h
    obtain ⟨r', hz, h⟩ := bs h
    cases h
    obtain ⟨hl, zs, h0, hn, hi⟩ := mapS_get hz
    refine ⟨congrArg (· + 1) hl, fun i => match i with | 0 => z | i + 1 => zs i, rfl, hn, fun i x y h1 h2 => ?_⟩
    cases i with
    | zero =>
      simp at h1 h2
      subst h1; subst h2
      show f a z = some (b.1, zs 0)
      rw [h0]
      exact hb
    | succ i => exact hi i x y (by simpa using h1) (by simpa using h2)
/-- a for over xs; a turn hands on the state (.inl) or returns (.inr) -/
def forO {S α : Type} (f : S → α → Option S) : List α → S → Option S
  | [], s => some s
  | x :: xs, s => (f s x).bind fun s' => forO f xs s'
def forR {S R α : Type} (f : S → α → Option (S ⊕ R)) : List α → S → Option (S ⊕ R)
  | [], s => some (.inl s)
  | x :: xs, s => (f s x).bind fun s' => match s' with
    | .inl s' => forR f xs s'
    | .inr r => some (.inr r)
abbrev eL {α : Type} (e : α → Dat) (xs : List α) : Dat := .list (xs.map e)
abbrev eT {α : Type} (e : α → Dat) (xs : List α) : Dat := .tuple (xs.map e)
abbrev eN (_ : Unit) : Dat := .none
abbrev eP2 {α β : Type} (e1 : α → Dat) (e2 : β → Dat) (p : α × β) : Dat := .tuple [e1 p.1, e2 p.2]
abbrev eR2 {α β : Type} (e1 : α → Dat) (e2 : β → Dat) (p : α × β) : Dat := .rtup [e1 p.1, e2 p.2]
abbrev eP3 {α β γ : Type} (e1 : α → Dat) (e2 : β → Dat) (e3 : γ → Dat) (p : α × β × γ) : Dat := .tuple [e1 p.1, e2 p.2.1, e3 p.2.2]
section
variable {K : PySem.W.Frag} {σ : St} {G G' M M1 M2 M3 : Hp} {ta tb te tc : TE} {P P1 P2 : VP} {d e : Dat} {ds es : List Dat}
theorem szl {n : Nat} (h : n ≤ 16777216) : n ≤ sizeLine := by rw [sizeLine_eq]; exact h
theorem szlt {n : Nat} (h : n < 16777216) : n < sizeLine := by rw [sizeLine_eq]; exact h
def enum {α : Type} (xs : List α) : List (Int × α) := xs.mapIdx fun i x => ((i : Int), x)
theorem enumD_map {α : Type} {ea : α → Dat} {xs : List α} : enumD (xs.map ea) = (enum xs).map (eR2 Dat.int ea) := by
  unfold enumD enum
  apply List.ext_getElem?
  intro i
  simp only [List.getElem?_mapIdx, List.getElem?_map, Option.map_map]
  cases xs[i]? <;> rfl
theorem Src.is [Tb] {wi : TI} {ds' : List Dat} (h : Src K wi σ G M M1 ds) (e : ds = ds') : Src K wi σ G M M1 ds' := e ▸ h
/-- a comprehension of data -/
theorem el_lcM [Tb] {α β : Type} {ea : α → Dat} {eb : β → Dat} {f : α → Option β} {xs : List α} {ys : List β} {wi : TI} {g : TG} {vs : List Nat} (src : Src K wi σ G M M1 (xs.map ea)) (hf : lcO f xs = some ys)
    (hs : ∀ (x : α) (y : β) (Mx G1 : Hp) (v : V), f x = some y → Same M1 Mx → Same G G1 → Dq K G1 v (ea x) → Tg g v (wipe σ vs) G1 fun σ2 => wipe σ2 vs = wipe σ vs ∧ Ev te σ2 G1 Mx Mx (DD K (eb y))) :
    EvL K (tLc wi g tYes te vs) σ G M M1 (ys.map eb) := by
  obtain ⟨_, h1, h2⟩ := bs hf
  have hl := mapO_len h2
  refine el_lc src (ys.map eb) (by rw [List.length_map, List.length_map, hl]) (by rw [List.length_map]; exact szl (grd_of h1)) fun i d e Mx G1 v hd he sM sG hv => ?_
  rw [List.getElem?_map] at hd he
  cases e1 : xs[i]? with
  | none => rw [e1] at hd; cases hd
  | some x =>
    cases e2 : ys[i]? with
    | none => rw [e2] at he; cases he
    | some y =>
      rw [e1] at hd; rw [e2] at he
      cases hd; cases he
      exact hs x y Mx G1 v (mapO_get h2 e1 e2) sM sG hv
theorem el_lcMD [Tb] {α β : Type} {ea : α → Dat} {eb : β → Dat} {f : α → Sto → Option (β × Sto)} {xs : List α} {r : List β × Sto} {z : Sto} {s : Addr} {wi : TI} {g : TG} {vs : List Nat} (src : Src K wi σ G M M1 (xs.map ea)) (h0 : M1 s = some (sto z)) (hf : lcS f xs z = some r)
    (hs : ∀ (x : α) (y : β) (z z' : Sto) (Mx G1 : Hp) (v : V), f x z = some (y, z') → (∀ a o, a ≠ s → M1 a = some o → Mx a = some o) → Mx s = some (sto z) → Same G G1 → Dq K G1 v (ea x) → Tg g v (wipe σ vs) G1 fun σ2 => wipe σ2 vs = wipe σ vs ∧ Ev te σ2 G1 Mx (upd Mx s (sto z')) (DD K (eb y))) :
    EvL K (tLc wi g tYes te vs) σ G M (upd M1 s (sto r.2)) (r.1.map eb) := by
  obtain ⟨_, h1, h2⟩ := bs hf
  obtain ⟨hl, zs, e0, en, hi⟩ := mapS_get h2
  subst e0
  rw [← en, ← List.length_map (as := xs) (f := ea)]
  refine el_lcD src (r.1.map eb) h0 (by rw [List.length_map, List.length_map, hl]) (by rw [List.length_map]; exact szl (grd_of h1)) fun i d e Mx G1 v hd he sM hMs sG hv => ?_
  rw [List.getElem?_map] at hd he
  cases e1 : xs[i]? with
  | none => rw [e1] at hd; cases hd
  | some x =>
    cases e2 : r.1[i]? with
    | none => rw [e2] at he; cases he
    | some y =>
      rw [e1] at hd; rw [e2] at he
      cases hd; cases he
      exact hs x y _ _ Mx G1 v (hi i x y e1 e2) sM hMs sG hv
/-! ### a for by its mirror -/
variable {D : Ends} {H : Hp} {u : TS}
theorem drop_cons {α : Type} {xs : List α} {i : Nat} {x : α} (h : xs[i]? = some x) : xs.drop i = x :: xs.drop (i + 1) := by
  obtain ⟨h1, h2⟩ := List.getElem?_eq_some_iff.mp h
  rw [List.drop_eq_getElem_cons h1, h2]
theorem q_forO [Tb] {S α : Type} {ea : α → Dat} {f : S → α → Option S} {xs : List α} {st fin : S} {wi : TI} {g : TG} {tb : TS} (src : Src K wi σ G M M1 (xs.map ea)) (ok : Ok G M H) (J : S → St → Hp → Hp → Prop) (hf : forO f xs st = some fin)
    (h0 : ∀ G', Same G G' → J st σ G' M1) (hJ : ∀ s σ1 G1 G2 M2, J s σ1 G1 M2 → Same G1 G2 → J s σ1 G2 M2)
    (hs : ∀ x v s s' σ1 G1 M2 H1 (N : St → Hp → Prop), f s x = some s' → J s σ1 G1 M2 → Same G G1 → Ok G1 M2 H1 → Dq K G1 v (ea x) → (∀ σ2 G2 M3 H2, Same G1 G2 → Ok G2 M3 H2 → J s' σ2 G2 M3 → N σ2 H2) → g v σ1 H1 fun σ2 H2 => tb { D with nx := N, ct := N, bk := u D } σ2 H2)
    (hd : ∀ σ1 G1 M2 H1, Same G G1 → Ok G1 M2 H1 → J fin σ1 G1 M2 → u D σ1 H1) : tSeq (tFor wi g tb) u D σ H := by
  refine q_for src ok (fun i σ1 G1 M2 => ∃ s, J s σ1 G1 M2 ∧ forO f (xs.drop i) s = some fin) (fun G' s' => ⟨st, h0 G' s', hf⟩) ?_ (fun i σ1 G1 G2 M2 ⟨s, j, e⟩ s2 => ⟨s, hJ s σ1 G1 G2 M2 j s2, e⟩) ?_
  · rintro i d v σ1 G1 M2 H1 N hd ⟨s, j, e⟩ s1 k1 hv hN
    rw [List.getElem?_map] at hd
    cases ex : xs[i]? with
    | none => rw [ex] at hd; cases hd
    | some x =>
      rw [ex] at hd
      cases hd
      rw [drop_cons ex] at e
      obtain ⟨s', e1, e2⟩ := bs e
      exact hs x v s s' σ1 G1 M2 H1 N e1 j s1 k1 hv fun σ2 G2 M3 H2 s2 k2 j2 => hN σ2 G2 M3 H2 s2 k2 ⟨s', j2, e2⟩
  · rintro σ1 G1 M2 H1 s1 k1 ⟨s, j, e⟩
    rw [List.length_map, List.drop_length] at e
    cases e
    exact hd σ1 G1 M2 H1 s1 k1 j
theorem q_forR [Tb] {S R α : Type} {ea : α → Dat} {f : S → α → Option (S ⊕ R)} {xs : List α} {st : S} {fin : S ⊕ R} {wi : TI} {g : TG} {tb : TS} (src : Src K wi σ G M M1 (xs.map ea)) (ok : Ok G M H) (J : S → St → Hp → Hp → Prop) (hf : forR f xs st = some fin)
    (h0 : ∀ G', Same G G' → J st σ G' M1) (hJ : ∀ s σ1 G1 G2 M2, J s σ1 G1 M2 → Same G1 G2 → J s σ1 G2 M2)
    (hs : ∀ x v s s' σ1 G1 M2 H1 (N : St → Hp → Prop), f s x = some s' → (∀ r, s' = .inr r → fin = .inr r) → J s σ1 G1 M2 → Same G G1 → Ok G1 M2 H1 → Dq K G1 v (ea x) → (∀ s2 σ2 G2 M3 H2, s' = .inl s2 → Same G1 G2 → Ok G2 M3 H2 → J s2 σ2 G2 M3 → N σ2 H2) → g v σ1 H1 fun σ2 H2 => tb { D with nx := N, ct := N, bk := u D } σ2 H2)
    (hd : ∀ s σ1 G1 M2 H1, fin = .inl s → Same G G1 → Ok G1 M2 H1 → J s σ1 G1 M2 → u D σ1 H1) : tSeq (tFor wi g tb) u D σ H := by
  refine q_for src ok (fun i σ1 G1 M2 => ∃ s, J s σ1 G1 M2 ∧ forR f (xs.drop i) s = some fin) (fun G' s' => ⟨st, h0 G' s', hf⟩) ?_ (fun i σ1 G1 G2 M2 ⟨s, j, e⟩ s2 => ⟨s, hJ s σ1 G1 G2 M2 j s2, e⟩) ?_
  · rintro i d v σ1 G1 M2 H1 N hd ⟨s, j, e⟩ s1 k1 hv hN
    rw [List.getElem?_map] at hd
    cases ex : xs[i]? with
    | none => rw [ex] at hd; cases hd
    | some x =>
      rw [ex] at hd
      cases hd
      rw [drop_cons ex] at e
      obtain ⟨s', e1, e2⟩ := bs e
      refine hs x v s s' σ1 G1 M2 H1 N e1 (fun r er => ?_) j s1 k1 hv fun s2 σ2 G2 M3 H2 es s2' k2 j2 => ?_
      · subst er
        exact (Option.some.inj e2).symm
      · subst es
        exact hN σ2 G2 M3 H2 s2' k2 ⟨s2, j2, e2⟩
  · rintro σ1 G1 M2 H1 s1 k1 ⟨s, j, e⟩
    rw [List.length_map, List.drop_length] at e
    exact hd s σ1 G1 M2 H1 (Option.some.inj e).symm s1 k1 j
/-! ### a def's end -/
theorem same_fin {M0 M : Hp} {s : Addr} {o : HO} (hB : ∀ a u, a ≠ s → M0 a = some u → M a = some u) (hs : M s = some o) : Same (upd M0 s o) M := fun a u e => by
  by_cases ha : a = s
  · subst ha; rw [upd_same] at e; rw [hs]; exact e
  · rw [upd_ne ha] at e; exact hB a u ha e
theorem Ok.giveL [Tb] {G M M0 H : Hp} {p : Addr} {o : HO} (k : Ok G M H) (hp : M p = some o) (h0 : M0 p = none) (hB : Same M0 M) : Ok (upd G p o) M0 H := by
  refine ⟨fun a u e => ?_, fun a u e => k.m a u (hB a u e), fun a u e => ?_, fun a u e => k.mu a u (hB a u e), tb_G k.tb (k.mu p o hp).nt.noTbl⟩
  · by_cases ha : a = p
    · subst ha; rw [upd_same] at e; exact k.m a u (hp.trans e)
    · rw [upd_ne ha] at e; exact k.g a u e
  · rw [upd_ne (ne_of_none e h0)]
    exact k.d a u (hB a u e)
end
end Kx
end
section
set_option maxHeartbeats 2000000
namespace Kx
open PySem L2
section
variable {K : PySem.W.Frag} {σ σ' : St} {G G' M M1 M2 M3 : Hp} {ta tb te tc : TE} {P P1 P2 : VP} {d e : Dat} {ds es : List Dat} {D : Ends} {H : Hp} {u : TS}
theorem nrm {F : St → Hp → Prop} (e : σ = σ') (h : F σ' H) : F σ H := e ▸ h
theorem gn {i : Nat} {v : V} {Q : St → Hp → Prop} (h : Q (σ.set i (some v)) H) : gName i v σ H Q := h
theorem gNil_eq {Q : St → Hp → Prop} : (fun σ' H' => gNil [] σ' H' Q) = Q := by
  funext σ' H'
  exact propext ⟨fun h => h.2, fun h => ⟨rfl, h⟩⟩
theorem gOne_eq {g : TG} {v : V} {Q : St → Hp → Prop} : (fun σ' H' => gCons g gNil [v] σ' H' Q) = fun σ' H' => g v σ' H' Q := by
  funext σ' H'
  refine propext ⟨fun ⟨w, r, e, z⟩ => ?_, fun z => ⟨v, [], rfl, ?_⟩⟩
  · cases e
    rw [gNil_eq] at z
    exact z
  · rw [gNil_eq]
    exact z
theorem gTwo_eq {g h : TG} {v w : V} {Q : St → Hp → Prop} : (fun σ' H' => gCons g (gCons h gNil) [v, w] σ' H' Q) = fun σ' H' => g v σ' H' fun σ1 H1 => h w σ1 H1 Q := by
  funext σ' H'
  refine propext ⟨fun ⟨x, r, e, z⟩ => ?_, fun z => ⟨v, [w], rfl, ?_⟩⟩
  · cases e
    rw [gOne_eq] at z
    exact z
  · rw [gOne_eq]
    exact z
theorem gt2 {g1 g2 : TG} {v : V} {Q : St → Hp → Prop} {d1 d2 : Dat} (hv : Dq K G v (.tuple [d1, d2])) (s : Same G H) (h : ∀ v1 v2, Dq K G v1 d1 → Dq K G v2 d2 → g1 v1 σ H fun σ1 H1 => g2 v2 σ1 H1 Q) : gTup K 2 (gCons g1 (gCons g2 gNil)) v σ H Q := by
  obtain ⟨a, vs, rfl, h1, h2⟩ := dp_tuple hv
  cases h2 with
  | cons a1 b1 =>
    cases b1 with
    | cons a2 b2 =>
      cases b2
      refine ⟨a, _, rfl, sqT_up s h1, rfl, _, _, rfl, ?_⟩
      rw [gOne_eq]
      exact h _ _ a1 a2
theorem gr2 {g1 g2 : TG} {v : V} {Q : St → Hp → Prop} {d1 d2 : Dat} (hv : Dq K G v (.rtup [d1, d2])) (s : Same G H) (h : ∀ v1 v2, Dq K G v1 d1 → Dq K G v2 d2 → g1 v1 σ H fun σ1 H1 => g2 v2 σ1 H1 Q) : gTup K 2 (gCons g1 (gCons g2 gNil)) v σ H Q := by
  obtain ⟨a, vs, rfl, h1, h2⟩ := dp_rtup hv
  cases h2 with
  | cons a1 b1 =>
    cases b1 with
    | cons a2 b2 =>
      cases b2
      refine ⟨a, _, rfl, (.inl (.inl (s _ _ h1))), rfl, _, _, rfl, ?_⟩
      rw [gOne_eq]
      exact h _ _ a1 a2
theorem gt3 {g1 g2 g3 : TG} {v : V} {Q : St → Hp → Prop} {d1 d2 d3 : Dat} (hv : Dq K G v (.tuple [d1, d2, d3])) (s : Same G H) (h : ∀ v1 v2 v3, Dq K G v1 d1 → Dq K G v2 d2 → Dq K G v3 d3 → g1 v1 σ H fun σ1 H1 => g2 v2 σ1 H1 fun σ2 H2 => g3 v3 σ2 H2 Q) : gTup K 3 (gCons g1 (gCons g2 (gCons g3 gNil))) v σ H Q := by
  obtain ⟨a, vs, rfl, h1, h2⟩ := dp_tuple hv
  cases h2 with
  | cons a1 b1 =>
    cases b1 with
    | cons a2 b2 =>
      cases b2 with
      | cons a3 b3 =>
        cases b3
        refine ⟨a, _, rfl, sqT_up s h1, rfl, _, _, rfl, ?_⟩
        rw [gTwo_eq]
        exact h _ _ _ a1 a2 a3
/-- x = e with any target: the target's own reading is left -/
theorem q_asgG [Tb] {g : TG} (he : Ev te σ G M M1 P) (ok : Ok G M H) (k : ∀ v G' H', Same G G' → Ok G' M1 H' → P v G' → g v σ H' (u D)) : tSeq (tAsg te g) u D σ H :=
  he G H (Same.refl _) ok _ k
/-- a store into a list of one's own, as a target -/
theorem gs_list [Tb] {p : Addr} {vs : List V} {i : Int} {j : Nat} {v : V} {Q : St → Hp → Prop} (ho : Ev ta σ G M M (OW p)) (hi : Ev tb σ G M M1 (DD K (.int i))) (hp : M1 p = some (.lst vs)) (hj : ixN vs.length i = some j) (ok : Ok G M H)
    (k : ∀ G' H', Same G G' → Ok G' (upd M1 p (.lst (vs.set j v))) H' → Q σ H') : gSub ta tb rSetL v σ H Q :=
  ho G H (Same.refl _) ok _ fun x G2 H2 s2 k2 hx => hi G2 H2 s2 k2 _ fun y G3 H3 s3 k3 hy => by
    cases hx; cases hy
    exact ⟨p, vs, i, j, rfl, rfl, k3.m _ _ hp, hj, k G3 _ (s2.trans s3) (k3.chg _ hp)⟩
end
end Kx
end
section
set_option maxHeartbeats 2000000
namespace Kx
open PySem L2
def catO {α : Type} (xs ys : List α) : Option (List α) := (grd (xs.length + ys.length ≤ 16777216)).bind fun _ => some (xs ++ ys)
theorem catO_of {α : Type} {xs ys r : List α} (h : catO xs ys = some r) : xs.length + ys.length ≤ 16777216 ∧ r = xs ++ ys := by
  obtain ⟨_, h1, h2⟩ := bs h
  exact ⟨grd_of h1, (Option.some.inj h2).symm⟩
def appO {α : Type} (xs : List α) (x : α) : Option (List α) := (grd (xs.length < 16777216)).bind fun _ => some (xs ++ [x])
theorem appO_of {α : Type} {xs r : List α} {x : α} (h : appO xs x = some r) : xs.length < 16777216 ∧ r = xs ++ [x] := by
  obtain ⟨_, h1, h2⟩ := bs h
  exact ⟨grd_of h1, (Option.some.inj h2).symm⟩
def rngO (n : Int) : Option (List Int) := (grd (-(2 ^ 62) ≤ n ∧ n < 2 ^ 62)).bind fun _ => some (irange 0 n)
def popO {α : Type} (xs : List α) (i : Int) : Option (α × List α) := (grd (-(2 ^ 63) ≤ i ∧ i < 2 ^ 63)).bind fun _ => (seqIndex? i xs.length).bind fun k => (xs[k]?).bind fun x => some (x, xs.eraseIdx k)
def dmO (i j : Int) : Option (Int × Int) := (grd (CDivW i j)).bind fun _ => some (i / j, i % j)
theorem dmO_of {i j : Int} {r : Int × Int} (h : dmO i j = some r) : CDivW i j ∧ r = (i / j, i % j) := by
  obtain ⟨_, h1, h2⟩ := bs h
  exact ⟨grd_of h1, (Option.some.inj h2).symm⟩
def orR {S R T : Type} (x : S ⊕ R) (f : S → Option T) (g : R → Option T) : Option T := match x with
  | .inl s => f s
  | .inr r => g r
/-! ### encodings that == reads -/
structure EqE {α : Type} [DecidableEq α] (e : α → Dat) (n : Nat) : Prop where
  pur : ∀ x, pur (e x) = true
  dep : ∀ x, (toPy (e x)).depth ≤ n
  eqv : ∀ x y, PyData.eqv (toPy (e x)) (toPy (e y)) = decide (x = y)
theorem beq_dec {α : Type} [DecidableEq α] [BEq α] [LawfulBEq α] (x y : α) : (x == y) = decide (x = y) := by
  by_cases h : x = y <;> simp [h]
theorem eqe_int : EqE Dat.int 0 := ⟨fun _ => by unfold Kx.pur; rfl, fun _ => by unfold toPy PyData.depth; exact Nat.le_refl _, fun x y => by unfold toPy PyData.eqv; exact beq_dec x y⟩
theorem eqe_bool : EqE Dat.bool 0 := ⟨fun _ => by unfold Kx.pur; rfl, fun _ => by unfold toPy PyData.depth; exact Nat.le_refl _, fun x y => by unfold toPy PyData.eqv; exact beq_dec x y⟩
theorem eqe_str : EqE Dat.str 0 := ⟨fun _ => by unfold Kx.pur; rfl, fun _ => by unfold toPy PyData.depth; exact Nat.le_refl _, fun x y => by unfold toPy PyData.eqv; exact beq_dec x y⟩
theorem toPys_map : ∀ ds : List Dat, toPys ds = ds.map toPy
  | [] => by unfold toPys; rfl
  | d :: ds => by unfold toPys; rw [toPys_map ds]; rfl
theorem purs_all : ∀ {ds : List Dat}, (∀ d ∈ ds, pur d = true) → purs ds = true
  | [], _ => by unfold purs; rfl
  | d :: ds, h => by
    unfold purs
    rw [h d List.mem_cons_self, purs_all fun x hx => h x (List.mem_cons_of_mem _ hx)]
    rfl
theorem toPy_tuple {ds : List Dat} : toPy (.tuple ds) = .tuple (ds.map toPy) := by unfold toPy; rw [toPys_map]
theorem pur_tuple {ds : List Dat} (h : ∀ d ∈ ds, pur d = true) : pur (.tuple ds) = true := by unfold pur; exact purs_all h
section
variable {α β γ : Type} [DecidableEq α] [DecidableEq β] [DecidableEq γ] {e : α → Dat} {e2 : β → Dat} {e3 : γ → Dat} {n n2 n3 : Nat}
theorem depAll (h : ∀ x, (toPy (e x)).depth ≤ n) : ∀ xs : List α, PyData.depthAll ((xs.map e).map toPy) ≤ n
  | [] => Nat.zero_le _
  | x :: xs => by
    have h1 := h x
    have h2 := depAll h xs
    rw [List.map_cons, List.map_cons]
    unfold PyData.depthAll
    omega
theorem eqvAll_map (h : ∀ x y, PyData.eqv (toPy (e x)) (toPy (e y)) = decide (x = y)) : ∀ xs ys : List α, PyData.eqvAll ((xs.map e).map toPy) ((ys.map e).map toPy) = decide (xs = ys)
  | [], [] => by simp [PyData.eqvAll]
  | [], _ :: _ => by simp [PyData.eqvAll]
  | _ :: _, [] => by simp [PyData.eqvAll]
  | x :: xs, y :: ys => by
    rw [List.map_cons, List.map_cons, List.map_cons, List.map_cons]
    unfold PyData.eqvAll
    rw [h x y, eqvAll_map h xs ys]
    by_cases h1 : x = y <;> by_cases h2 : xs = ys <;> simp [h1, h2]
theorem purMap (h : EqE e n) (xs : List α) : ∀ d ∈ xs.map e, pur d = true := fun d hd => by
  obtain ⟨x, _, rfl⟩ := List.mem_map.mp hd
  exact h.pur x
theorem eqe_T (h : EqE e n) : EqE (eT e) (n + 1) := ⟨fun xs => pur_tuple (purMap h xs), fun xs => by rw [toPy_tuple]; unfold PyData.depth; exact Nat.succ_le_succ (depAll h.dep xs), fun xs ys => by rw [toPy_tuple, toPy_tuple]; unfold PyData.eqv; exact eqvAll_map h.eqv xs ys⟩
theorem eqe_P2 (h : EqE e n) (h2 : EqE e2 n2) : EqE (eP2 e e2) (n + n2 + 1) := by
  refine ⟨fun p => pur_tuple fun d hd => ?_, fun p => ?_, fun p q => ?_⟩
  · rcases List.mem_cons.mp hd with h1 | hd
    · rw [h1]; exact h.pur _
    · have : d = e2 p.2 := by simpa using hd
      rw [this]; exact h2.pur _
  · have a := h.dep p.1
    have b := h2.dep p.2
    rw [toPy_tuple]
    simp only [List.map_cons, List.map_nil, PyData.depth, PyData.depthAll]
    omega
  · obtain ⟨p1, p2⟩ := p
    obtain ⟨q1, q2⟩ := q
    rw [toPy_tuple, toPy_tuple]
    simp only [List.map_cons, List.map_nil, PyData.eqv, PyData.eqvAll, h.eqv, h2.eqv, Bool.and_true]
    by_cases a : p1 = q1 <;> by_cases b : p2 = q2 <;> simp [a, b]
theorem eqe_P3 (h : EqE e n) (h2 : EqE e2 n2) (h3 : EqE e3 n3) : EqE (eP3 e e2 e3) (n + n2 + n3 + 1) := by
  refine ⟨fun p => pur_tuple fun d hd => ?_, fun p => ?_, fun p q => ?_⟩
  · have : d = e p.1 ∨ d = e2 p.2.1 ∨ d = e3 p.2.2 := by simpa using hd
    rcases this with z | z | z
    · rw [z]; exact h.pur _
    · rw [z]; exact h2.pur _
    · rw [z]; exact h3.pur _
  · have a := h.dep p.1
    have b := h2.dep p.2.1
    have c := h3.dep p.2.2
    rw [toPy_tuple]
    simp only [List.map_cons, List.map_nil, PyData.depth, PyData.depthAll]
    omega
  · obtain ⟨p1, p2, p3⟩ := p
    obtain ⟨q1, q2, q3⟩ := q
    rw [toPy_tuple, toPy_tuple]
    simp only [List.map_cons, List.map_nil, PyData.eqv, PyData.eqvAll, h.eqv, h2.eqv, h3.eqv, Bool.and_true]
    by_cases a : p1 = q1 <;> by_cases b : p2 = q2 <;> by_cases c : p3 = q3 <;> simp [a, b, c]
end
section
variable {α β γ : Type} [DecidableEq α] {e : α → Dat} {n : Nat} {K : PySem.W.Frag} {σ : St} {G G' M M1 M2 M3 : Hp} {ta tb te tc : TE} {ds es : List Dat}
theorem ev_eqE [Tb] {x y : α} (h : EqE e n) (hn : n ≤ 63) (ha : Ev ta σ G M M1 (DD K (e x))) (hb : Ev tb σ G M1 M2 (DD K (e y))) : Ev (tOp (rEqD K) ta tb) σ G M M2 (DD K (.bool (decide (x = y)))) := by
  have := ev_eqD (h.pur x) (h.pur y) (Nat.le_trans (h.dep x) (by omega)) (Nat.le_trans (h.dep y) (by omega)) ha hb
  rw [h.eqv] at this
  exact this
theorem ev_neE [Tb] {x y : α} (h : EqE e n) (hn : n ≤ 63) (ha : Ev ta σ G M M1 (DD K (e x))) (hb : Ev tb σ G M1 M2 (DD K (e y))) : Ev (tOp (rNeD K) ta tb) σ G M M2 (DD K (.bool (!decide (x = y)))) := by
  have := ev_neD (h.pur x) (h.pur y) (Nat.le_trans (h.dep x) (by omega)) (Nat.le_trans (h.dep y) (by omega)) ha hb
  rw [h.eqv] at this
  exact this
def memB {α : Type} [DecidableEq α] (x : α) (xs : List α) : Bool := decide (x ∈ xs)
theorem el_catO [Tb] {xs ys zs : List β} {e : β → Dat} (h : catO xs ys = some zs) (ha : Ev ta σ G M M1 (DD K (.list (xs.map e)))) (hb : Ev tb σ G M1 M2 (DD K (.list (ys.map e)))) : EvL K (tOp rCat ta tb) σ G M M2 (zs.map e) := by
  obtain ⟨h1, rfl⟩ := catO_of h
  rw [List.map_append]
  exact el_cat (by rw [List.length_map, List.length_map]; exact szl h1) ha hb
theorem ev_catTO [Tb] {xs ys zs : List β} {e : β → Dat} (h : catO xs ys = some zs) (ha : Ev ta σ G M M1 (DD K (.tuple (xs.map e)))) (hb : Ev tb σ G M1 M2 (DD K (.tuple (ys.map e)))) : Ev (tOp (rCatF K) ta tb) σ G M M2 (DD K (.tuple (zs.map e))) := by
  obtain ⟨h1, rfl⟩ := catO_of h
  rw [List.map_append]
  exact ev_catT (by rw [List.length_map, List.length_map]; exact szl h1) ha hb
theorem src_rngO [Tb] {ta : TA} {k : Int} {xs : List Int} (h : rngO k = some xs) (ha : EvA ta σ G M M1 (conP (DD K (.int k)) nilP)) : Src K (iRng1 ta) σ G M M1 (xs.map Dat.int) := by
  obtain ⟨_, h1, h2⟩ := bs h
  cases h2
  exact src_range1 (grd_of h1).1 (grd_of h1).2 ha
theorem ev_slTM [Tb] {xs : List β} {e : β → Dat} {tl th : TO} {lo hi : Option Int} (h : Ev te σ G M M (DD K (.tuple (xs.map e)))) (h1 : EvO tl σ G M M lo) (h2 : EvO th σ G M M hi) : Ev (tSl (rSlF K) te tl th) σ G M M (DD K (.tuple ((cut xs lo hi).map e))) := cut_map ▸ ev_slT h h1 h2
theorem ev_mulO [Tb] {i j r : Int} (hc : mulO i j = some r) (ha : Ev ta σ G M M1 (DD K (.int i))) (hb : Ev tb σ G M1 M2 (DD K (.int j))) : Ev (tOp (rI CMulO fun i j => .int (i * j)) ta tb) σ G M M2 (DD K (.int r)) := by
  obtain ⟨h, rfl⟩ := mulO_of hc
  exact ev_op mo_dd ha hb (rv_I (f := fun i j => .int (i * j)) (fun i j _ => .int _) h)
theorem ev_fdivO [Tb] {i j r : Int} (hc : fdivO i j = some r) (ha : Ev ta σ G M M1 (DD K (.int i))) (hb : Ev tb σ G M1 M2 (DD K (.int j))) : Ev (tOp (rI CDivO fun i j => .int (i.fdiv j)) ta tb) σ G M M2 (DD K (.int r)) := by
  obtain ⟨h, rfl⟩ := fdivO_of hc
  exact ev_op mo_dd ha hb (rv_I (f := fun i j => .int (i.fdiv j)) (fun i j _ => .int _) h)
theorem ev_modO [Tb] {i j r : Int} (hc : modO i j = some r) (ha : Ev ta σ G M M1 (DD K (.int i))) (hb : Ev tb σ G M1 M2 (DD K (.int j))) : Ev (tOp (rI (fun _ j => j ≠ 0) fun i j => .int (i.fmod j)) ta tb) σ G M M2 (DD K (.int r)) := by
  obtain ⟨h, rfl⟩ := modO_of hc
  exact ev_mod h ha hb
theorem ev_powO [Tb] {i j r : Int} (hc : powO i j = some r) (ha : Ev ta σ G M M1 (DD K (.int i))) (hb : Ev tb σ G M1 M2 (DD K (.int j))) : Ev (tOp (rI CPow fun i j => .int (i ^ j.toNat)) ta tb) σ G M M2 (DD K (.int r)) := by
  obtain ⟨h, rfl⟩ := powO_of hc
  exact ev_pow h ha hb
theorem ev_dmO [Tb] {i j : Int} {r : Int × Int} (hc : dmO i j = some r) (ha : EvA (tCons ta (tCons tb tNil)) σ G M M1 (conP (DD K (.int i)) (conP (DD K (.int j)) nilP))) : Ev (tCB rDivmod (tCons ta (tCons tb tNil))) σ G M M1 (DD K (eR2 Dat.int Dat.int r)) := by
  obtain ⟨h, rfl⟩ := dmO_of hc
  exact ev_divmod h ha
theorem ev_ixLM [Tb] {xs : List β} {e : β → Dat} {i : Int} {x : β} (hi : atI xs i = some x) (ha : Ev ta σ G M M1 (DD K (.list (xs.map e)))) (hb : Ev tb σ G M1 M2 (DD K (.int i))) : Ev (tOp (rIxL K) ta tb) σ G M M2 (DD K (e x)) := ev_ixL (atI_map hi) ha hb
theorem ev_ixTM [Tb] {xs : List β} {e : β → Dat} {i : Int} {x : β} (hi : atI xs i = some x) (ha : Ev ta σ G M M1 (DD K (.tuple (xs.map e)))) (hb : Ev tb σ G M1 M2 (DD K (.int i))) : Ev (tOp (rIxT K) ta tb) σ G M M2 (DD K (e x)) := ev_ixT (atI_map hi) ha hb
theorem ev_ixOM [Tb] {xs : List β} {e : β → Dat} {i : Int} {x : β} {p : Addr} {vs : List V} (hi : atI xs i = some x) (hp : M2 p = some (.lst vs)) (hv : DqAll K G vs (xs.map e)) (ha : Ev ta σ G M M1 (OW p)) (hb : Ev tb σ G M1 M2 (DD K (.int i))) : Ev (tOp (rIxL K) ta tb) σ G M M2 (DD K (e x)) := ev_ixO ha hb hp hv (atI_map hi)
/-- an owned list read as a whole: it is lent -/
theorem ev_lenLM [Tb] {xs : List β} {e : β → Dat} (ha : EvA (tCons ta tNil) σ G M M1 (conP (DD K (.list (xs.map e))) nilP)) : Ev (tCB (rLen K) (tCons ta tNil)) σ G M M1 (DD K (.int (xs.length : Int))) := ev_is (ev_lenL ha) (by rw [List.length_map])
theorem ev_lenTM [Tb] {xs : List β} {e : β → Dat} (ha : EvA (tCons ta tNil) σ G M M1 (conP (DD K (.tuple (xs.map e))) nilP)) : Ev (tCB (rLen K) (tCons ta tNil)) σ G M M1 (DD K (.int (xs.length : Int))) := ev_is (ev_lenT ha) (by rw [List.length_map])
theorem ev_lenOM [Tb] {xs : List β} {e : β → Dat} {p : Addr} {vs : List V} (hp : M1 p = some (.lst vs)) (hd : DqAll K G vs (xs.map e)) (ha : EvA (tCons ta tNil) σ G M M1 (conP (OW p) nilP)) : Ev (tCB (rLen K) (tCons ta tNil)) σ G M M1 (DD K (.int (xs.length : Int))) := ev_is (ev_lenO hp hd ha) (by rw [List.length_map])
end
/-! ### the part that may be changed, kept -/
theorem up_ne {M : Hp} {p q : Addr} {o u : HO} (n : q ≠ p) (h : M q = some o) : (upd M p u) q = some o := (upd_ne n).trans h
theorem hB_draw {M0 M : Hp} {s : Addr} {o : HO} (hB : ∀ a u, a ≠ s → M0 a = some u → M a = some u) : ∀ a u, a ≠ s → M0 a = some u → (upd M s o) a = some u := fun a u h1 h2 => (upd_ne h1).trans (hB a u h1 h2)
theorem hB_own {M0 M : Hp} {s p : Addr} {o : HO} (hB : ∀ a u, a ≠ s → M0 a = some u → M a = some u) (h0 : M0 p = none) : ∀ a u, a ≠ s → M0 a = some u → (upd M p o) a = some u := fun a u h1 h2 => (upd_ne (ne_of_none h2 h0)).trans (hB a u h1 h2)
theorem sB_own {M0 M : Hp} {p : Addr} {o : HO} (hB : Same M0 M) (h0 : M0 p = none) : Same M0 (upd M p o) := fun a u h2 => (upd_ne (ne_of_none h2 h0)).trans (hB a u h2)
theorem hB_none {M0 M : Hp} {s p : Addr} {o : HO} (hB : ∀ a u, a ≠ s → M0 a = some u → M a = some u) (hs : M s = some o) (h : M p = none) : M0 p = none := by
  cases e : M0 p with
  | none => rfl
  | some u =>
    have n : p ≠ s := fun z => by rw [z, hs] at h; cases h
    rw [hB p u n e] at h
    cases h
theorem sB_none {M0 M : Hp} {p : Addr} (hB : Same M0 M) (h : M p = none) : M0 p = none := hB.free h
end Kx
end
section
set_option maxHeartbeats 2000000
namespace Kx
open PySem L2
section
variable {K : PySem.W.Frag} {σ σ' : St} {G G' M M1 M2 M3 : Hp} {ta tb te tc : TE} {P P1 P2 : VP} {d e : Dat} {ds es : List Dat} {D : Ends} {H : Hp} {u : TS}
/-! ### a, b = e1, e2 -/
/-- data and a new list of one's own -/
theorem q_parDL [Tb] {i j : Nat} {σ' : V → V → St} (ha : Ev ta σ G M M1 P1) (m : Mo P1) (hb : EvL K tb σ G M1 M2 ds) (ok : Ok G M H) (hσ : ∀ v w, (σ.set i (some v)).set j (some w) = σ' v w)
    (k : ∀ v p vs G' H', Same G G' → Ok G' (upd M2 p (.lst vs)) H' → M2 p = none → P1 v G' → DqAll K G' vs ds → u D (σ' v (.ref p)) H') : tSeq (tPar i j (tCons ta (tCons tb tNil))) u D σ H :=
  ha G H (Same.refl _) ok _ fun v G1 H1 s1 k1 hv => hb G1 H1 s1 k1 _ fun p vs G2 H2 s2 k2 hp hd => ⟨v, .ref p, rfl, by
    show u D ((σ.set i (some v)).set j (some (.ref p))) H2
    rw [hσ]
    exact k v p vs G2 H2 (s1.trans s2) k2 hp (m _ _ _ s2 hv) hd⟩
/-! the same where a tuple is made on the way -/
theorem tup_go [Tb] {i j : Nat} {v w : V} (k : Ok G M H) (h : ∀ G' H', Same G G' → Ok G' M H' → u D ((σ.set i (some v)).set j (some w)) H') (t : V) : [v, w].length ≤ sizeLine ∧ ∀ p, H p = none → gTup K 2 (gCons (gName i) (gCons (gName j) gNil)) (.ref p) σ (upd H p (.tup [v, w])) (u D) := by
  refine ⟨by show 2 ≤ sizeLine; decide, fun p hp => ?_⟩
  have sp : Same G (upd G p (.tup [v, w])) := Same.new (Same.none k.g hp)
  exact ⟨p, [v, w], rfl, .inl (.inl upd_same), rfl, v, [w], rfl, w, [], rfl, rfl, h _ _ sp (k.newG _ hp)⟩
theorem q_tupDD [Tb] {i j : Nat} {σ' : V → V → St} (ha : Ev ta σ G M M1 P1) (m1 : Mo P1) (hb : Ev tb σ G M1 M2 P2) (m2 : Mo P2) (ok : Ok G M H) (hσ : ∀ v w, (σ.set i (some v)).set j (some w) = σ' v w)
    (k : ∀ v w G' H', Same G G' → Ok G' M2 H' → P1 v G' → P2 w G' → u D (σ' v w) H') : tSeq (tAsg (tTup (tCons ta (tCons tb tNil))) (gTup K 2 (gCons (gName i) (gCons (gName j) gNil)))) u D σ H :=
  ha G H (Same.refl _) ok _ fun v G1 H1 s1 k1 hv => hb G1 H1 s1 k1 _ fun w G2 H2 s2 k2 hw => tup_go (K := K) k2 (fun G3 H3 s3 k3 => by
    rw [hσ]
    exact k v w G3 H3 ((s1.trans s2).trans s3) k3 (m1 _ _ _ (s2.trans s3) hv) (m2 _ _ _ s3 hw)) v
theorem q_nilU (h : u D σ H) : tNext { D with nx := u D } σ H := h
theorem orR_l {S R T : Type} {s : S} {f : S → Option T} {g : R → Option T} {r : Option T} (h : orR (.inl s) f g = r) : f s = r := h
/-- a filtered comprehension -/
def mapF {α β : Type} (f : α → Option (Option β)) : List α → Option (List β)
  | [] => some []
  | x :: xs => (f x).bind fun o => (mapF f xs).bind fun ys => some (o.toList ++ ys)
def lcF {α β : Type} (f : α → Option (Option β)) (xs : List α) : Option (List β) := (grd (xs.length ≤ 16777216)).bind fun _ => mapF f xs
theorem mapF_get {α β : Type} {f : α → Option (Option β)} : ∀ {xs : List α} {ys : List β}, mapF f xs = some ys → ∃ os : List (Option β), os.length = xs.length ∧ os.filterMap id = ys ∧ ∀ (i : Nat) (x : α) (o : Option β), xs[i]? = some x → os[i]? = some o → f x = some o
  | [], ys, h => by cases h; exact ⟨[], rfl, rfl, fun i x o h => by simp at h⟩
  | a :: xs, ys, h => by
    obtain ⟨o, ho, h⟩ := bs h
    obtain ⟨zs, hz, h⟩ := bs h
    cases h
    obtain ⟨os, h1, h2, h3⟩ := mapF_get hz
    refine ⟨o :: os, congrArg (· + 1) h1, ?_, fun i x o' hx ho' => ?_⟩
    · rw [← h2]
      cases o <;> rfl
    · cases i with
      | zero => simp at hx ho'; subst hx; subst ho'; exact ho
      | succ i => exact h3 i x o' (by simpa using hx) (by simpa using ho')
theorem el_lcMF [Tb] {α β : Type} {ea : α → Dat} {eb : β → Dat} {f : α → Option (Option β)} {xs : List α} {ys : List β} {wi : TI} {g : TG} {tt : TT} {vs : List Nat} (src : Src K wi σ G M M1 (xs.map ea)) (hf : lcF f xs = some ys)
    (hs : ∀ (x : α) (o : Option β) (Mx G1 : Hp) (v : V), f x = some o → Same M1 Mx → Same G G1 → Dq K G1 v (ea x) → Tg g v (wipe σ vs) G1 fun σ2 => wipe σ2 vs = wipe σ vs ∧ LcB K tt te σ2 G1 Mx Mx (o.map eb)) :
    EvL K (tLc wi g tt te vs) σ G M M1 (ys.map eb) := by
  obtain ⟨_, h1, h2⟩ := bs hf
  obtain ⟨os, hl, rfl, hi⟩ := mapF_get h2
  have := el_lcG (tt := tt) (te := te) (g := g) (vs := vs) (M2 := M1) src (os.map fun o => o.map eb) (fun _ => M1) rfl rfl (fun _ _ => rfl) (by rw [List.length_map, List.length_map, hl]) (by rw [List.length_map]; exact szl (grd_of h1)) fun i d o D acc G1 v hd ho hD s hv => by
    rw [List.getElem?_map] at hd ho
    cases e1 : xs[i]? with
    | none => rw [e1] at hd; cases hd
    | some x =>
      cases e2 : os[i]? with
      | none => rw [e2] at ho; cases ho
      | some o' =>
        rw [e1] at hd; rw [e2] at ho
        cases hd; cases ho
        exact hs x o' _ G1 v (hi i x o' e1 e2) (Same.new hD) s hv
  have e : ∀ os : List (Option β), (os.map fun o => o.map eb).filterMap id = (os.filterMap id).map eb := fun os => by
    induction os with
    | nil => rfl
    | cons o os ih => cases o <;> simp_all
  rw [e] at this
  exact this
end
end Kx
end
section
set_option maxHeartbeats 2000000
namespace Kx
open PySem L2
/-! ### enumerate of a tuple, zip of lists and tuples -/
def SqB (K : PySem.W.Frag) : Bool → Hp → Addr → List V → Prop
  | true => SqT K
  | false => SqL K
def IteT (K : PySem.W.Frag) (a : Addr) : It :=
  ⟨fun i H => ∃ (xs : List V) (x : V), SqT K H a xs ∧ xs[i]? = some x, fun i H v H' => ∃ T x, v = .ref T ∧ H T = none ∧ H' = upd H T (.tup [.int (i : Nat), x]) ∧ ∀ xs, SqT K H a xs → xs[i]? = some x, fun i H => ∃ xs : List V, SqT K H a xs ∧ xs.length = i⟩
def iEnumT (K : PySem.W.Frag) (ta : TA) : TI := fun σ H R => ta σ H fun vs H1 => ∃ a xs, vs = [.ref a] ∧ SqT K H1 a xs ∧ R (IteT K a) H1
def IterB : Bool → Heap → Addr → Addr → Nat → Prop
  | true => fun h it a i => h.IsTupleIter it a i
  | false => fun h it a i => h.IsListIter it a i
def SeqB : Bool → Heap → Addr → Array Value → Prop
  | true => fun h a its => h.IsTuple a its
  | false => fun h a its => h.IsList a its
theorem IterB.at {k : Bool} {h h' : Heap} {it a : Addr} {i : Nat} (x : IterB k h it a i) (e : ∀ o, h.get? it = some o → h'.get? it = some o) : IterB k h' it a i := by
  cases k with
  | true => exact Heap.IsTupleIter.at x e
  | false => exact Heap.IsListIter.at x e
theorem IterB.obj {k : Bool} {h : Heap} {it a : Addr} {i : Nat} (x : IterB k h it a i) : ∃ o, h.get? it = some o ∧ ∀ v, o.data ≠ .cell v := by
  cases k with
  | true =>
    obtain ⟨o, ho, _, hd⟩ := (show h.IsTupleIter it a i from x)
    exact ⟨o, ho, fun v q => by rw [hd] at q; cases q⟩
  | false =>
    obtain ⟨o, ho, _, hd⟩ := (show h.IsListIter it a i from x)
    exact ⟨o, ho, fun v q => by rw [hd] at q; cases q⟩
def itName : Bool → String
  | true => "tuple_iterator"
  | false => "list_iterator"
theorem begins_B (k : Bool) (a : Addr) (items : Array Value) : Begins (.ref a) { cls := .type (itName k), data := .fields #[.ref a, .int 0 0] } fun h => SeqB k h a items := by
  cases k with
  | true => exact begins_tuple a items
  | false => exact begins_list a items
theorem iterB_new {k : Bool} {h : Heap} {it a : Addr} (e : h.get? it = some { cls := .type (itName k), data := .fields #[.ref a, .int 0 0] }) : IterB k h it a 0 := by
  cases k with
  | true => exact ⟨_, e, rfl, rfl⟩
  | false => exact ⟨_, e, rfl, rfl⟩
theorem drawsB {prog : Program} {w : World} {A : Around} (k : Bool) (hh : A.handled = none) (it a : Addr) (hne : a ≠ it) (items : Array Value) : Draws prog w A it [it, a] items.size (fun i v => items[i]? = some v) (fun i h => IterB k h it a i ∧ SeqB k h a items) := by
  cases k with
  | true => exact Draws.tuple hh it a hne items
  | false => exact Draws.list hh it a hne items
section
variable {X : Cx} {pins : List (Addr × Obj)} {σ : St} {H : Hp} {s : Shared}
theorem seqB_of {k : Bool} {a : Addr} {xs : List V} (I : Inv X pins σ H s) (h : SqB X.K k H a xs) : ∃ its, Vals xs its ∧ SeqB k s.heap a its.toArray ∧ a < s.heap.objs.size := by
  cases k with
  | true =>
    obtain ⟨its, rv, p, _⟩ := I.tuple h
    obtain ⟨o, ho, _⟩ := id p
    exact ⟨its, rv, p, Heap.lt_size ho⟩
  | false =>
    obtain ⟨its, rv, p, _⟩ := I.list h
    exact ⟨its, rv, p.isList, p.lt⟩
end
theorem turn_enumT {P : Program} {w : World} {K : PySem.W.Frag} {elts : List Expr} {kk : Nat} {tpos : Pos} (a e it : Addr) :
    Turn P w K (.Tuple elts kk tpos) (IteT K a) [e, it] e (fun i h => (∃ old, IsEnum h e it ((i : Nat) : Int) old) ∧ IterB true h it a i ∧ e ≠ it ∧ a ≠ it ∧ a ≠ e) where
  mem := by simp
  obj := fun i h st b hb => by
    obtain ⟨⟨old, he⟩, hi, _⟩ := st
    have e' : b = e ∨ b = it := by simpa using hb
    rcases e' with z | z
    · rw [z]; exact ⟨_, he, fun v q => nomatch q⟩
    · rw [z]; exact hi.obj
  keep := fun i h h' st k => let ⟨⟨old, he⟩, hi, hne⟩ := st; ⟨⟨old, k e (by simp) _ he⟩, hi.at fun o q => k it (by simp) o q, hne⟩
  item := by
    intro X hP hw hK hc i pins s σ H E I hf st hg
    subst hP hw hK
    obtain ⟨⟨old, he⟩, hit, hne, hai, hae⟩ := st
    obtain ⟨xs, x, hq, hx⟩ := hg
    obtain ⟨its, rv, p, hz⟩ := seqB_of (k := true) I hq
    have hlen := rv.length
    have hil' : i < xs.length := (List.getElem?_eq_some_iff.mp hx).1
    have hel : e < s.heap.objs.size := Heap.lt_size he
    have hil : it < s.heap.objs.size := by obtain ⟨_, q, _⟩ := hit.obj; exact Heap.lt_size q
    refine wpAny_pyNext_enum_itemD (drawsB (A := X.A.in1) true (show X.A.in1.handled = none from I.ok.hd hc) it a hai its.toArray) he ⟨hit, p⟩ (by simp; omega) hne (by simp [hne, Ne.symm hae]) fun u h' tk hu ho hit' hT hsz hk => ?_
    obtain ⟨u', hu', ru⟩ := rv.get hx
    have eu : u = u' := by
      have : its.toArray[i]? = some u' := by simpa using hu'
      rw [hu] at this
      exact Option.some.inj this
    subst eu
    refine ⟨_, rfl, wpAny_letOwnedTupleGo_enum (s := { s with heap := h', toks := tk + 1 }) ho fun h'' he' sb => ?_⟩
    have hT2 : h''.get? s.heap.objs.size = some { cls := .type "tuple", data := .seq #[.int i tk, u] } := (sb.2 _ (Nat.ne_of_gt hel)).trans hT
    have new : ObjOk X.prog X.w (upd H s.heap.objs.size (.tup [.int (i : Nat), x])) h'' s.heap.objs.size (.tup [.int (i : Nat), x]) :=
      ⟨by show 2 ≤ sizeLine; decide, [.int i tk, u], .cons ⟨_, rfl⟩ (.cons ru .nil), ⟨_, hT2, rfl, _, rfl⟩⟩
    have I1 : Inv X pins σ (upd H s.heap.objs.size (.tup [.int (i : Nat), x])) { s with heap := h'', toks := tk + 1 } :=
      I.turnedNew (ch := [e, it]) (fun b ob hb q => (sb.2 b (fun z => hb (by simp [z]))).trans (hk b ob (fun z => hb (by simp [z])) (fun z => hb (by simp [z])) q)) hf (Nat.le_refl _) new
    refine ⟨.ref s.heap.objs.size, _, I1, rfl, ⟨_, x, rfl, I.hok.fresh (Nat.le_refl _), rfl, fun ys hy => by rw [I.tuple_inj hy hq]; exact hx⟩, ⟨⟨u, ?_⟩, hit'.1.at fun o q => (sb.2 it (Ne.symm hne)).trans q, hne, hai, hae⟩, fun b hb => ?_⟩
    · have e1 : ((i + 1 : Nat) : Int) = (i : Int) + 1 := by omega
      rw [e1]; exact he'
    · have hb' : b < s.heap.objs.size := by
        have e' : b = e ∨ b = it := by simpa using hb
        rcases e' with z | z
        · rw [z]; exact hel
        · rw [z]; exact hil
      rw [upd_ne (Nat.ne_of_lt hb')]
      exact (hf b hb).1
  done := by
    intro X hP hw hK hc i pins s σ H E I hf st hg
    subst hP hw hK
    obtain ⟨⟨old, he⟩, hit, hne, hai, hae⟩ := st
    obtain ⟨xs, hq, hx⟩ := hg
    obtain ⟨its, rv, p, hz⟩ := seqB_of (k := true) I hq
    obtain ⟨f0, f1, f2, f3, f4, f5⟩ := hf it (by simp)
    have hl := rv.length
    have en : its.toArray.size = i := by simp; omega
    exact wpAny_pyNext_enum_endD (drawsB (A := X.A.in1) true (show X.A.in1.handled = none from I.ok.hd hc) it a hai its.toArray) he (by rw [en]; exact ⟨hit, p⟩) fun h' eb => ⟨rfl, I.turned (t' := s.toks) (fun b o hb q => eb b o hb q) f0 f1 f3 f4 f5⟩
  self := fun A i s Q E st h => let ⟨⟨_, he⟩, _⟩ := st; wpAny_pyIter_enum he h
end Kx
namespace PySem
theorem meets_enumerate_newB1 {v : Value} {o : Obj} {H : Heap → Prop} (B : Begins v o H) :
    Meets (Builtin.«enumerate.__new__» ⟨[.type "enumerate", v], []⟩) (fun _ R s => H s.heap ∧
      R (.ok (.ret (.ref (s.heap.push o).objs.size))) { s with heap := (s.heap.push o).push { cls := .type "enumerate", data := .fields #[.none, .bool false, .ref s.heap.objs.size, rawInt 0, .none, .none] } }) :=
  .of_wp fun prog w A R s h => by
    obtain ⟨hp, g, d, tk, os⟩ := s; obtain ⟨h1, h⟩ := h
    have hsub := sub_enumerate
    have q1 : ∀ {A' : Around} {E : Value → Shared → Prop} {Q : Value → Shared → Prop}, Q (.ref hp.objs.size) ⟨hp.push o, g, d, tk, os⟩ → wpAny (model prog w) A' (pyIter v) Q E ⟨hp, g, d, tk, os⟩ :=
      fun q => B.iter prog w _ _ ⟨hp, g, d, tk, os⟩ _ h1 q
    wp_walk using q1
    refine wpAny_stack_any fun st => wpAny_pure ?_
    split
    · rename_i c _ _ _ _ _
      cases (c == Value.type "enumerate")
      · wp_walk using q1
        exact ⟨_, rfl, h⟩
      · wp_walk using q1
        exact ⟨_, rfl, h⟩
    · wp_walk using q1
      exact ⟨_, rfl, h⟩
theorem enum_begins1 {prog : Program} {w : World} {A : Around} {E : Value → Shared → Prop} {s : Shared} {v : Value} {o : Obj} {H : Heap → Prop} {Q : Value → Shared → Prop} (B : Begins v o H) (h1 : H s.heap)
    (h : ∀ h', IsEnum h' (s.heap.objs.size + 1) s.heap.objs.size 0 .none → h'.get? s.heap.objs.size = some o → h'.objs.size = s.heap.objs.size + 2 →
      (∀ b o, s.heap.get? b = some o → h'.get? b = some o) → Q (.ref (s.heap.objs.size + 1)) { s with heap := h' }) :
    wpAny (model prog w) A (call (.type "enumerate") [v]) Q E s := by
  refine callType_new F.called_enumerate (by decide) (F.typeCall_enumerate_1 _) (F.newCall_enumerate_1 _) (fun obj => F.args_object_init_2 obj _) F.entry_enumerate_new
    (meets_enumerate_newB1 B) ⟨h1, ?_⟩
  have hz : (s.heap.push o).objs.size = s.heap.objs.size + 1 := Heap.size_push ..
  show _ ∧ _
  rw [hz]
  have he : IsEnum ((s.heap.push o).push { cls := .type "enumerate", data := .fields #[.none, .bool false, .ref s.heap.objs.size, rawInt 0, .none, .none] }) (s.heap.objs.size + 1) s.heap.objs.size 0 .none := by
    have := Heap.get?_push_size (s.heap.push o) (o := { cls := .type "enumerate", data := .fields #[.none, .bool false, .ref s.heap.objs.size, rawInt 0, .none, .none] }) rfl
    rw [hz] at this; exact this
  refine ⟨⟨_, he, rfl⟩, h _ he (Heap.get?_push_of_some _ (Heap.get?_push_size _ B.free)) (by rw [Heap.size_push, hz]) fun b o x => Heap.get?_push_of_some _ (Heap.get?_push_of_some _ x)⟩
end PySem
namespace Kx
open PySem L2
theorem pi_enumT {X : Cx} {e : Expr} {ta : TA} {p pos tpos : Pos} {elts : List Expr} {kk : Nat} (hg : Gl X "enumerate") (hm : X.mg "enumerate" = none) (ha : PA X [e] ta) (hs : starEach [e] X.env = [(false, eval e X.env)] := by rfl) :
    PI X (.Tuple elts kk tpos) (.Call (.Name "enumerate" p) [e] [] pos) (iEnumT X.K ta) := by
  refine ⟨fun pins s σ H R I h => ?_⟩
  refine PyProof.Rows.Call_ (ld_blt I hg hm PyProof.Rows.boot_enumerate (PyProof.Rows.callWith_type1 (thn (ha.run pos pins s σ H _ I h) fun us s1 ⟨vs, H1, I1, r1, q1⟩ => ?_) hs rfl))
  obtain ⟨a, xs, ex, hq, q⟩ := q1
  subst ex
  cases r1 with
  | cons r rr =>
    cases rr
    cases r
    obtain ⟨its, rv, p', hz⟩ := seqB_of (k := true) I1 hq
    refine enum_begins1 (begins_B true a its.toArray) p' fun h' he hit hsz hk => wpAny_pyIter_enum he ?_
    have I2 : Inv X pins σ H1 { s1 with heap := h' } := I1.kept (t' := s1.toks) hk
    refine ⟨s1.heap.objs.size + 1, [s1.heap.objs.size + 1, s1.heap.objs.size], _, _, H1, rfl, I2, turn_enumT a (s1.heap.objs.size + 1) s1.heap.objs.size, ⟨⟨.none, he⟩, iterB_new hit, Nat.succ_ne_self _, Nat.ne_of_lt hz, Nat.ne_of_lt (Nat.lt_succ_of_lt hz)⟩, fun b hb => ?_, q⟩
    have e' : b = s1.heap.objs.size + 1 ∨ b = s1.heap.objs.size := by simpa using hb
    have hle : s1.heap.objs.size ≤ b := by
      rcases e' with z | z
      · rw [z]; exact Nat.le_add_right _ _
      · rw [z]; exact Nat.le_refl _
    exact I1.fpOk hle (I1.hok.fresh hle)
section
variable {K : PySem.W.Frag} {σ : St} {G G' M M1 M2 M3 : Hp} {ta tb te tc : TE} {P P1 P2 : VP} {d e : Dat} {ds es : List Dat}
def seqD : Bool → List Dat → Dat
  | true => .tuple
  | false => .list
theorem src_enumT [Tb] {ta : TA} (h : EvA ta σ G M M1 (conP (DD K (.tuple ds)) nilP)) : Src K (iEnumT K ta) σ G M M1 (enumD ds) := fun G0 H s k R q =>
  h G0 H s k _ fun vs G1 H1 s1 k1 hv => by
    obtain ⟨v, rfl, hw⟩ := one_of (R := nilP) hv
    obtain ⟨a, vs, rfl, h1, h2⟩ := dp_tuple hw
    refine ⟨a, vs, rfl, sqT_up k1.g h1, q _ G1 H1 s1 k1 ?_⟩
    have w : Walk (IteT K a) vs.length (fun H => SqT K H a vs) (YPair (fun i => some (.int (i : Nat))) (fun i => vs[i]?)) := by
      refine ⟨fun i _ hi q => ⟨vs, vs[i], q, by simp [hi]⟩, fun _ q => ⟨vs, q, rfl⟩, fun i H v H' _ q y => ?_⟩
      obtain ⟨T, x, h1, h2, h3, h4⟩ := y
      exact ⟨T, .int (i : Nat), x, h1, h2, h3, rfl, h4 vs q⟩
    refine walks_pair w (by simp [enumD, dpAll_len h2]) (fun H s => sqT_up s h1) fun i d x y hd hx hy => ?_
    cases hx
    unfold enumD at hd
    rw [List.getElem?_mapIdx] at hd
    cases e : ds[i]? with
    | none => rw [e] at hd; cases hd
    | some d' =>
      rw [e] at hd
      cases hd
      exact ⟨_, _, rfl, .int _, dqAll_at h2 hy e⟩
end
end Kx
end
section
set_option maxHeartbeats 2000000
namespace Kx
open PySem L2
section
variable {X : Cx} {K : PySem.W.Frag}
theorem ix_listK (h : X.K = K := by rfl) : IxR X (rIxL K) := h ▸ ix_list
theorem ix_tupK (h : X.K = K := by rfl) : IxR X (rIxT K) := h ▸ ix_tup
theorem sl_tupK (h : X.K = K := by rfl) : SlR X (rSlF K) := h ▸ sl_tupF
theorem cl_lenK (h : X.K = K := by rfl) : CallR X (.builtin "len") (rLen K) := h ▸ cl_len
theorem cl_listK (h : X.K = K := by rfl) : CallR X (.type "list") (rListOf K) := h ▸ cl_list
theorem cl_tupleK (h : X.K = K := by rfl) : CallR X (.type "tuple") (rTupOf K) := h ▸ cl_tuple
theorem call_isiKK (h : X.K = K := by rfl) : CallR X (.builtin "isinstance") (rIsi K) := h ▸ call_isi
theorem cr_allK (hc : X.calm = true) (h : X.K = K := by rfl) : CallR X (.builtin "all") (rAll K) := h ▸ cr_all hc
theorem op_eqDK (hu : X.A.units + 64 < cLine) (h : X.K = K := by rfl) : OpR X (compareOp .Eq) (rEqD K) := h ▸ op_eqD hu
theorem op_neDK (hu : X.A.units + 64 < cLine) (h : X.K = K := by rfl) : OpR X (compareOp .NotEq) (rNeD K) := h ▸ op_neD hu
theorem op_catAK (h : X.K = K := by rfl) : OpR X (binaryOp .Add) (rCatF K) := h ▸ op_catF
theorem pi_listK {tg l : Expr} {tl : TE} (hl : PE X l tl) (h : X.K = K := by rfl) : PI X tg l (iList K tl) := h ▸ pi_list hl
theorem pi_tupK {tg l : Expr} {tl : TE} (hl : PE X l tl) (h : X.K = K := by rfl) : PI X tg l (iTup K tl) := h ▸ pi_tup hl
theorem pi_enumTK {e : Expr} {ta : TA} {p pos tpos : Pos} {elts : List Expr} {kk : Nat} (hg : Gl X "enumerate") (hm : X.mg "enumerate" = none) (ha : PA X [e] ta) (h : X.K = K := by rfl) (hs : starEach [e] X.env = [(false, eval e X.env)] := by rfl) :
    PI X (.Tuple elts kk tpos) (.Call (.Name "enumerate" p) [e] [] pos) (iEnumT K ta) := h ▸ pi_enumT hg hm ha hs
end
end Kx
end
section
set_option maxHeartbeats 2000000
namespace Kx
open PySem L2
/-! ### a call by names alone -/
section
variable {K : PySem.W.Frag} {σ : St} {G G' M M1 M2 M3 : Hp} {ta tb te tc : TE} {P P1 P2 : VP} {d e : Dat} {ds es : List Dat} {D : Ends} {H : Hp} {u : TS}
/-! ### a list or a tuple -/
/-! ### what may be None, and isn't -/
/-! ### the script -/
def SCP (K : PySem.W.Frag) (ns : List Int) : VP := fun v G => ∃ a, v = .ref a ∧ SqL K G a (ns.map V.int)
theorem mo_scp {ns : List Int} : Mo (SCP K ns) := fun _ _ _ s ⟨a, e, h⟩ => ⟨a, e, s.seq h⟩
theorem ev_lenScr [Tb] {ns : List Int} (ha : EvA (tCons ta tNil) σ G M M1 (conP (SCP K ns) nilP)) : Ev (tCB (rLen K) (tCons ta tNil)) σ G M M1 (DD K (.int (ns.length : Int))) := ev_cb ha fun xs G0 H s k hx Q q => by
  obtain ⟨v, rfl, a, rfl, ha⟩ := one_of (R := nilP) hx
  refine ⟨a, _, rfl, .inl (k.g.seq ha), q _ G0 H (Same.refl _) k ?_⟩
  rw [List.length_map]
  exact .int _
theorem ev_ixScr [Tb] {ns : List Int} {i x : Int} (hi : atI ns i = some x) (ha : Ev ta σ G M M1 (SCP K ns)) (hb : Ev tb σ G M1 M2 (DD K (.int i))) : Ev (tOp (rIxL K) ta tb) σ G M M2 (DD K (.int x)) := ev_op mo_scp ha hb fun x' y G0 H s k hx hy Q q => by
  obtain ⟨a, rfl, ha⟩ := hx
  cases hy
  exact ⟨a, _, i, .int x, rfl, rfl, k.g.seq ha, atI_map hi, q _ G0 H (Same.refl _) k (.int _)⟩
/-! ### a def that makes a store -/
def spO [Tb] {α : Type} (args : α → List V → Hp → Prop) (m : α → Option Sto) : Sp := fun vs H Q _ =>
  ∃ (G M : Hp) (a : α) (z : Sto), Ok G M H ∧ args a vs G ∧ m a = some z ∧ ∀ p G' H', Same G G' → Ok G' (upd M p (sto z)) H' → M p = none → Q (.ref p) H'
theorem q_retL [Tb] (he : EvL K te σ G M M1 ds) (ok : Ok G M H) (k : ∀ p vs G' H', Same G G' → Ok G' (upd M1 p (.lst vs)) H' → M1 p = none → DqAll K G' vs ds → D.rt (.ref p) H') : tSeq (tRet te) u D σ H := he G H (Same.refl _) ok _ k
theorem vs_sto {G : Hp} {vs : List V} {x y z : Int} (h : DqAll K G vs [.int x, .int y, .int z]) : vs = [.int x, .int y, .int z] := by
  cases h with
  | cons a b => cases a; cases b with
    | cons a b => cases a; cases b with
      | cons a b => cases a; cases b; rfl
/-- f(g(..)): the store that g makes is handed on to f -/
theorem ev_open [Tb] {α ρ : Type} {ao : α → List V → Hp → Prop} {mo : α → Option Sto} {args : Unit → List V → Hp → Prop} {m : Unit → Sto → Option (ρ × Sto)} {res : ρ → VP} {E E' : XK} {t : TA} {a : α} {z : Sto} {r : ρ × Sto} (h1 : mo a = some z) (h2 : m () z = some r) (hn : ∀ G, args () [] G) (ha : EvA t σ G M M1 (ao a)) :
    Ev (tCall (spD args m res) [] E (tCons (tCall (spO ao mo) [] E' t) tNil)) σ G M M1 (res r.1) := fun G0 H s k Q q =>
  ha G0 H s k _ fun vs G1 H1 s1 k1 hv => by
    rw [List.append_nil]
    refine ⟨G1, M1, a, z, k1, hv, h1, fun p G2 H2 s2 k2 hp => ?_⟩
    refine ⟨G2, upd M1 p (sto z), p, z, r.2, (), r.1, [], rfl, k2, upd_same, hn G2, h2, fun v G3 H3 s3 k3 hr => ?_⟩
    rw [upd_upd] at k3
    exact q v G3 H3 ((s1.trans s2).trans s3) (k3.less (Same.new hp)) hr
end
end Kx
end
section
namespace Kx
open PySem L2
/-- one draw -/
def pullM (a : Int) (z : Sto) : Option (Int × Sto) :=
  cond (decide ((0 : Int) < z.1)) ((dmO z.1 a).bind fun t1 => some (t1.2, (t1.1, z.2.1, z.2.2 + 1)))
    ((modO z.2.1 40961).bind fun t1 => (mulO z.2.1 (t1 + 20011)).bind fun t2 => (mulO 50021 (z.2.2 + 1)).bind fun t3 => (modO (t2 + t3 + 3) 1000000433).bind fun t4 => (fdivO t4 48).bind fun t5 => (modO t5 a).bind fun t6 => some (t6, (z.1, t4, z.2.2 + 1)))
end Kx
namespace Kx
open PySem L2
theorem same_upd2 {M0 M : Hp} {p : Addr} {o : HO} (h : Same M0 M) : Same (upd M0 p o) (upd M p o) := fun a u e => by
  by_cases ha : a = p
  · subst ha; rw [upd_same] at e ⊢; exact e
  · rw [upd_ne ha] at e ⊢; exact h a u e
end Kx
end
section
set_option maxHeartbeats 2000000
namespace Kx
open PySem L2
end Kx
end
section
set_option maxHeartbeats 2000000
namespace Kx
open PySem L2
section
variable {K : PySem.W.Frag} {σ σ' : St} {G G' M M1 M2 M3 : Hp} {ta tb te tc : TE} {P P1 P2 : VP} {d e : Dat} {ds es : List Dat} {D : Ends} {H : Hp} {u : TS}
/-! ### several targets at once -/
/-! the same where a tuple is made on the way -/
/-! ### things of any kind -/
/-- isinstance of a thing that is no instance of an own class -/
def isO (f : Dat → Bool) (d : Dat) : Option Bool := cond (isIns d) none (some (f d))
def intD : Dat → Option Int
  | .int i => some i
  | _ => none
/-! ### least and greatest of a list of ints -/
end
end Kx
namespace Kx
open PySem L2
end Kx
end
section
set_option maxHeartbeats 2000000
namespace Kx
open PySem L2
/-! ### min(rows): a walk whose comparison reads the heap -/
end Kx
namespace Kx
open PySem L2
theorem lex_trans : ∀ {a b c : List Int}, HT.lexLt a b = true → HT.lexLt b c = true → HT.lexLt a c = true
  | [], [], _, h, _ => by cases h
  | [], _ :: _, [], _, h => by cases h
  | [], _ :: _, _ :: _, _, _ => rfl
  | _ :: _, [], _, h, _ => by cases h
  | _ :: _, _ :: _, [], _, h => by cases h
  | x :: xs, y :: ys, z :: zs, h1, h2 => by
    rw [HT.lexLt_cons] at h1 h2 ⊢
    by_cases e1 : x = y
    · by_cases e2 : y = z
      · rw [if_pos e1] at h1
        rw [if_pos e2] at h2
        rw [if_pos (e1.trans e2)]
        exact lex_trans h1 h2
      · rw [if_neg e2] at h2
        rw [if_neg (by rw [e1]; exact e2), e1]
        exact h2
    · rw [if_neg e1] at h1
      have l1 : x < y := of_decide_eq_true h1
      by_cases e2 : y = z
      · rw [← e2, if_neg e1]
        exact h1
      · rw [if_neg e2] at h2
        have l2 : y < z := of_decide_eq_true h2
        rw [if_neg (by omega)]
        exact decide_eq_true (by omega)
end Kx
namespace Kx
open PySem L2
end Kx
end
section
set_option maxHeartbeats 2000000
namespace Kx
open PySem L2
/-! ### texts -/
theorem sok_iff {z : Str} : sok z = true ↔ ∀ c ∈ z.cps.toList, c < 0x110000 := by
  unfold sok PyData.strOk
  rw [Array.all_eq_true']
  simp
theorem sok_app {a b : Str} (ha : sok a = true) (hb : sok b = true) : sok (a ++ b) = true := by
  rw [sok_iff] at *
  intro c hc
  have e : (a ++ b).cps.toList = a.cps.toList ++ b.cps.toList := by
    show (a.cps ++ b.cps).toList = _
    simp
  rw [e] at hc
  rcases List.mem_append.mp hc with h | h
  · exact ha c h
  · exact hb c h
def lenS (z : Str) : Option Int := (grd (z.length ≤ 16777216)).bind fun _ => some (z.length : Int)
def atS (z : Str) (i : Int) : Option Str := (grd (z.length ≤ 16777216)).bind fun _ => (atI z.cps.toList i).bind fun c => some ⟨#[c]⟩
def addS (a b : Str) : Option Str := (grd (a.length + b.length ≤ 16777216)).bind fun _ => some (a ++ b)
def inSign (x z : Str) : Option Bool := match x.cps.toList with
  | [c] => some (decide (c ∈ z.cps.toList))
  | _ => none
def sLt (a b : Str) : Bool := decide (a.cps.toList < b.cps.toList)
section
variable {K : PySem.W.Frag} {σ σ' : St} {G G' M M1 M2 M3 : Hp} {ta tb te tc : TE} {P P1 P2 : VP} {d e : Dat} {ds es : List Dat} {D : Ends} {H : Hp} {u : TS}
theorem dq_str {G : Hp} {v : V} {z : Str} (h : Dq K G v (.str z)) : v = .str z ∧ sok z = true := by
  cases h with
  | str h => exact ⟨rfl, h⟩
def rLenS : List V → Hp → VK → Prop := fun xs H Q => ∃ z, xs = [.str z] ∧ z.length ≤ sizeLine ∧ Q (.int z.length) H
theorem ev_lenS [Tb] {z : Str} {n : Int} (h : lenS z = some n) (ha : EvA (tCons ta tNil) σ G M M1 (conP (DD K (.str z)) nilP)) : Ev (tCB rLenS (tCons ta tNil)) σ G M M1 (DD K (.int n)) := ev_cb ha fun xs G0 H s k hx Q q => by
  obtain ⟨v, rfl, hv⟩ := one_of (R := nilP) hx
  obtain ⟨rfl, _⟩ := dq_str hv
  obtain ⟨_, h1, h2⟩ := bs h
  cases h2
  exact ⟨z, rfl, szl (grd_of h1), q _ G0 H (Same.refl _) k (.int _)⟩
theorem ev_ixS [Tb] {z y : Str} {i : Int} (h : atS z i = some y) (ha : Ev ta σ G M M1 (DD K (.str z))) (hb : Ev tb σ G M1 M2 (DD K (.int i))) : Ev (tOp rIxS ta tb) σ G M M2 (DD K (.str y)) := ev_op mo_dd ha hb fun v w G0 H s k hx hy Q q => by
  obtain ⟨rfl, hz⟩ := dq_str hx
  cases hy
  obtain ⟨_, h1, h2⟩ := bs h
  obtain ⟨c, h3, h4⟩ := bs h2
  cases h4
  refine ⟨z, i, c, rfl, rfl, szl (grd_of h1), h3, q _ G0 H (Same.refl _) k (.str (sok_sign hz ?_))⟩
  unfold atI at h3
  obtain ⟨j, _, h5⟩ := bs h3
  exact List.mem_of_getElem? h5
theorem ev_addS [Tb] {a b c : Str} (h : addS a b = some c) (ha : Ev ta σ G M M1 (DD K (.str a))) (hb : Ev tb σ G M1 M2 (DD K (.str b))) : Ev (tOp (fun x y H Q => ∃ i j, x = V.str i ∧ y = .str j ∧ i.length + j.length ≤ sizeLine ∧ Q (.str (i ++ j)) H) ta tb) σ G M M2 (DD K (.str c)) := ev_op mo_dd ha hb fun v w G0 H s k hx hy Q q => by
  obtain ⟨rfl, h1⟩ := dq_str hx
  obtain ⟨rfl, h2⟩ := dq_str hy
  obtain ⟨_, h3, h4⟩ := bs h
  cases h4
  exact ⟨a, b, rfl, rfl, szl (grd_of h3), q _ G0 H (Same.refl _) k (.str (sok_app h1 h2))⟩
theorem inSign_of {x z : Str} {b : Bool} (h : inSign x z = some b) : ∃ c, x = ⟨#[c]⟩ ∧ b = decide (c ∈ z.cps.toList) := by
  unfold inSign at h
  split at h
  · next c e =>
    refine ⟨c, ?_, (Option.some.inj h).symm⟩
    cases x with
    | mk cps =>
      congr 1
      apply Array.toList_inj.mp
      exact e
  · cases h
theorem ev_inSign [Tb] {x z : Str} {b : Bool} (h : inSign x z = some b) (ha : Ev ta σ G M M1 (DD K (.str x))) (hb : Ev tb σ G M1 M2 (DD K (.str z))) : Ev (tOp (fun x y H Q => ∃ (c : Nat) (z : Str), x = V.str ⟨#[c]⟩ ∧ y = .str z ∧ Q (.bl (decide (c ∈ z.cps.toList))) H) ta tb) σ G M M2 (DD K (.bool b)) := ev_op mo_dd ha hb fun v w G0 H s k hx hy Q q => by
  obtain ⟨rfl, _⟩ := dq_str hx
  obtain ⟨rfl, _⟩ := dq_str hy
  obtain ⟨c, rfl, rfl⟩ := inSign_of h
  exact ⟨c, z, rfl, rfl, q _ G0 H (Same.refl _) k (.bl _)⟩
theorem ev_leS [Tb] {a b : Str} (ha : Ev ta σ G M M1 (DD K (.str a))) (hb : Ev tb σ G M1 M2 (DD K (.str b))) : Ev (tOp (fun x y H Q => ∃ i j, x = V.str i ∧ y = .str j ∧ Q (.bl (!decide (j.cps.toList < i.cps.toList))) H) ta tb) σ G M M2 (DD K (.bool (!sLt b a))) := ev_op mo_dd ha hb fun v w G0 H s k hx hy Q q => by
  obtain ⟨rfl, _⟩ := dq_str hx
  obtain ⟨rfl, _⟩ := dq_str hy
  exact ⟨a, b, rfl, rfl, q _ G0 H (Same.refl _) k (.bl _)⟩
theorem cl_lenS {X : Cx} : CallR X (.builtin "len") rLenS := call_len_str
/-! ### a text among texts -/
theorem strs_flat : ∀ (xs : List Str), (xs.map V.str).all flatV = true
  | [] => rfl
  | x :: xs => by
    rw [List.map_cons, List.all_cons, strs_flat xs]; rfl
theorem inV_strs (x : Str) : ∀ (xs : List Str), inV (.str x) (xs.map V.str) = memB x xs
  | [] => by simp [inV, memB]
  | y :: ys => by
    have ih := inV_strs x ys
    unfold inV at ih ⊢
    rw [List.map_cons, List.any_cons, ih]
    have e : eqV (.str y) (.str x) = decide (y = x) := by unfold eqV; exact beq_dec y x
    rw [e]
    unfold memB
    by_cases h : x = y
    · simp [h]
    · simp [h, Ne.symm h]
theorem op_inSK {X : Cx} (h : X.K = K := by rfl) : OpR X (compareOp .In) (rIn K false) := h ▸ op_in_seq
theorem op_notInSK {X : Cx} (h : X.K = K := by rfl) : OpR X (compareOp .NotIn) (rIn K true) := h ▸ op_notIn_seq
theorem ev_inS [Tb] {x : Str} {xs : List Str} {k : Bool} (ha : Ev ta σ G M M1 (DD K (.str x))) (hb : Ev tb σ G M1 M2 (DD K (seqD k (xs.map Dat.str)))) : Ev (tOp (rIn K false) ta tb) σ G M M2 (DD K (.bool (memB x xs))) := ev_op mo_dd ha hb fun v w G0 H s kk hx hy Q q => by
  obtain ⟨rfl, _⟩ := dq_str hx
  cases k with
  | true =>
    obtain ⟨a, vs, rfl, h1, h2⟩ := dp_tuple (show Dq K G0 w (.tuple (xs.map Dat.str)) from hy)
    rw [dpAll_strs h2] at h1
    refine ⟨a, _, rfl, .inr (sqT_up kk.g h1), rfl, strs_flat xs, ?_⟩
    rw [if_neg (by decide), inV_strs]
    exact q _ G0 H (Same.refl _) kk (.bl _)
  | false =>
    obtain ⟨a, vs, rfl, h1, h2⟩ := dp_list (show Dq K G0 w (.list (xs.map Dat.str)) from hy)
    rw [dpAll_strs h2] at h1
    refine ⟨a, _, rfl, .inl (.inl (.inl (kk.g _ _ h1))), rfl, strs_flat xs, ?_⟩
    rw [if_neg (by decide), inV_strs]
    exact q _ G0 H (Same.refl _) kk (.bl _)
theorem ev_notInS [Tb] {x : Str} {xs : List Str} {k : Bool} (ha : Ev ta σ G M M1 (DD K (.str x))) (hb : Ev tb σ G M1 M2 (DD K (seqD k (xs.map Dat.str)))) : Ev (tOp (rIn K true) ta tb) σ G M M2 (DD K (.bool (!memB x xs))) := ev_op mo_dd ha hb fun v w G0 H s kk hx hy Q q => by
  obtain ⟨rfl, _⟩ := dq_str hx
  cases k with
  | true =>
    obtain ⟨a, vs, rfl, h1, h2⟩ := dp_tuple (show Dq K G0 w (.tuple (xs.map Dat.str)) from hy)
    rw [dpAll_strs h2] at h1
    refine ⟨a, _, rfl, .inr (sqT_up kk.g h1), rfl, strs_flat xs, ?_⟩
    rw [if_pos rfl, inV_strs]
    exact q _ G0 H (Same.refl _) kk (.bl _)
  | false =>
    obtain ⟨a, vs, rfl, h1, h2⟩ := dp_list (show Dq K G0 w (.list (xs.map Dat.str)) from hy)
    rw [dpAll_strs h2] at h1
    refine ⟨a, _, rfl, .inl (.inl (.inl (kk.g _ _ h1))), rfl, strs_flat xs, ?_⟩
    rw [if_pos rfl, inV_strs]
    exact q _ G0 H (Same.refl _) kk (.bl _)
end
end Kx
end
section
set_option maxHeartbeats 2000000
namespace Kx
open PySem L2
/-! ### the order of texts -/
theorem sLt_irr (a : Str) : sLt a a = false := decide_eq_false (List.lt_irrefl _)
theorem sLt_trans {a b c : Str} (h1 : sLt a b = true) (h2 : sLt b c = true) : sLt a c = true := decide_eq_true (List.lt_trans (of_decide_eq_true h1) (of_decide_eq_true h2))
theorem str_ext {a b : Str} (h : a.cps.toList = b.cps.toList) : a = b := by
  cases a with
  | mk x =>
    cases b with
    | mk y =>
      congr 1
      exact Array.toList_inj.mp h
theorem sLt_tri {a b : Str} (h1 : sLt a b = false) (h2 : sLt b a = false) : a = b := by
  have l1 : ¬ a.cps.toList < b.cps.toList := of_decide_eq_false h1
  have l2 : ¬ b.cps.toList < a.cps.toList := of_decide_eq_false h2
  exact str_ext (List.le_antisymm (List.not_lt.mp l2) (List.not_lt.mp l1))
def sLe (a b : Str) : Bool := !sLt b a
theorem sLe_trans (a b c : Str) (h1 : sLe a b = true) (h2 : sLe b c = true) : sLe a c = true := by
  unfold sLe at *
  cases e : sLt c a with
  | false => rfl
  | true =>
    cases e1 : sLt b a with
    | true => rw [e1] at h1; cases h1
    | false =>
      cases e2 : sLt a b with
      | true => have := sLt_trans e e2; rw [this] at h2; cases h2
      | false => rw [sLt_tri e2 e1] at e; rw [e] at h2; cases h2
theorem sLe_total (a b : Str) : (sLe a b || sLe b a) = true := by
  unfold sLe
  cases e : sLt b a with
  | false => rfl
  | true =>
    cases e2 : sLt a b with
    | false => rfl
    | true => have := sLt_trans e e2; rw [sLt_irr] at this; cases this
theorem sLe_anti {a b : Str} (h1 : sLe a b = true) (h2 : sLe b a = true) : a = b := by
  unfold sLe at *
  exact sLt_tri (by simpa using h2) (by simpa using h1)
/-- two rows in order with the same items are one -/
theorem perm_sorted {α : Type} {le : α → α → Prop} (anti : ∀ a b, le a b → le b a → a = b) : ∀ {l m : List α}, l.Perm m → l.Pairwise le → m.Pairwise le → l = m
  | [], m, p, _, _ => by rw [List.nil_perm.mp p]
  | x :: l, [], p, _, _ => by have := p.length_eq; simp at this
  | x :: l, y :: m, p, h1, h2 => by
    have e : x = y := by
      have hx : x ∈ y :: m := p.mem_iff.mp List.mem_cons_self
      have hy : y ∈ x :: l := p.mem_iff.mpr List.mem_cons_self
      rcases List.mem_cons.mp hx with e | hx
      · exact e
      · rcases List.mem_cons.mp hy with e | hy
        · exact e.symm
        · exact anti _ _ (List.rel_of_pairwise_cons h1 hy) (List.rel_of_pairwise_cons h2 hx)
    subst e
    rw [perm_sorted anti ((List.perm_cons x).mp p) (List.pairwise_cons.mp h1).2 (List.pairwise_cons.mp h2).2]
def srt (xs : List Str) : List Str := xs.mergeSort sLe
def sortS (xs : List Str) : Option (List Str) := (grd (xs.length < 64)).bind fun _ => some (srt xs)
theorem srt_perm (xs : List Str) : (srt xs).Perm xs := List.mergeSort_perm _ _
theorem srt_sorted (xs : List Str) : (srt xs).Pairwise fun a b => sLe a b = true := List.pairwise_mergeSort sLe_trans sLe_total xs
theorem rising_pairwise : ∀ {p : Str} {l : List Str}, PyProof.Rows.risingS p l = true → (p :: l).Pairwise fun a b => sLe a b = true
  | p, [], _ => by simp
  | p, x :: r, h => by
    unfold PyProof.Rows.risingS at h
    rw [Bool.and_eq_true] at h
    have ih := rising_pairwise h.2
    have e : sLe p x = true := by
      unfold sLe sLt
      rw [← PyProof.Rows.ltCps_eq]
      exact h.1
    refine List.pairwise_cons.mpr ⟨fun y hy => ?_, ih⟩
    rcases List.mem_cons.mp hy with e2 | hy
    · rw [e2]; exact e
    · exact sLe_trans _ _ _ e (List.rel_of_pairwise_cons ih hy)
theorem srt_is {xs ys : List Str} (p : ys.Perm xs) (h : PyProof.Rows.sortedS ys = true) : ys = srt xs := by
  refine perm_sorted (le := fun a b => sLe a b = true) (fun a b => sLe_anti) (p.trans (srt_perm xs).symm) ?_ (srt_sorted xs)
  cases ys with
  | nil => exact .nil
  | cons y l => exact rising_pairwise h
section
variable {K : PySem.W.Frag} {σ σ' : St} {G G' M M1 M2 M3 : Hp} {ta tb te tc : TE} {P P1 P2 : VP} {d e : Dat} {ds es : List Dat} {D : Ends} {H : Hp} {u : TS}
theorem cr_sortedSK {X : Cx} (h : X.K = K := by rfl) : CallR X (.builtin "sorted") (rSortedS K) := h ▸ cr_sortedS
theorem dqAll_strs {G : Hp} : ∀ {xs : List Str} , (∀ x ∈ xs, sok x = true) → DqAll K G (xs.map V.str) (xs.map Dat.str)
  | [], _ => .nil
  | x :: xs, h => .cons (.str (h x List.mem_cons_self)) (dqAll_strs fun y hy => h y (List.mem_cons_of_mem _ hy))
theorem strs_sok {G : Hp} : ∀ {xs : List Str} {vs : List V}, DqAll K G vs (xs.map Dat.str) → ∀ x ∈ xs, sok x = true
  | [], _, _, x, hx => by simp at hx
  | y :: ys, _, .cons a b, x, hx => by
    rcases List.mem_cons.mp hx with e | hx
    · rw [e]; exact (dq_str a).2
    · exact strs_sok b x hx
theorem el_sortedS [Tb] {xs ys : List Str} (h : sortS xs = some ys) (ha : EvA (tCons ta tNil) σ G M M1 (conP (DD K (.list (xs.map Dat.str))) nilP)) : EvL K (tCB (rSortedS K) (tCons ta tNil)) σ G M M1 (ys.map Dat.str) := el_cb ha fun vs G0 H s k hx Q q => by
  obtain ⟨v, rfl, hv⟩ := one_of (R := nilP) hx
  obtain ⟨a, ws, rfl, h1, h2⟩ := dp_list hv
  obtain ⟨_, h3, h4⟩ := bs h
  cases h4
  have so := strs_sok h2
  rw [dpAll_strs h2] at h1
  refine ⟨a, xs, rfl, .inl (.inl (k.g _ _ h1)), grd_of h3, fun zs p pz sz hp => ?_⟩
  have e := srt_is pz sz
  subst e
  exact newL (Same.refl _) k (dqAll_strs fun x hx => so x ((srt_perm xs).mem_iff.mp hx)) q p hp
theorem popO_of {α : Type} {xs : List α} {i : Int} {r : α × List α} (h : popO xs i = some r) : (-(2 ^ 63) ≤ i ∧ i < 2 ^ 63) ∧ ∃ k, seqIndex? i xs.length = some k ∧ xs[k]? = some r.1 ∧ r.2 = xs.eraseIdx k := by
  obtain ⟨_, h1, h⟩ := bs h
  obtain ⟨k, h2, h⟩ := bs h
  obtain ⟨x, h3, h⟩ := bs h
  cases h
  exact ⟨grd_of h1, k, h2, h3, rfl⟩
/-- xs.pop(i), xs a list of one's own -/
theorem ev_popO [Tb] {β : Type} {e : β → Dat} {xs : List β} {i : Int} {r : β × List β} {p : Addr} {vs : List V} {k : Nat} (h : popO xs i = some r) (hk : seqIndex? i xs.length = some k) (hp0 : M p = some (.lst vs)) (hp : M1 p = some (.lst vs)) (hd : DqAll K G vs (xs.map e)) (ho : Ev ta σ G M M (OW p)) (ha : EvA (tCons tb tNil) σ G M M1 (conP (DD K (.int i)) nilP)) :
    Ev (tBM K "list" rPopAt ta (tCons tb tNil)) σ G M (upd M1 p (.lst (vs.eraseIdx k))) (DD K (e r.1)) := fun G0 H s kk Q q =>
  ho G0 H s kk _ fun x G1 H1 s1 k1 hx => by
    cases hx
    refine ⟨.inl ⟨rfl, _, .inl (.inl (k1.m _ _ hp0))⟩, ha G1 H1 (s.trans s1) k1 _ fun ys G2 H2 s2 k2 hv => ?_⟩
    obtain ⟨v, rfl, hw⟩ := one_of (R := nilP) hv
    cases hw
    obtain ⟨b, k', h1, h2, h3⟩ := popO_of h
    rw [hk] at h1
    cases h1
    obtain ⟨y, h4, h5⟩ := dpAll_get (i := k) (d := e r.1) hd (by rw [List.getElem?_map, h2]; rfl)
    refine ⟨p, vs, i, k, y, rfl, rfl, k2.m _ _ hp, b.1, b.2, by rw [dpAll_len hd, List.length_map]; exact hk, h4, ?_⟩
    exact q _ G2 _ (s1.trans s2) (k2.chg _ hp) (dp_up ((s.trans s1).trans s2) _ h5)
theorem map_erase {α β : Type} {f : α → β} : ∀ (xs : List α) (k : Nat), (xs.eraseIdx k).map f = (xs.map f).eraseIdx k
  | [], _ => rfl
  | _ :: _, 0 => rfl
  | x :: xs, k + 1 => by
    show f x :: (xs.eraseIdx k).map f = f x :: (xs.map f).eraseIdx k
    rw [map_erase xs k]
end
end Kx
end
section
set_option maxHeartbeats 2000000
namespace Kx
open PySem L2 PySem.Spec PyProof.Rows
/-! ### a dict filled by a comprehension: keys of either kind -/
theorem dictSet2 {X : Cx} {pins : List (Addr × Obj)} {σ : L2.St} {H H' : Hp} {s : Shared} {E : Value → Shared → Prop} {D : Addr} {y v : V} {u r : Value} {Q : Unit → Shared → Prop} (hu : X.A.units + 1 < cLine) (I : Inv X pins σ H s) (g : DPut H D y v H') (ry : RelV y u) (rv : RelV v r)
    (h : ∀ s', Inv X pins σ H' s' → Q () s') : wpAny (model X.prog X.w) X.A (dictSet D u r) Q E s := by
  rcases g with ⟨kvs, k, e, rfl, l, rfl⟩ | ⟨kvs, k, b, e, rfl, eb, l, rfl⟩
  · exact d_dictSet I e l ry rv h
  · cases (show u = Value.ref b from ry)
    obtain ⟨z, hd, xs, rel, dd⟩ := dt_of I.hok e
    have hz : xs.length ≤ sizeLine := by rw [← Paired.length rel]; exact z
    have hl : (putK kvs k v).length ≤ sizeLine := by have := length_putK kvs k v; omega
    refine wpAny_dictSet_heap (hsz := hz) (show (tupleKind (mixKind X.prog X.w)).room X.A from Nat.lt_of_succ_lt hu) (key_of I.hok eb) dd fun g1 dd1 hs => h _ ?_
    obtain ⟨q, es, ep, hq, h2, h3, h4, _, h5⟩ := dd1
    refine d_write I (by rw [e]; exact True.intro) hs ⟨q, hq⟩ ⟨hl, hd, _, (rel.put k eb rv).keeps fun c ys ec => ?_, q, es, ep, hq, h2, h3, h4, h5⟩
    rw [upd_ne (ne_of ec e (fun z => nomatch z))]
    exact ec
/-- the empty one, by its kind -/
def d0 : Bool → HO
  | true => .dT []
  | false => .dK []
def tDcB (kd : Bool) (wi : TI) (g : TG) (tt : TT) (tk tv : TE) (vs : List Nat) : TE := fun σ H Q => wi σ H fun J H1 => ∀ D, H1 D = none → ∃ W : Nat → Nat → Hp → Prop, (∃ m, W 0 m (upd H1 D (d0 kd))) ∧ ∀ i m H, W i m H →
  (J.stop i H ∧ Q (.ref D) H) ∨ (J.go i H ∧ ∃ Nx : Hp → Prop, (∀ H', Nx H' → ∃ m', m' < m ∧ W (i + 1) m' H') ∧ ∀ x H', J.yld i H x H' → g x (wipe σ vs) H' fun σ2 H2 => wipe σ2 vs = wipe σ vs ∧ tt σ2 H2 fun b H3 =>
    if b = true then tk σ2 H3 fun y H4 => tv σ2 H4 fun z H5 => ∃ H6, DPut H5 D y z H6 ∧ Nx H6 else Nx H3)
section
variable {X : Cx}
theorem pe_dcB (kd : Bool) {kx vx tg iter : Expr} {ifs : List Expr} {scope : Scope} {own : List (Str × Nat)} {pos : Pos} {wi : TI} {g : TG} {tt : TT} {tk tv : TE} (hu : X.A.units + 1 < cLine) (hc : X.calm = true) (hN : X.N.Nodup) (hi : PI X tg iter wi) (ok : BlkOk X.N X.env.scope scope own)
    (hg : ∀ (s : Shared) (H : Hp) (C : Addr) (cl : List (Str × Addr)) (fp : List Addr), PG (X.blk s H scope (compEnvC scope cl C X.env) fp) tg g) (ht : ∀ (s : Shared) (H : Hp) (C : Addr) (cl : List (Str × Addr)) (fp : List Addr), PTs (X.blk s H scope (compEnvC scope cl C X.env) fp) ifs tt)
    (hk : ∀ (s : Shared) (H : Hp) (C : Addr) (cl : List (Str × Addr)) (fp : List Addr), PE (X.blk s H scope (compEnvC scope cl C X.env) fp) kx tk)
    (he : ∀ (s : Shared) (H : Hp) (C : Addr) (cl : List (Str × Addr)) (fp : List Addr), PE (X.blk s H scope (compEnvC scope cl C X.env) fp) vx tv) (hs : ∀ x, foldedSetIterable iter X.env x = pure x := by intro _; rfl) :
    PE X (.DictComp kx vx [⟨tg, iter, ifs, 0⟩] scope pos) (tDcB kd wi g tt tk tv (own.map (·.2))) := by
  refine ⟨fun pins s σ H Q I hq => ?_⟩
  rw [arm_eval_DictComp]
  have cells : ∀ y ∈ scope.names, y.2 = .free → ∃ c, X.env.cells.lookup y.1 = some c := fun y hy e => (ok.free y hy e).elim (fun k => I.ok.has _ (.inl k)) (fun k => I.ok.has _ (.inr k))
  refine wpAny_comprehension_free (use := none) rfl hs (closure_ok cells) ok.kind (fun y hy e => by rw [ok.uniq y hy, e]) (thn (hi.run pins s σ H _ I hq) fun xv s1 hx => thn hx fun itv s2 h2 => ?_)
  obtain ⟨it, fp, tn, J, H2, rfl, I2, T, st2, f2, q⟩ := h2
  refine wpAny_newObj_type (newEnv_comp ?_)
  generalize hD : s2.heap.objs.size = D
  obtain ⟨W, ⟨m0, w0⟩, turn⟩ := q D (I2.hok.fresh (Nat.le_of_eq hD))
  generalize hs3 : ({ s2 with heap := s2.heap.push { cls := .type "dict", data := .dict #[] } } : Shared) = s3
  have h3 : s3.heap = s2.heap.push { cls := .type "dict", data := .dict #[] } := by rw [← hs3]
  have I3 : Inv X pins σ (upd H2 D (d0 kd)) s3 := by
    rw [← hs3]
    refine I2.laid (t' := s2.toks) (fun b o e => Heap.get?_push_of_some _ e) (Nat.le_of_eq hD) ?_
    rw [← hD]
    cases kd with
    | true => exact dt_empty s2.heap I2.big
    | false => exact dk_empty s2.heap I2.big
  have f3 : ∀ b ∈ fp, FpOk X pins (upd H2 D (d0 kd)) b ∧ b < s3.heap.objs.size := fun b hb => by
    obtain ⟨o, e, _⟩ := T.obj _ _ st2 b hb
    have lt := Heap.lt_size e
    refine ⟨⟨?_, (f2 b hb).2⟩, by rw [h3, Heap.size_push]; exact Nat.lt_succ_of_lt lt⟩
    rw [upd_ne (by rw [← hD]; exact Nat.ne_of_lt lt)]
    exact (f2 b hb).1
  have st3 : tn 0 s3.heap := T.keep _ _ _ st2 fun b _ o e => by rw [h3]; exact Heap.get?_push_of_some _ e
  have I4 := block_start I3 ok hN f3
  have pg := hg s3 (upd H2 D (d0 kd)) s3.heap.objs.size (cellsFrom (s3.heap.objs.size + 1) scope.names (cloFrom X.env.cells scope.names [])) fp
  have pt := ht s3 (upd H2 D (d0 kd)) s3.heap.objs.size (cellsFrom (s3.heap.objs.size + 1) scope.names (cloFrom X.env.cells scope.names [])) fp
  have pk := hk s3 (upd H2 D (d0 kd)) s3.heap.objs.size (cellsFrom (s3.heap.objs.size + 1) scope.names (cloFrom X.env.cells scope.names [])) fp
  have pe := he s3 (upd H2 D (d0 kd)) s3.heap.objs.size (cellsFrom (s3.heap.objs.size + 1) scope.names (cloFrom X.env.cells scope.names [])) fp
  show codeAny _ _ (.compStart (.DictComp kx vx [⟨tg, iter, ifs, 0⟩] scope pos) 0 (.ref it) (.ref D) (compEnvC scope (cellsFrom (s3.heap.objs.size + 1) scope.names (cloFrom X.env.cells scope.names [])) s3.heap.objs.size X.env)) (compPost (model X.prog X.w) X.A X.xe none (EP X pins σ Q) (.ref D) s3.heap.objs.size) { s3 with heap := pushCells (s3.heap.push { cls := .type "dict", data := .dict #[] }) scope.names }
  have nfp : ∀ b ∈ fp, (upd H2 D (d0 kd)) b = none := fun b hb => (f3 b hb).1.1
  generalize hce : compEnvC scope (cellsFrom (s3.heap.objs.size + 1) scope.names (cloFrom X.env.cells scope.names [])) s3.heap.objs.size X.env = ce at I4 pg pt pk pe ⊢
  have cL : ce.locals = s3.heap.objs.size := by subst hce; rfl
  generalize hH3 : upd H2 D (d0 kd) = H3 at I3 I4 pg pt pk pe w0 nfp f3
  generalize hs4 : ({ s3 with heap := pushCells (s3.heap.push { cls := .type "dict", data := .dict #[] }) scope.names } : Shared) = s4 at I4 ⊢
  have st4 : tn 0 s4.heap := T.keep _ _ _ st3 fun b _ o e => by rw [← hs4]; exact pushCells_keeps _ _ _ _ (Heap.get?_push_of_some _ e)
  have stat : ∀ {σ1 : L2.St} {H1 : Hp} {s' : Shared}, Inv (X.blk s3 H3 scope ce fp) [] σ1 H1 s' → (∀ b ∈ fp, H1 b = none) → ∀ b ∈ fp, FpOk (X.blk s3 H3 scope ce fp) [] H1 b := fun I1 hn b hb =>
    ⟨hn b hb, (I1.ok.exf b hb).1, I1.ok.exfs b hb, .inl hb, fun x c e => (I1.ok.exf b hb).2 x c e, fun p hp => absurd (show p ∈ ([] : List (Addr × Obj)) ++ [] from hp) (by simp)⟩
  have loop : codeAny (model X.prog X.w) X.A (.compLoop (.DictComp kx vx [⟨tg, iter, ifs, 0⟩] scope pos) 0 (.ref it) (.ref D) ce) (compPost (model X.prog X.w) X.A X.xe none (EP X pins σ Q) (.ref D) s3.heap.objs.size) s4 := by
    refine compLoop_anyD (fun n s' => ∃ i H1, Inv (X.blk s3 H3 scope ce fp) [] (wipe σ (own.map (·.2))) H1 s' ∧ tn i s'.heap ∧ (∀ b ∈ fp, H1 b = none) ∧ W i n H1) ?_ m0 ⟨0, H3, I4, st4, nfp, w0⟩
    rintro n s5 ⟨i, H5, I5, st5, n5, w5⟩
    rcases turn i n H5 w5 with ⟨stop, qq⟩ | ⟨go, Nx, hNx, step⟩
    · refine thnF (T.done (X.blk s3 H3 scope ce fp) rfl rfl rfl hc i [] s5 _ H5 (fun _ _ => False) I5 (stat I5 n5) st5 stop) fun r s6 ⟨hr, I6⟩ => ?_
      subst hr
      have I7 : Inv X pins σ H5 s6 := I3.call' (ch := fp) I6.os I6.base I6.hok I6.bare fun b hb => ⟨(f3 b hb).1.2.2.2.1, (f3 b hb).1.2.1, (f3 b hb).1.2.2.2.2.1, (f3 b hb).1.2.2.2.2.2⟩
      have nC : H5 s3.heap.objs.size = none := by
        have z : H5 ce.locals = none := I6.free
        rw [cL] at z
        exact z
      obtain ⟨m, hn, _⟩ := I6.loc
      have hn : s6.heap.Ns ce.locals m := hn
      rw [cL] at hn
      obtain ⟨a0, a1, a2, a3, a4, a5⟩ := I3.fpOk (Nat.le_refl _) nC
      exact ⟨m, hn, fun g2 sb => ⟨.ref D, H5, I7.turned (t' := s6.toks) (fun b o hb e => (sb.2 b hb).trans e) a0 a1 a3 a4 a5, rfl, qq⟩⟩
    · refine thnF (T.item (X.blk s3 H3 scope ce fp) rfl rfl rfl hc i [] s5 _ H5 (fun _ _ => False) I5 (stat I5 n5) st5 go) fun r s6 ⟨u, hr, h6⟩ => ?_
      subst hr
      refine thnF h6 fun _ s7 ⟨x, H7, I7, r7, y7, st7, n7⟩ => ?_
      refine thnF (pg.run _ s7 _ H7 x u _ (I7.pinned (stat I7 n7) (T.obj _ _ st7)) r7 (step x H7 y7)) fun _ s8 ⟨σ8, H8, I8, hw8, q8⟩ => ?_
      refine thnF (pt.run _ s8 σ8 H8 _ I8 q8) fun b s9 ⟨H9, I9, q9⟩ => ?_
      have fin : ∀ {s' : Shared} {H1 : Hp}, Inv (X.blk s3 H3 scope ce fp) ([] ++ pinsAt fp s7.heap) σ8 H1 s' → Nx H1 → ∃ m, m < n ∧ ∃ i H1, Inv (X.blk s3 H3 scope ce fp) [] (wipe σ (own.map (·.2))) H1 s' ∧ tn i s'.heap ∧ (∀ b ∈ fp, H1 b = none) ∧ W i m H1 := fun {s' H1} I1 nx => by
        obtain ⟨m1, hm, w1⟩ := hNx H1 nx
        have pin1 : ∀ b ∈ fp, ∀ o, s7.heap.get? b = some o → s'.heap.get? b = some o ∧ H1 b = none := fun b hb o e =>
          let z := I1.pin (b, o) (List.mem_append_right _ (List.mem_append_right _ (mem_pinsAt hb e)))
          ⟨z.1, z.2.1⟩
        refine ⟨m1, hm, i + 1, H1, (I1.unpinned (pins := [])).weak (by rw [← hw8, wipe_length]) (fun j v e => by rw [← hw8] at e; exact (wipe_some e).1), T.keep _ _ _ st7 fun b hb o e => (pin1 b hb o e).1, fun b hb => ?_, w1⟩
        obtain ⟨o, e, _⟩ := T.obj _ _ st7 b hb
        exact (pin1 b hb o e).2
      cases b with
      | false =>
        simp only [Bool.false_eq_true, if_false] at q9 ⊢
        exact fin I9 q9
      | true =>
        simp only [if_true] at q9 ⊢
        refine thnF (pk.run _ s9 σ8 H9 _ I9 q9) fun z s10 ⟨yk, H10, I10, r10, q10⟩ => ?_
        refine thnF (pe.run _ s10 σ8 H10 _ I10 q10) fun z2 s11 ⟨yv, H11, I11, r11, H6, put, nx⟩ => ?_
        exact dictSet2 (X := X.blk s3 H3 scope ce fp) hu I11 put r10 r11 fun s12 I12 => fin I12 nx
  exact codeAny_compStart_dict loop (T.self X.A 0 _ _ _ st4 loop)
end
end Kx
end
section
set_option maxHeartbeats 2000000
namespace Kx
open PySem L2 PySem.Spec PyProof.Rows
/-! ### dict(xs) of pairs: a tuple of pairs by texts; a list of pairs by tuples of texts -/
def mergeT (kvs more : List (List Key × V)) : List (List Key × V) := more.foldl (fun acc kv => putK acc kv.1 kv.2) kvs
theorem length_mergeT : ∀ (more kvs : List (List Key × V)), (mergeT kvs more).length ≤ kvs.length + more.length
  | [], kvs => by show kvs.length ≤ kvs.length + 0; omega
  | p :: r, kvs => by
    have h1 := length_mergeT r (putK kvs p.1 p.2)
    have h2 := length_putK kvs p.1 p.2
    show (mergeT (putK kvs p.1 p.2) r).length ≤ _
    rw [List.length_cons]; omega
theorem KT.mergeAll {H : Hp} : ∀ {more : List (List Key × V)} {rs : List (List Key × Addr × Value)} {kvs : List (List Key × V)} {xs : List (List Key × Addr × Value)}, L2.KT H more rs → L2.KT H kvs xs → L2.KT H (mergeT kvs more) (storedAllH xs rs) := by
  intro more rs kvs xs r
  induction r generalizing kvs xs with
  | nil => intro q; exact q
  | @cons p q ps qs h t ih =>
    intro r0
    obtain ⟨h1, h2, h3⟩ := h
    have e := L2.KT.put r0 p.1 h2 h3
    rw [h1] at e
    have e2 := ih e
    show L2.KT H (mergeT (putK kvs p.1 p.2) ps) (storedAllH (storedH xs q.1 q.2.1 q.2.2) qs)
    rw [h1]
    exact e2
section
variable {X : Cx} {K : PySem.W.Frag}
/-- pairs whose keys are tracked tuples -/
theorem pairsT_of {pins : List (Addr × Obj)} {σ : L2.St} {H : Hp} {s : Shared} (I : Inv X pins σ H s) : ∀ {ps : List Addr} {kvs : List (List Key × V)}, Paired (fun p kv => ∃ b, SqT X.K H p [.ref b, kv.2] ∧ H b = some (.tup (kv.1.map kV))) ps kvs →
    ∃ prs : List (List Key × Addr × Value), L2.KT H kvs prs ∧ prs.length = ps.length ∧ ∀ (j : Nat) (q : List Key × Addr × Value), prs[j]? = some q → ∃ b : Addr, ps[j]? = some b ∧ IsTup s.heap b #[.ref q.2.1, q.2.2]
  | _, _, .nil => ⟨[], .nil, rfl, fun j q e => by simp at e⟩
  | _, _, .cons (a := p) (b := kv) h t => by
    obtain ⟨prs, r, hl, hp⟩ := pairsT_of I t
    obtain ⟨b, h, hb⟩ := h
    obtain ⟨its, rv, ht, _⟩ := I.tuple h
    obtain ⟨u, y, ei, ru, ry⟩ := vals2 rv
    subst ei
    cases (show u = Value.ref b from ru)
    refine ⟨(kv.1, b, y) :: prs, .cons ⟨rfl, hb, ry⟩ r, by rw [List.length_cons, List.length_cons, hl], fun j q e => ?_⟩
    cases j with
    | zero =>
      have e' : (kv.1, b, y) = q := Option.some.inj e
      subst e'
      exact ⟨p, rfl, ht⟩
    | succ j =>
      obtain ⟨b', e1, e2⟩ := hp j q (by simpa using e)
      exact ⟨b', by simpa using e1, e2⟩
def rDictH (K : PySem.W.Frag) : List V → Hp → VK → Prop := fun xs H Q => ∃ (a : Addr) (ps : List Addr) (kvs : List (List Key × V)), xs = [.ref a] ∧ SqL K H a (ps.map V.ref) ∧ Paired (fun p kv => ∃ b, SqT K H p [.ref b, kv.2] ∧ H b = some (.tup (kv.1.map kV))) ps kvs ∧
    ∀ p, H p = none → Q (.ref p) (upd H p (.dT (mergeT [] kvs)))
theorem isTuple_of {h : Heap} {a : Addr} {its : Array Value} (x : IsTup h a its) : h.IsTuple a its := by
  obtain ⟨o, h1, h2, n, h3⟩ := x
  exact ⟨o, h1, h2, n, h3⟩
theorem cl_dictH (hu : X.A.units + 2 < cLine) (hcalm : X.calm = true) : CallR X (.type "dict") (rDictH X.K) := by
  intro pins s σ H xs us Q I r q
  obtain ⟨a, ps, kvs, ex, hq, hp, q⟩ := q
  subst ex
  obtain ⟨u, eu, rx⟩ := vals1 r
  subst eu
  cases rx
  obtain ⟨its, rv, pl, hz⟩ := I.list hq
  have ei := refs_at rv
  subst ei
  rw [List.length_map] at hz
  obtain ⟨prs, rel, hl, hpr⟩ := pairsT_of I hp
  obtain ⟨o, n, ho, hc, hd, hdat⟩ := pl
  let Ts : Nat → Addr := fun j => ps.getD j 0
  have hkeys : ∀ h' : Heap, (∀ b o, s.heap.get? b = some o → h'.get? b = some o) → ∀ {l : List (List Key × V)} {m : List (List Key × Addr × Value)}, L2.KT H l m → ∀ x ∈ m, (tupleKind (mixKind X.prog X.w)).is h' x.1 x.2.1 := by
    intro h' hk l m q
    induction q with
    | nil => intro x hx; exact nomatch hx
    | @cons p q ps qs hq t ih =>
      intro x hx
      rcases List.mem_cons.mp hx with e | hx
      · subst e
        obtain ⟨oo, its, nn, e1, e2, e3, e4⟩ := key_of (P := X.prog) (w := X.w) I.hok (by rw [← hq.1]; exact hq.2.1 : H x.2.1 = some (.tup (x.1.map kV)))
        exact ⟨oo, its, nn, hk _ _ e1, e2, e3, e4⟩
      · exact ih x hx
  refine PySem.call_dict_pairsH (knd := tupleKind (mixKind X.prog X.w)) (ps := prs) (PairArg.list a (ps.map Value.ref).toArray Ts (prs.map fun x => (Value.ref x.2.1, x.2.2))) (I.ok.hd hcalm) (show X.A.units + 2 < cLine from hu) ⟨⟨o, n, ho, hc, hd, hdat⟩, ?_, fun j k v e => ?_⟩ ⟨by rw [List.length_map], fun i key v hr => ?_⟩ (fun h' hk => ?_) (by rw [List.length_map, hl]; exact hz) fun h' tk dd k => ?_
  · simp [hl]
  · rw [List.getElem?_map] at e
    obtain ⟨x, hx, e⟩ := Option.map_eq_some_iff.mp e
    cases e
    obtain ⟨b, e1, e2⟩ := hpr j x hx
    have hb : Ts j = b := by show ps.getD j 0 = b; rw [List.getD_eq_getElem?_getD, e1]; rfl
    rw [hb]
    exact ⟨by simp [e1], .inl (isTuple_of e2)⟩
  · have hr : (prs.map fun x => (Value.ref x.2.1, x.2.2))[i]? = some (key, v) := hr
    rw [List.getElem?_map] at hr
    obtain ⟨x, hx, e⟩ := Option.map_eq_some_iff.mp hr
    cases e
    exact ⟨x.1, x.2.1, hx, rfl⟩
  · exact hkeys h' (fun b o e => hk b o (Nat.ne_of_lt (Heap.lt_size e)) (by simp) e) rel
  · have k : ∀ b o, s.heap.get? b = some o → h'.get? b = some o := fun b o e => k b o (by simp) e
    have hm : (s.heap.objs.size == sysModules) = false := beq_eq_false_iff_ne.mpr (Nat.ne_of_gt I.big)
    have hlen : (mergeT [] kvs).length ≤ sizeLine := by
      refine Nat.le_trans (length_mergeT kvs []) ?_
      rw [List.length_nil, Nat.zero_add, Paired.length rel, hl]
      exact hz
    have fr := I.hok.fresh (Nat.le_refl s.heap.objs.size)
    obtain ⟨oo, es, ep, h1, h2, h3, h4, _, h5⟩ := dd
    refine ⟨.ref s.heap.objs.size, upd H s.heap.objs.size (.dT (mergeT [] kvs)), I.laid (t' := tk) k (Nat.le_refl _) (show ObjOk X.prog X.w _ _ _ (.dT (mergeT [] kvs)) from ⟨hlen, hm, _, L2.KT.keeps (KT.mergeAll rel .nil) fun b ys e => ?_, oo, es, ep, h1, h2, h3, h4, h5⟩), rfl, q _ fr⟩
    rw [upd_ne (ne_of_none e fr)]
    exact e
def rDictT (K : PySem.W.Frag) : List V → Hp → VK → Prop := fun xs H Q => ∃ (a : Addr) (ps : List Addr) (kvs : List (Key × V)), xs = [.ref a] ∧ (TupG K H a (ps.map V.ref) ∨ SqL K H a (ps.map V.ref)) ∧ Paired (fun p kv => SqT K H p [kV kv.1, kv.2]) ps kvs ∧
    ∀ p, H p = none → Q (.ref p) (upd H p (.dK (mergeK [] kvs)))
theorem cl_dictT (hcalm : X.calm = true) : CallR X (.type "dict") (rDictT X.K) := by
  intro pins s σ H xs us Q I r q
  obtain ⟨a, ps, kvs, ex, hq | hq, hp, q⟩ := q
  rotate_left
  · exact call_dictP hcalm pins s σ H xs us Q I r ⟨a, ps, kvs, ex, hq, hp, q⟩
  subst ex
  obtain ⟨u, eu, rx⟩ := vals1 r
  subst eu
  cases rx
  obtain ⟨its, rv, _, hz⟩ := I.tuple hq.sq
  have ei := refs_at rv
  subst ei
  have ob : ∃ o n, s.heap.get? a = some o ∧ o.cls = .type "tuple" ∧ o.dict = none ∧ o.data = .seq (ps.map Value.ref).toArray n := by
    rcases hq with ⟨o, e, hd⟩ | ⟨o, its, n, e, hc, hd, h4, _, h6⟩
    · obtain ⟨e1, _, its, r1, o2, e2, hc, n, h3⟩ := I.hok a _ e
      rw [e1] at e2
      cases e2
      rw [refs_at r1] at h3
      exact ⟨o, n, e1, hc, hd, h3⟩
    · have e6 := refs_at h6
      exact ⟨o, n, I.kIn a o e, hc, hd, by rw [h4, ← e6]⟩
  rw [List.length_map] at hz
  obtain ⟨prs, rel, hl, hpr⟩ := pairs_of I hp
  let Ts : Nat → Addr := fun j => ps.getD j 0
  have ks : ∀ {l : List (Key × Value)}, (∀ (j : Nat) (q : Key × Value), l[j]? = some q → ∃ (b : Addr) (u : Value), IsTup s.heap b #[u, q.2] ∧ keyIs q.1 u = true) → True := fun _ => trivial
  -- the keys' values
  have hex : ∃ us : List Value, us.length = prs.length ∧ ∀ (j : Nat) (q : Key × Value), prs[j]? = some q → ∃ b u, ps[j]? = some b ∧ us[j]? = some u ∧ IsTup s.heap b #[u, q.2] ∧ keyIs q.1 u = true := by
    clear rel
    have : ∀ (prs : List (Key × Value)) (ps : List Addr), (∀ (j : Nat) (q : Key × Value), prs[j]? = some q → ∃ (b : Addr) (u : Value), ps[j]? = some b ∧ IsTup s.heap b #[u, q.2] ∧ keyIs q.1 u = true) → ∃ us : List Value, us.length = prs.length ∧ ∀ (j : Nat) (q : Key × Value), prs[j]? = some q → ∃ b u, ps[j]? = some b ∧ us[j]? = some u ∧ IsTup s.heap b #[u, q.2] ∧ keyIs q.1 u = true := by
      intro prs
      induction prs with
      | nil => intro ps _; exact ⟨[], rfl, fun j q e => by simp at e⟩
      | cons x prs ih =>
        intro ps h
        obtain ⟨us, hl, hu⟩ := ih ps.tail fun j q e => by
          obtain ⟨b, u, e1, e2⟩ := h (j + 1) q (by simpa using e)
          refine ⟨b, u, ?_, e2⟩
          cases ps with
          | nil => simp at e1
          | cons _ _ => simpa using e1
        obtain ⟨b, u, e1, e2⟩ := h 0 x rfl
        refine ⟨u :: us, by rw [List.length_cons, List.length_cons, hl], fun j q e => ?_⟩
        cases j with
        | zero =>
          cases (Option.some.inj e : x = q)
          exact ⟨b, u, e1, rfl, e2⟩
        | succ j =>
          obtain ⟨b', u', f1, f2, f3⟩ := hu j q (by simpa using e)
          refine ⟨b', u', ?_, by simpa using f2, f3⟩
          cases ps with
          | nil => simp at f1
          | cons _ _ => simpa using f1
    exact this prs ps hpr
  obtain ⟨us, hul, hus⟩ := hex
  obtain ⟨o, n, o1, o2, o3, o4⟩ := ob
  refine PySem.call_dict_pairs (knd := mixKind X.prog X.w) (kvs := prs) (PairArg.tuple a (ps.map Value.ref).toArray Ts (us.zip (prs.map (·.2)))) (I.ok.hd hcalm) ⟨⟨o, n, o1, o2, o3, o4⟩, ?_, fun j k v e => ?_⟩ ⟨by simp [hul], fun i key v hr => ?_⟩ (by simp [hul, hl]; exact hz) fun h' tk dd k => ?_
  · simp [hl, hul]
  · rw [List.getElem?_zip_eq_some] at e
    obtain ⟨e1, e2⟩ := e
    rw [List.getElem?_map] at e2
    obtain ⟨x, hx, e3⟩ := Option.map_eq_some_iff.mp e2
    obtain ⟨b, u, f1, f2, f3, f4⟩ := hus j x hx
    rw [e1] at f2
    cases f2
    subst e3
    have hb : Ts j = b := by show ps.getD j 0 = b; rw [List.getD_eq_getElem?_getD, f1]; rfl
    rw [hb]
    exact ⟨by simp [f1], .inl (isTuple_of f3)⟩
  · have hr : (us.zip (prs.map (·.2)))[i]? = some (key, v) := hr
    rw [List.getElem?_zip_eq_some] at hr
    obtain ⟨e1, e2⟩ := hr
    rw [List.getElem?_map] at e2
    obtain ⟨x, hx, e3⟩ := Option.map_eq_some_iff.mp e2
    obtain ⟨b, u, f1, f2, f3, f4⟩ := hus i x hx
    rw [e1] at f2
    cases f2
    subst e3
    exact ⟨x.1, hx, f4⟩
  · have k : ∀ b o, s.heap.get? b = some o → h'.get? b = some o := fun b o e => k b o (by simp) e
    have hm : (s.heap.objs.size == sysModules) = false := beq_eq_false_iff_ne.mpr (Nat.ne_of_gt I.big)
    have hlen : (mergeK [] kvs).length ≤ sizeLine := by
      refine Nat.le_trans (length_mergeK kvs []) ?_
      rw [List.length_nil, Nat.zero_add, rel.length, hl]
      exact hz
    exact ⟨.ref s.heap.objs.size, upd H s.heap.objs.size (.dK (mergeK [] kvs)), I.laid (t' := tk) k (Nat.le_refl _) (show ObjOk X.prog X.w _ _ _ (.dK (mergeK [] kvs)) from ⟨hlen, hm, merged [] prs, KV.merge rel .nil, dd⟩), rfl, q _ (I.hok.fresh (Nat.le_refl _))⟩
end
end Kx
end
section
set_option maxHeartbeats 2000000
namespace Kx
open PySem L2
/-! ### tables: the mirror of dicts -/
section
variable {α β : Type} [DecidableEq α]
def getA (xs : List (α × β)) (k : α) : Option β := (xs.find? fun x => decide (x.1 = k)).map (·.2)
def hasA (xs : List (α × β)) (k : α) : Bool := (getA xs k).isSome
def putA (xs : List (α × β)) (k : α) (v : β) : List (α × β) := if (xs.any fun x => decide (x.1 = k)) = true then xs.map (fun x => if x.1 = k then (x.1, v) else x) else xs ++ [(k, v)]
def mergeA (xs more : List (α × β)) : List (α × β) := more.foldl (fun acc x => putA acc x.1 x.2) xs
def dictO (xs : List (α × β)) : Option (List (α × β)) := do
  grd (xs.length ≤ 16777216)
  some (mergeA [] xs)
theorem getA_pos {p : α × β} {r : List (α × β)} {k : α} (e : p.1 = k) : getA (p :: r) k = some p.2 := by simp [getA, List.find?_cons, e]
theorem getA_neg {p : α × β} {r : List (α × β)} {k : α} (e : ¬ p.1 = k) : getA (p :: r) k = getA r k := by simp [getA, List.find?_cons, e]
theorem putA_len (xs : List (α × β)) (k : α) (v : β) : (putA xs k v).length ≤ xs.length + 1 := by
  unfold putA
  split
  · rw [List.length_map]; omega
  · rw [List.length_append, List.length_cons, List.length_nil]; omega
theorem putA_keys {p : α → Prop} {xs : List (α × β)} {k : α} {v : β} (h : ∀ x ∈ xs, p x.1) (hk : p k) : ∀ x ∈ putA xs k v, p x.1 := by
  unfold putA
  split
  · intro x hx
    obtain ⟨y, hy, e⟩ := List.mem_map.mp hx
    by_cases e2 : y.1 = k
    · rw [if_pos e2] at e; rw [← e]; exact h y hy
    · rw [if_neg e2] at e; rw [← e]; exact h y hy
  · intro x hx
    rcases List.mem_append.mp hx with hx | hx
    · exact h x hx
    · rw [List.mem_singleton.mp hx]; exact hk
end
/-! ### tables in the heap -/
section
variable {α β κ : Type} [DecidableEq α] [DecidableEq κ] {K : PySem.W.Frag} {G G' : Hp} {f : α → κ} {e : β → Dat}
inductive KRel (K : PySem.W.Frag) (G : Hp) (f : α → κ) (e : β → Dat) : List (κ × V) → List (α × β) → Prop
  | nil : KRel K G f e [] []
  | cons {k : α} {v : V} {b : β} {kvs : List (κ × V)} {xs : List (α × β)} : Dq K G v (e b) → KRel K G f e kvs xs → KRel K G f e ((f k, v) :: kvs) ((k, b) :: xs)
theorem KRel.up (s : Same G G') {kvs : List (κ × V)} {xs : List (α × β)} (h : KRel K G f e kvs xs) : KRel K G' f e kvs xs := by
  induction h with
  | nil => exact .nil
  | cons a _ ih => exact .cons (dp_up s _ a) ih
theorem KRel.len {kvs : List (κ × V)} {xs : List (α × β)} (h : KRel K G f e kvs xs) : kvs.length = xs.length := by
  induction h with
  | nil => rfl
  | cons a _ ih => rw [List.length_cons, List.length_cons, ih]
theorem KRel.of : ∀ {kvs : List (κ × V)} {xs : List (α × β)}, kvs.map (·.1) = (xs.map fun x => f x.1) → DqAll K G (kvs.map (·.2)) (xs.map fun x => e x.2) → KRel K G f e kvs xs
  | [], [], _, _ => .nil
  | [], _ :: _, h, _ => by cases h
  | _ :: _, [], h, _ => by cases h
  | (k, v) :: kvs, (a, b) :: xs, h, hd => by
    cases hd with
    | cons h1 h2 =>
      rw [List.map_cons, List.map_cons] at h
      obtain ⟨e1, e2⟩ := List.cons.inj h
      cases (show k = f a from e1)
      exact .cons h1 (KRel.of e2 h2)
theorem KRel.keys {kvs : List (κ × V)} {xs : List (α × β)} (h : KRel K G f e kvs xs) : kvs.map (·.1) = xs.map fun x => f x.1 := by
  induction h with
  | nil => rfl
  | cons a _ ih => rw [List.map_cons, List.map_cons, ih]
theorem KRel.vals {kvs : List (κ × V)} {xs : List (α × β)} (h : KRel K G f e kvs xs) : DqAll K G (kvs.map (·.2)) (xs.map fun x => e x.2) := by
  induction h with
  | nil => exact .nil
  | cons a _ ih => exact .cons a ih
theorem KRel.get (inj : ∀ a b : α, f a = f b → a = b) {kvs : List (κ × V)} {xs : List (α × β)} (h : KRel K G f e kvs xs) (k : α) : (getA xs k = none ∧ valV kvs (f k) = none) ∨ ∃ b v, getA xs k = some b ∧ valV kvs (f k) = some v ∧ Dq K G v (e b) := by
  induction h with
  | nil => exact .inl ⟨rfl, rfl⟩
  | @cons k' v b kvs xs a _ ih =>
    by_cases q : k' = k
    · subst q
      exact .inr ⟨b, v, getA_pos (p := (k', b)) rfl, valV_pos (p := (f k', v)) rfl, a⟩
    · rw [getA_neg (p := (k', b)) q, valV_neg (p := (f k', v)) fun z => q (inj _ _ z)]
      exact ih
theorem KRel.any (inj : ∀ a b : α, f a = f b → a = b) {kvs : List (κ × V)} {xs : List (α × β)} (h : KRel K G f e kvs xs) (k : α) : (kvs.any fun kv => decide (kv.1 = f k)) = xs.any fun x => decide (x.1 = k) := by
  induction h with
  | nil => rfl
  | @cons k' v b kvs xs a _ ih =>
    rw [List.any_cons, List.any_cons, ih]
    by_cases q : k' = k
    · subst q; simp
    · have q2 : ¬ f k' = f k := fun z => q (inj _ _ z)
      simp [q, q2]
theorem KRel.put (inj : ∀ a b : α, f a = f b → a = b) {kvs : List (κ × V)} {xs : List (α × β)} (h : KRel K G f e kvs xs) (k : α) {v : V} {b : β} (hv : Dq K G v (e b)) : KRel K G f e (putK kvs (f k) v) (putA xs k b) := by
  unfold putK putA
  rw [h.any inj k]
  split
  · next hh =>
    clear hh
    induction h with
    | nil => exact .nil
    | @cons k' v' b' kvs xs a _ ih =>
      rw [List.map_cons, List.map_cons]
      by_cases q : k' = k
      · subst q
        rw [if_pos rfl, if_pos rfl]
        exact .cons hv ih
      · rw [if_neg (show ¬ (f k', v').1 = f k from fun z => q (inj _ _ z)), if_neg (show ¬ (k', b').1 = k from q)]
        exact .cons a ih
  · next hh =>
    clear hh
    induction h with
    | nil => exact .cons hv .nil
    | cons a _ ih => exact .cons a ih
end
def kS (x : Str) : Key := .inr x
def kP (x : Str × Str) : List Key := [.inr x.1, .inr x.2]
theorem kS_inj (a b : Str) (h : kS a = kS b) : a = b := by unfold kS at h; exact Sum.inr.inj h
theorem kP_inj (a b : Str × Str) (h : kP a = kP b) : a = b := by
  unfold kP at h
  obtain ⟨h1, h2⟩ := List.cons.inj h
  obtain ⟨h2, _⟩ := List.cons.inj h2
  exact Prod.ext (Sum.inr.inj h1) (Sum.inr.inj h2)
def okS (x : Str) : Prop := sok x = true
def okP (x : Str × Str) : Prop := sok x.1 = true ∧ sok x.2 = true
/-- dicts by texts, by pairs of texts -/
def eDS {β : Type} (e : β → Dat) (xs : List (Str × β)) : Dat := .dK (xs.map fun x => kS x.1) (xs.map fun x => e x.2)
def eDP {β : Type} (e : β → Dat) (xs : List ((Str × Str) × β)) : Dat := .dT (xs.map fun x => kP x.1) (xs.map fun x => e x.2)
section
variable {β : Type} {K : PySem.W.Frag} {σ σ' : St} {G G' M M1 M2 M3 : Hp} {ta tb te tc tk tv : TE} {P P1 P2 : VP} {d : Dat} {ds es : List Dat} {D : Ends} {H : Hp} {u : TS} {e : β → Dat}
theorem dq_eDS {v : V} {xs : List (Str × β)} (h : Dq K G v (eDS e xs)) : ∃ a kvs, v = .ref a ∧ Rd G a (.dK kvs) ∧ KRel K G kS e kvs xs ∧ ∀ x ∈ xs, okS x.1 := by
  unfold eDS at h
  cases h with
  | dK a b c d' =>
    refine ⟨_, _, rfl, a, KRel.of b d', fun x hx => ?_⟩
    exact (List.all_eq_true.mp c) (kS x.1) (List.mem_map.mpr ⟨x, hx, rfl⟩)
theorem dq_eDP {v : V} {xs : List ((Str × Str) × β)} (h : Dq K G v (eDP e xs)) : ∃ a kvs, v = .ref a ∧ Rd G a (.dT kvs) ∧ KRel K G kP e kvs xs ∧ ∀ x ∈ xs, okP x.1 := by
  unfold eDP at h
  cases h with
  | dT a b c d' =>
    refine ⟨_, _, rfl, a, KRel.of b d', fun x hx => ?_⟩
    have := (List.all_eq_true.mp c) (kP x.1) (List.mem_map.mpr ⟨x, hx, rfl⟩)
    have h2 := List.all_eq_true.mp this
    exact ⟨h2 (.inr x.1.1) (by simp [kP]), h2 (.inr x.1.2) (by simp [kP])⟩
theorem eDS_of {a : Addr} {kvs : List (Key × V)} {xs : List (Str × β)} (h : G a = some (.dK kvs)) (r : KRel K G kS e kvs xs) (ok : ∀ x ∈ xs, okS x.1) : Dq K G (.ref a) (eDS e xs) :=
  .dK (.inl h) r.keys (List.all_eq_true.mpr fun k hk => by obtain ⟨x, hx, rfl⟩ := List.mem_map.mp hk; exact ok x hx) r.vals
theorem eDP_of {a : Addr} {kvs : List (List Key × V)} {xs : List ((Str × Str) × β)} (h : G a = some (.dT kvs)) (r : KRel K G kP e kvs xs) (ok : ∀ x ∈ xs, okP x.1) : Dq K G (.ref a) (eDP e xs) :=
  .dT (.inl h) r.keys (List.all_eq_true.mpr fun k hk => by
    obtain ⟨x, hx, rfl⟩ := List.mem_map.mp hk
    refine List.all_eq_true.mpr fun y hy => ?_
    have h2 := ok x hx
    unfold kP at hy
    rcases List.mem_cons.mp hy with rfl | hy
    · exact h2.1
    · rw [List.mem_singleton.mp hy]; exact h2.2) r.vals
/-- a key that is a pair of texts -/
theorem key_pair {v : V} {k : Str × Str} (h : Dq K G v (.rtup [.str k.1, .str k.2])) : ∃ b, v = .ref b ∧ G b = some (.tup ((kP k).map kV)) := by
  obtain ⟨b, vs, rfl, h1, h2⟩ := dp_rtup h
  cases h2 with
  | cons a h2 =>
    cases h2 with
    | cons b' h2 =>
      cases h2; cases a; cases b'
      exact ⟨b, rfl, h1⟩
/-! ### looking up -/
theorem dgS {a : Addr} {kvs : List (Key × V)} {k : Str} (h : Rd H a (.dK kvs)) : DGet H a (.str k) (valV kvs (kS k)) := .inl ⟨kvs, kS k, h, rfl, rfl⟩
theorem KRel.some' {α κ : Type} [DecidableEq α] [DecidableEq κ] {f : α → κ} (inj : ∀ a b : α, f a = f b → a = b) {kvs : List (κ × V)} {xs : List (α × β)} (h : KRel K G f e kvs xs) (k : α) : (valV kvs (f k)).isSome = hasA xs k := by
  unfold hasA
  rcases h.get inj k with ⟨z, z2⟩ | ⟨b', v, e1, e2, e3⟩
  · rw [z, z2]; rfl
  · rw [e1, e2]; rfl
theorem ev_dinS [Tb] {xs : List (Str × β)} {k : Str} (hk : Ev ta σ G M M1 (DD K (.str k))) (ho : Ev tb σ G M1 M2 (DD K (eDS e xs))) : Ev (tDIn ta tb) σ G M M2 (DD K (.bool (hasA xs k))) := fun G0 H s kk Q q =>
  hk G0 H s kk _ fun y G1 H1 s1 k1 hy => ho G1 H1 (s.trans s1) k1 _ fun x G2 H2 s2 k2 hx => by
    obtain ⟨a, kvs, rfl, h1, h2, _⟩ := dq_eDS hx
    cases hy
    refine ⟨a, _, rfl, dgS (rd_up k2.g h1), q _ G2 H2 (s1.trans s2) k2 ?_⟩
    rw [h2.some' kS_inj]
    exact .bl _
theorem ev_dninS [Tb] {xs : List (Str × β)} {k : Str} (hk : Ev ta σ G M M1 (DD K (.str k))) (ho : Ev tb σ G M1 M2 (DD K (eDS e xs))) : Ev (tDNotIn ta tb) σ G M M2 (DD K (.bool (!hasA xs k))) := fun G0 H s kk Q q =>
  hk G0 H s kk _ fun y G1 H1 s1 k1 hy => ho G1 H1 (s.trans s1) k1 _ fun x G2 H2 s2 k2 hx => by
    obtain ⟨a, kvs, rfl, h1, h2, _⟩ := dq_eDS hx
    cases hy
    refine ⟨a, _, rfl, dgS (rd_up k2.g h1), q _ G2 H2 (s1.trans s2) k2 ?_⟩
    rw [h2.some' kS_inj]
    exact .bl _
def getD' {α β : Type} [DecidableEq α] (xs : List (α × β)) (k : α) (z : β) : β := (getA xs k).getD z
theorem ev_dget2P [Tb] {xs : List ((Str × Str) × β)} {k : Str × Str} {z : β} (ho : Ev ta σ G M M1 (DD K (eDP e xs))) (hk : Ev tb σ G M1 M2 (DD K (.rtup [.str k.1, .str k.2]))) (hz : Ev tc σ G M2 M3 (DD K (e z))) : Ev (tDGet2 ta tb tc) σ G M M3 (DD K (e (getD' xs k z))) := fun G0 H s kk Q q =>
  ho G0 H s kk _ fun x G1 H1 s1 k1 hx => by
    obtain ⟨a, kvs, rfl, h1, h2, _⟩ := dq_eDP hx
    refine ⟨a, rfl, .inr ⟨kvs, rd_up k1.g h1⟩, hk G1 H1 (s.trans s1) k1 _ fun y G2 H2 s2 k2 hy => hz G2 H2 ((s.trans s1).trans s2) k2 _ fun w G3 H3 s3 k3 hw => ?_⟩
    obtain ⟨b, rfl, hb⟩ := key_pair hy
    have s13 := s2.trans s3
    refine ⟨_, .inr ⟨kvs, kP k, b, (rd_up (s13.trans k3.g) h1), rfl, (s3.trans k3.g) _ _ hb, rfl⟩, q _ G3 H3 (s1.trans s13) k3 ?_⟩
    unfold getD'
    rcases h2.get kP_inj k with ⟨z1, z2⟩ | ⟨b', v, e1, e2, e3⟩
    · rw [z1, z2]; exact hw
    · rw [e1, e2]; exact dp_up s13 _ e3
theorem ev_rtup [Tb] {t : TA} (ha : EvA t σ G M M1 (allP K ds)) (hl : ds.length ≤ sizeLine := by simp [sizeLine_eq]) : Ev (tTup t) σ G M M1 (DD K (.rtup ds)) := fun G0 H s k Q q =>
  ha G0 H s k _ fun xs G1 H1 s1 k1 hx => ⟨by rw [dpAll_len hx]; exact hl, newR s1 k1 hx q⟩
/-! ### a dict of one's own by texts -/
def KOk (K : PySem.W.Frag) (G : Hp) (e : β → Dat) (kvs : List (Key × V)) (xs : List (Str × β)) : Prop := KRel K G kS e kvs xs ∧ ∀ x ∈ xs, okS x.1
theorem KOk.up {kvs : List (Key × V)} {xs : List (Str × β)} (s : Same G G') (h : KOk K G e kvs xs) : KOk K G' e kvs xs := ⟨h.1.up s, h.2⟩
theorem KOk.nil : KOk K G e [] [] := ⟨.nil, fun x hx => nomatch hx⟩
/-- a new dict of one's own -/
def EvD [Tb] (K : PySem.W.Frag) (te : TE) (σ : St) (G M M' : Hp) (e : β → Dat) (xs : List (Str × β)) : Prop :=
  ∀ G0 H, Same G G0 → Ok G0 M H → ∀ Q : VK, (∀ p kvs G' H', Same G0 G' → Ok G' (upd M' p (.dK kvs)) H' → M' p = none → KOk K G' e kvs xs → Q (.ref p) H') → te σ H Q
theorem EvD.ev [Tb] {xs : List (Str × β)} (h : EvD K te σ G M M1 e xs) : Ev te σ G M M1 (DD K (eDS e xs)) := fun G0 H s k Q q =>
  h G0 H s k Q fun p kvs G' H' s' k' hp hd => q _ (upd G' p (.dK kvs)) H' (s'.trans (Same.new k'.gp)) (k'.frz hp) (eDS_of upd_same (hd.1.up (Same.new k'.gp)) hd.2)
theorem ed_new [Tb] : EvD K tDNewK σ G M M e [] := fun G0 H s k Q q p hp => q p [] G0 _ (Same.refl _) (k.newM _ hp) (Same.none k.m hp) KOk.nil
end
end Kx
end
section
set_option maxHeartbeats 2000000
namespace Kx
open PySem L2
theorem mergeA_take {α β : Type} [DecidableEq α] {ys : List (α × β)} {i : Nat} {y : α × β} (h : ys[i]? = some y) : mergeA [] (ys.take (i + 1)) = putA (mergeA [] (ys.take i)) y.1 y.2 := by
  unfold mergeA
  rw [List.take_add_one, h, List.foldl_append]
  rfl
theorem mergeA_len {α β : Type} [DecidableEq α] : ∀ (more xs : List (α × β)), (mergeA xs more).length ≤ xs.length + more.length
  | [], xs => by show xs.length ≤ xs.length + 0; omega
  | p :: r, xs => by
    have h1 := mergeA_len r (putA xs p.1 p.2)
    have h2 := putA_len xs p.1 p.2
    show (mergeA (putA xs p.1 p.2) r).length ≤ _
    rw [List.length_cons]; omega
theorem mergeA_keys {α β : Type} [DecidableEq α] {p : α → Prop} : ∀ (more xs : List (α × β)), (∀ x ∈ xs, p x.1) → (∀ x ∈ more, p x.1) → ∀ x ∈ mergeA xs more, p x.1
  | [], xs, h, _ => h
  | y :: r, xs, h, hm => mergeA_keys r (putA xs y.1 y.2) (putA_keys h (hm y List.mem_cons_self)) fun x hx => hm x (List.mem_cons_of_mem _ hx)
section
variable {β : Type} {K : PySem.W.Frag} {σ σ' : St} {G G' M M1 M2 M3 : Hp} {ta tb te tc tk tv : TE} {P P1 P2 : VP} {d : Dat} {ds es : List Dat} {D : Ends} {H : Hp} {u : TS} {e : β → Dat}
theorem KRel.mergeS : ∀ {more : List (Key × V)} {ms : List (Str × β)} {kvs : List (Key × V)} {xs : List (Str × β)}, KRel K G kS e more ms → KRel K G kS e kvs xs → KRel K G kS e (mergeK kvs more) (mergeA xs ms) := by
  intro more ms kvs xs r
  induction r generalizing kvs xs with
  | nil => intro q; exact q
  | cons a _ ih => intro q; exact ih (q.put kS_inj _ a)
theorem KRel.mergeP : ∀ {more : List (List Key × V)} {ms : List ((Str × Str) × β)} {kvs : List (List Key × V)} {xs : List ((Str × Str) × β)}, KRel K G kP e more ms → KRel K G kP e kvs xs → KRel K G kP e (mergeT kvs more) (mergeA xs ms) := by
  intro more ms kvs xs r
  induction r generalizing kvs xs with
  | nil => intro q; exact q
  | cons a _ ih => intro q; exact ih (q.put kP_inj _ a)
/-- pairs (text, thing) -/
theorem prsS_of : ∀ {xs : List (Str × β)} {vs : List V}, DqAll K G vs (xs.map (eP2 Dat.str e)) → ∃ ps kvs, vs = ps.map V.ref ∧ Paired (fun p kv => SqT K G p [kV kv.1, kv.2]) ps kvs ∧ KRel K G kS e kvs xs ∧ ∀ x ∈ xs, okS x.1
  | [], _, h => by cases h; exact ⟨[], [], rfl, .nil, .nil, fun x hx => nomatch hx⟩
  | x :: xs, _, h => by
    cases h with
    | cons a b =>
      obtain ⟨ps, kvs, rfl, h1, h2, h3⟩ := prsS_of b
      obtain ⟨p, ws, rfl, h4, h5⟩ := dp_tuple a
      cases h5 with
      | cons h5 h6 =>
        cases h6 with
        | cons h6 h7 =>
          cases h7
          have sk : okS x.1 := by cases h5 with | str h => exact h
          cases h5
          refine ⟨p :: ps, (kS x.1, _) :: kvs, rfl, .cons h4 h1, .cons h6 h2, fun y hy => ?_⟩
          rcases List.mem_cons.mp hy with rfl | hy
          · exact sk
          · exact h3 y hy
theorem paired_up {α γ : Type} {R S : α → γ → Prop} {xs : List α} {ys : List γ} (h : Paired R xs ys) (f : ∀ a b, R a b → S a b) : Paired S xs ys := by
  induction h with
  | nil => exact .nil
  | cons a _ ih => exact .cons (f _ _ a) ih
theorem ev_dictT [Tb] {xs ys : List (Str × β)} (hy : dictO xs = some ys) (ha : EvA (tCons ta tNil) σ G M M1 (conP (DD K (.tuple (xs.map (eP2 Dat.str e)))) nilP)) : Ev (tCB (rDictT K) (tCons ta tNil)) σ G M M1 (DD K (eDS e ys)) := ev_cb ha fun vs G0 H s k hx Q q => by
  obtain ⟨v, rfl, hv⟩ := one_of (R := nilP) hx
  obtain ⟨_, h1, h2⟩ := bs hy
  cases h2
  cases hv with
  | tup a b =>
    obtain ⟨ps, kvs, rfl, p1, p2, p3⟩ := prsS_of b
    refine ⟨_, ps, kvs, rfl, .inl (a.up k.g), paired_up p1 fun _ _ z => sqT_up k.g z, fun p hp => ?_⟩
    have gn := Same.none k.g hp
    have s1 : Same G0 (upd G0 p (.dK (mergeK [] kvs))) := Same.new gn
    exact q _ _ _ s1 (k.newG _ hp) (eDS_of upd_same (((KRel.mergeS p2 .nil).up s1)) (mergeA_keys xs [] (fun x hx => nomatch hx) p3))
/-- pairs (pair of texts, thing) -/
theorem prsP_of : ∀ {xs : List ((Str × Str) × β)} {vs : List V}, DqAll K G vs (xs.map (eP2 (eR2 Dat.str Dat.str) e)) → ∃ ps kvs, vs = ps.map V.ref ∧ Paired (fun p kv => ∃ b, SqT K G p [.ref b, kv.2] ∧ G b = some (.tup (kv.1.map kV))) ps kvs ∧ KRel K G kP e kvs xs ∧ ∀ x ∈ xs, okP x.1
  | [], _, h => by cases h; exact ⟨[], [], rfl, .nil, .nil, fun x hx => nomatch hx⟩
  | x :: xs, _, h => by
    cases h with
    | cons a b =>
      obtain ⟨ps, kvs, rfl, h1, h2, h3⟩ := prsP_of b
      obtain ⟨p, ws, rfl, h4, h5⟩ := dp_tuple a
      cases h5 with
      | cons h5 h6 =>
        cases h6 with
        | cons h6 h7 =>
          cases h7
          have h5' : Dq K G _ (.rtup [.str x.1.1, .str x.1.2]) := h5
          obtain ⟨c, rfl, hc⟩ := key_pair (k := x.1) h5'
          have sk : okP x.1 := by
            cases h5' with
            | rtup _ z =>
              cases z with
              | cons z1 z2 =>
                cases z2 with
                | cons z2 _ => exact ⟨(dq_str z1).2, (dq_str z2).2⟩
          refine ⟨p :: ps, (kP x.1, _) :: kvs, rfl, .cons ⟨c, h4, hc⟩ h1, .cons h6 h2, fun y hy => ?_⟩
          rcases List.mem_cons.mp hy with rfl | hy
          · exact sk
          · exact h3 y hy
/-- {(a, b): v for ..} -/
def dcO {α γ : Type} [DecidableEq γ] (f : α → Option (γ × β)) (xs : List α) : Option (List (γ × β)) := do
  let ys ← lcO f xs
  some (mergeA [] ys)
theorem ev_dcP [Tb] {α : Type} {ea : α → Dat} {f : α → Option ((Str × Str) × β)} {xs : List α} {zs : List ((Str × Str) × β)} {wi : TI} {g : TG} {vs : List Nat} (src : Src K wi σ G M M1 (xs.map ea)) (hf : dcO f xs = some zs)
    (hs : ∀ (x : α) (y : (Str × Str) × β) (Mx G1 : Hp) (v : V), f x = some y → Same M1 Mx → Same G G1 → Dq K G1 v (ea x) → Tg g v (wipe σ vs) G1 fun σ2 => wipe σ2 vs = wipe σ vs ∧ Ev tk σ2 G1 Mx Mx (DD K (.rtup [.str y.1.1, .str y.1.2])) ∧ Ev tv σ2 G1 Mx Mx (DD K (e y.2))) :
    Ev (tDcB true wi g tYes tk tv vs) σ G M M1 (DD K (eDP e zs)) := by
  intro G0 H s k Q q
  obtain ⟨ys, h0, h1⟩ := bs hf
  cases h1
  obtain ⟨_, h1, h2⟩ := bs h0
  have hl := mapO_len h2
  have hz := szl (grd_of h1)
  refine src G0 H s k _ fun J G1 H1 s1 k1 w => ?_
  obtain ⟨Y, Gd, w, hGd, hY⟩ := w
  intro D hD
  have mD : M1 D = none := Same.none k1.m hD
  rw [List.length_map] at w
  let Pv : Nat → Hp → Prop := fun i H => ∃ G2 kvs, Same G1 G2 ∧ Ok G2 (upd M1 D (.dT kvs)) H ∧ KRel K G2 kP e kvs (mergeA [] (ys.take i)) ∧ ∀ x ∈ mergeA [] (ys.take i), okP x.1
  refine ⟨fun i m H => m = xs.length - i ∧ i ≤ xs.length ∧ Pv i H, ⟨xs.length, by simp, Nat.zero_le _, G1, [], Same.refl _, k1.newM _ hD, .nil, fun x hx => nomatch hx⟩, ?_⟩
  rintro i m H2 ⟨rfl, hi, G2, kvs, s2, k2, r2, o2⟩
  have qg := hGd H2 (s2.trans k2.g)
  by_cases hlt : i < xs.length
  · refine .inr ⟨w.goes i H2 hlt qg, Pv (i + 1), fun H' p' => ⟨xs.length - (i + 1), by omega, rfl, hlt, p'⟩, fun x H3 y => ?_⟩
    have y := w.yields i H2 x H3 hlt qg y
    obtain ⟨a, ha⟩ : ∃ a, xs[i]? = some a := ⟨xs[i], List.getElem?_eq_getElem hlt⟩
    obtain ⟨b, hb⟩ : ∃ b, ys[i]? = some b := ⟨ys[i]'(by omega), List.getElem?_eq_getElem (by omega)⟩
    obtain ⟨G3, s3, k3, hx⟩ := hY i (ea a) H2 x H3 G2 _ (by rw [List.getElem?_map, ha]; rfl) s2 k2 y
    refine hs a b (upd M1 D (.dT kvs)) G3 x (mapO_get h2 ha hb) (Same.new mD) (((s.trans s1).trans s2).trans s3) hx H3 _ k3.g ?_
    rintro σ2 ⟨hw, ek, ev⟩
    refine ⟨hw, ?_⟩
    simp only [tYes, if_true]
    refine ek G3 H3 (Same.refl _) k3 _ fun kv G4 H4 s4 k4 hk => ev G4 H4 s4 k4 _ fun vv G5 H5 s5 k5 hv => ?_
    obtain ⟨c, rfl, hc⟩ := key_pair (k := b.1) hk
    have ok : okP b.1 := by
      cases hk with
      | rtup _ z =>
        cases z with
        | cons z1 z2 =>
          cases z2 with
          | cons z2 _ => exact ⟨(dq_str z1).2, (dq_str z2).2⟩
    have s25 := (s3.trans s4).trans s5
    have hlen : (mergeA [] (ys.take i)).length < sizeLine := by
      have := mergeA_len (ys.take i) []
      rw [List.length_nil, List.length_take] at this
      rw [sizeLine_eq] at hz ⊢
      omega
    refine ⟨_, DPut.t (k5.m _ _ upd_same) ((s5.trans k5.g) _ _ hc) (by rw [r2.len]; exact hlen), G5, putK kvs (kP b.1) vv, s2.trans s25, ?_, ?_⟩
    · have := k5.chg (p := D) (u := .dT kvs) (.dT (putK kvs (kP b.1) vv)) upd_same
      rw [upd_upd] at this
      exact this
    · rw [mergeA_take hb]
      exact ⟨(r2.up s25).put kP_inj _ hv, putA_keys o2 ok⟩
  · have e : i = xs.length := by omega
    subst e
    refine .inl ⟨w.stops H2 qg, ?_⟩
    rw [← hl, List.take_length] at r2 o2
    exact q _ (upd G2 D (.dT kvs)) H2 ((s1.trans s2).trans (Same.new k2.gp)) (k2.frz mD) (eDP_of upd_same (r2.up (Same.new k2.gp)) o2)
end
end Kx
end
section
set_option maxHeartbeats 2000000
namespace Kx
open PySem L2
/-! ### instances -/
def fldIx : List Str → Str → Option Nat
  | [], _ => none
  | n :: ns, f => if n = f then some 0 else (fldIx ns f).map (· + 1)
theorem fldIx_lookup {f : Str} : ∀ {fs : List (Str × V)} {i : Nat}, fldIx (fs.map (·.1)) f = some i → fs.lookup f = (fs.map (·.2))[i]?
  | [], _, h => by cases h
  | (n, v) :: fs, i, h => by
    rw [List.map_cons] at h
    unfold fldIx at h
    rw [List.lookup_cons]
    by_cases e : n = f
    · rw [if_pos e] at h
      cases h
      rw [show (f == n) = true from beq_iff_eq.mpr e.symm]
      rfl
    · rw [if_neg e] at h
      obtain ⟨j, hj, rfl⟩ := Option.map_eq_some_iff.mp h
      rw [show (f == n) = false from beq_eq_false_iff_ne.mpr fun z => e z.symm]
      exact fldIx_lookup hj
theorem fldIx_none {f : Str} : ∀ {fs : List (Str × V)}, fldIx (fs.map (·.1)) f = none → fs.lookup f = none ∧ ∀ v, putF f v fs = fs ++ [(f, v)]
  | [], _ => ⟨rfl, fun _ => rfl⟩
  | (n, v) :: fs, h => by
    rw [List.map_cons] at h
    unfold fldIx at h
    by_cases e : n = f
    · rw [if_pos e] at h
      cases h
    · rw [if_neg e] at h
      obtain ⟨h1, h2⟩ := fldIx_none (Option.map_eq_none_iff.mp h)
      refine ⟨?_, fun w => ?_⟩
      · rw [List.lookup_cons, show (f == n) = false from beq_eq_false_iff_ne.mpr fun z => e z.symm]
        exact h1
      · unfold putF
        rw [if_neg e, h2 w]
        rfl
section
variable {K : PySem.W.Frag} {σ σ' : St} {G G' M M1 M2 M3 : Hp} {ta tb te tc : TE} {P P1 P2 : VP} {d : Dat} {ds es : List Dat} {D : Ends} {H : Hp} {u : TS} {C : Addr} {cn : Str} {ns : List Str}
theorem dq_ins {v : V} (h : Dq K G v (.ins cn ns ds)) : ∃ a dx fs, v = .ref a ∧ G a = some (.ins (clsAt K cn) dx fs) ∧ fs.map (·.1) = ns ∧ DqAll K G (fs.map (·.2)) ds := by
  cases h with
  | ins a b c => exact ⟨_, _, _, rfl, a, b, c⟩
theorem ev_fld [Tb] {f : Str} {i : Nat} (c : Cls K (clsAt K cn)) (n : NoAttr K (clsAt K cn) f) (hl : fldIx ns f = some i) (hd : ds[i]? = some d) (h : Ev te σ G M M1 (DD K (.ins cn ns ds))) : Ev (tFld K te f) σ G M M1 (DD K d) := fun G0 H s k Q q =>
  h G0 H s k _ fun x G1 H1 s1 k1 hx => by
    obtain ⟨a, dx, fs, rfl, h1, h2, h3⟩ := dq_ins hx
    subst h2
    obtain ⟨v, h4, h5⟩ := dpAll_get h3 hd
    exact ⟨a, clsAt K cn, dx, fs, v, rfl, k1.g _ _ h1, c, n, (fldIx_lookup hl).trans h4, q v G1 H1 s1 k1 h5⟩
/-- o.m(..) -/
theorem ev_meth [Tb] {α ρ : Type} {args : α → List V → Hp → Prop} {m : α → Option ρ} {res : ρ → VP} {E : XK} {t : TA} {a : α} {r : ρ} {R : List V → Hp → Prop} {f : Str} (hf : fldIx ns f = none) (hA : args a = conP (DD K (.ins cn ns ds)) R) (hm : m a = some r) (ho : Ev te σ G M M1 (DD K (.ins cn ns ds))) (ha : EvA t σ G M1 M2 R) : Ev (tMeth (clsAt K cn) f (spP args m res) [] E te t) σ G M M2 (res r) := fun G0 H s k Q q =>
  ho G0 H s k _ fun x G1 H1 s1 k1 hx => by
    obtain ⟨b, dx, fs, rfl, h1, h2, h3⟩ := dq_ins hx
    subst h2
    refine ⟨b, dx, fs, rfl, k1.g _ _ h1, (fldIx_none hf).1, ha G1 H1 (s.trans s1) k1 _ fun vs G2 H2 s2 k2 hv => ?_⟩
    rw [List.append_nil]
    exact ⟨G2, M2, a, r, k2, by rw [hA]; exact ⟨_, _, rfl, dp_up s2 _ hx, hv⟩, hm, fun v G3 H3 s3 k3 hr => q v G3 H3 ((s1.trans s2).trans s3) k3 hr⟩
/-- the promise of __init__: the object that is being made may be changed, then has these fields -/
def spI [Tb] {α ρ : Type} (K : PySem.W.Frag) (C : Addr) (ns : List Str) (fl : ρ → List Dat) (args : α → List V → Hp → Prop) (m : α → Option ρ) : Sp := fun vs H Q _ =>
  ∃ (G M : Hp) (x dx : Addr) (ws : List V) (a : α) (r : ρ), vs = .ref x :: ws ∧ Ok G (upd M x (.ins C dx [])) H ∧ M x = none ∧ args a ws G ∧ m a = some r ∧
    ∀ fs G' H', Same G G' → Ok G' (upd M x (.ins C dx fs)) H' → fs.map (·.1) = ns → DqAll K G' (fs.map (·.2)) (fl r) → Q .non H'
theorem ev_make [Tb] {α ρ : Type} {fl : ρ → List Dat} {args : α → List V → Hp → Prop} {m : α → Option ρ} {E : XK} {t : TA} {a : α} {r : ρ} (hm : m a = some r) (ha : EvA t σ G M M1 (args a)) : Ev (tMake (clsAt K cn) (spI K (clsAt K cn) ns fl args m) [] E t) σ G M M1 (DD K (.ins cn ns (fl r))) := fun G0 H s k Q q =>
  ha G0 H s k _ fun vs G1 H1 s1 k1 hv x dx hx hdx hne => by
    rw [List.append_nil]
    have h2 : Ok G1 M1 (upd H1 dx (.own x)) := ⟨k1.g.trans (Same.new hdx), k1.m.trans (Same.new hdx), k1.d, k1.mu, tb_new k1.tb hdx⟩
    have hx2 : (upd H1 dx (.own x)) x = none := by rw [upd_ne (fun z => hne z.symm)]; exact hx
    refine ⟨G1, M1, x, dx, vs, a, r, rfl, h2.newM _ hx2, Same.none k1.m hx, hv, hm, fun fs G2 H2 s2 k2 e1 e2 => ⟨rfl, ?_⟩⟩
    exact q _ (upd G2 x (.ins (clsAt K cn) dx fs)) H2 ((s1.trans s2).trans (Same.new k2.gp)) (k2.frz (Same.none k1.m hx)) (.ins upd_same e1 (dpAll_up (Same.new k2.gp) _ e2))
/-- self.f = e, f a new field -/
theorem q_fld [Tb] {f : Str} {x dx : Addr} {fs : List (Str × V)} {M0 : Hp} (c : Cls K C) (n : NoAttr K C f) (he : Ev te σ G (upd M0 x (.ins C dx fs)) (upd M0 x (.ins C dx fs)) (DD K d)) (ho : Ev ta σ G (upd M0 x (.ins C dx fs)) (upd M0 x (.ins C dx fs)) (OW x)) (hk : fs.map (·.1) = ns) (hl : fldIx ns f = none) (hz : ns.length < 1000) (ok : Ok G (upd M0 x (.ins C dx fs)) H)
    (k : ∀ v G' H', Same G G' → Ok G' (upd M0 x (.ins C dx (fs ++ [(f, v)]))) H' → Dq K G' v d → u D σ H') : tSeq (sFld K ta te f) u D σ H :=
  he G H (Same.refl _) ok _ fun v G1 H1 s1 k1 hv => ho G1 H1 s1 k1 _ fun y G2 H2 s2 k2 hy => by
    cases hy
    subst hk
    refine ⟨x, C, dx, fs, rfl, k2.m _ _ upd_same, c, n, by rw [List.length_map] at hz; exact hz, ?_⟩
    rw [(fldIx_none hl).2 v]
    have := k2.chg (p := x) (u := .ins C dx fs) (.ins C dx (fs ++ [(f, v)])) upd_same
    rw [upd_upd] at this
    exact k v G2 _ (s1.trans s2) this (dp_up s2 _ hv)
/-- isinstance(x, C), C the class of x -/
abbrev CLX (C : Addr) : VP := fun v _ => v = .ref C
end
/-! ### a def with one default -/
structure FunT (K : PySem.W.Frag) (x qual : Str) (st : Stmt) (E f : Addr) (fd : FuncData) : Prop where
  ex : FunD K x qual (defArgs st) (defBody st) (defScope st) [.ref E] [] f fd
theorem funT_mk {K : PySem.W.Frag} {x qual : Str} {st : Stmt} {f T E : Addr} {oc cT : Value} {od an dT : Option Addr} {osl slT : Array (Option Value)} {kV doc pm cdv ct : Value} {nT : Nat} (l : K.lookup f = some ⟨oc, od, .func (PySem.W.fnOf x qual (defArgs st) (defBody st) (defScope st) (.ref T) kV doc pm an cdv ct), osl⟩)
    (lT : K.lookup T = some ⟨cT, dT, .seq #[.ref E] nT, slT⟩) (c : PySem.W.codeIn K cdv qual = true) (k : PySem.W.keepIn K (.ref f) = true) : FunT K x qual st E f (PySem.W.fnOf x qual (defArgs st) (defBody st) (defScope st) (.ref T) kV doc pm an cdv ct) :=
  ⟨⟨⟨oc, od, _, kV, doc, pm, an, cdv, ct, osl, rfl, l, c, .inr ⟨by simp, T, _, [.ref E], nT, rfl, lT, rfl, .cons rfl .nil⟩, .inl rfl⟩, k⟩⟩
end Kx
end
section
set_option maxHeartbeats 2000000
namespace Kx
open PySem L2 PySem.Spec PyProof.Rows
end Kx
end
section
set_option maxHeartbeats 2000000
namespace PyProof.Rows
open PySem PySem.Spec
section
variable {prog : Program} {w : World} {A : Around} {E : Value → Shared → Prop} {s : Shared}
theorem collect_tup {l : Addr} {vs : List Value} {Q : List Value → Shared → Prop} (hl : IsTup s.heap l vs.toArray)
    (h : Q vs { s with heap := (s.heap.push (seqObj "list" #[] 0)).update s.heap.objs.size (Obj.mapSeq (· ++ vs.toArray)) }) (hsz : vs.length ≤ sizeLine := by size_fits) :
    wpAny (model prog w) A (collect (.ref l)) Q E s := by
  obtain ⟨o, ho, hc, n, hd⟩ := id hl
  unfold collect
  refine wpAny_bind (wpAny_runValue (codeAny_builtin entry_proto_collect' ?_))
  show wpAny _ _ (do again (.builtin "list.__iadd__" ⟨[← newList [], .ref l], []⟩)) _ _ s
  refine wpAny_bind (wpAny_newList (wpAny_pure ⟨Code.quiet_builtin _ (by decide +kernel), codeAny_builtin entry_list_iadd' ?_⟩))
  show wpAny _ _ (Builtin.List.listExtendWith (.ref s.heap.objs.size) (.ref l) (.ref s.heap.objs.size)) _ _ { s with heap := s.heap.push (seqObj "list" #[] 0) }
  unfold Builtin.List.listExtendWith
  have ho' : (s.heap.push (seqObj "list" #[] 0)).get? l = some o := Heap.get?_push_of_some _ ho
  refine wpAny_bind (wpAny_typeOf (T := "tuple") ⟨o, ho', hc⟩ ?_)
  have ht : (Value.type "tuple" == Value.type "tuple") = true := by rfl
  rw [if_pos (by rw [ht]; simp)]
  refine wpAny_bind (listItems_at ho' hd ?_)
  refine wpAny_bind (listItems_at (xs := #[]) (n := 0) (Heap.get?_push_size _ rfl) rfl ?_)
  rw [if_neg (by simp)]
  refine wpAny_bind (listUpdate_at (xs := #[]) (n := 0) (Heap.get?_push_size _ rfl) rfl ?_ (Nat.zero_le _) (by show (#[] ++ vs.toArray).size ≤ sizeLine + 1; simp only [Array.size_append, List.size_toArray, List.length_nil]; omega))
  refine wpAny_pure ?_
  show wpAny (model prog w) A (do
      let o ← load s.heap.objs.size
      match o.data with
      | .seq xs _ => pure xs.toList
      | _ => unsupported "internal:collect") Q E { s with heap := (s.heap.push (seqObj "list" #[] 0)).update s.heap.objs.size (Obj.mapSeq (· ++ vs.toArray)) }
  refine wpAny_bind (wpAny_load (get?_update_seq (Heap.get?_push_size _ rfl) _) ?_)
  show wpAny _ _ (pure ((#[] : Array Value) ++ vs.toArray).toList) Q E _
  rw [show ((#[] : Array Value) ++ vs.toArray).toList = vs by simp]
  exact wpAny_pure h
end
end PyProof.Rows
namespace Kx
open PySem L2 PySem.Spec
section
variable {X : Cx} {K : PySem.W.Frag}
/-! order of data -/
def rLeD (K : PySem.W.Frag) : R2 := fun x y H Q => ∃ d e, Dp K H x d ∧ Dp K H y e ∧ PySem.W.alike d e = true ∧ d ≠ .none ∧ min d.depth e.depth ≤ 64 ∧ Q (.bl (!PySem.W.dataLt e d)) H
theorem op_leD (hu : X.A.units + 64 < cLine) (hK : X.K = K := by rfl) : OpR X (compareOp .LtE) (rLeD K) := by
  subst hK
  intro pins s σ H x y v u Q I rx ry h
  obtain ⟨d, e, hd, he, al, hn, hm, q⟩ := h
  obtain ⟨as, r1⟩ := Dp.reads I d x v hd rx
  obtain ⟨bs, r2⟩ := Dp.reads I e y u he ry
  exact PySem.W.le_data r1 r2 al hn (by omega) ⟨.bl _, H, I, rfl, q⟩
end
section
variable {β : Type} {K : PySem.W.Frag} {σ σ' : L2.St} {G G' M M1 M2 M3 : Hp} {ta tb te tc : TE} {P P1 P2 : VP} {d : Dat} {ds es : List Dat} {e : β → Dat}
/-- pairs of texts in their order -/
def ltP (a b : Str × Str) : Bool := if a.1 = b.1 then sLt a.2 b.2 else sLt a.1 b.1
theorem lex_str (a b : Str) : PyProof.Rows.lexLt PyProof.Rows.itemOrd [Sum.inr a.cps.toList] [Sum.inr b.cps.toList] = sLt a b := by
  have := PySem.W.dataLt_str a b
  unfold PySem.W.dataLt at this
  simp only [PySem.W.keyToks] at this
  exact this
theorem dataLt_pair (a b : Str × Str) : PySem.W.dataLt (.tuple [.str a.1, .str a.2]) (.tuple [.str b.1, .str b.2]) = ltP a b := by
  rw [PySem.W.dataLt_tuple]
  simp only [PySem.W.keyToksAll, PySem.W.keyToks, List.cons_append, List.nil_append]
  rw [PyProof.Rows.lex_self]
  unfold ltP
  by_cases h1 : a.1 = b.1
  · rw [if_pos h1, h1, PyProof.Rows.lex_self, PyProof.Rows.lex_self]
    by_cases h2 : a.2 = b.2
    · rw [h2, PyProof.Rows.lex_self, PyProof.Rows.lex_self, sLt_irr]
      rfl
    · rw [PySem.W.lex_atom (fun z => h2 (str_ext (Sum.inr.inj z))), lex_str]
  · rw [if_neg h1, PySem.W.lex_atom (fun z => h1 (str_ext (Sum.inr.inj z))), lex_str]
theorem ev_leP [Tb] {a b : Str × Str} (ha : Ev ta σ G M M1 (DD K (.tuple [.str a.1, .str a.2]))) (hb : Ev tb σ G M1 M2 (DD K (.tuple [.str b.1, .str b.2]))) : Ev (tOp (rLeD K) ta tb) σ G M M2 (DD K (.bool (!ltP b a))) := ev_op mo_dd ha hb fun x y G0 H s k hx hy Q q => by
  have e : ∀ c : Str × Str, toPy (.tuple [.str c.1, .str c.2]) = .tuple [.str c.1, .str c.2] := fun c => by rw [toPy_tuple]; simp [toPy]
  have p : ∀ c : Str × Str, pur (.tuple [.str c.1, .str c.2]) = true := fun c => by simp [pur, purs]
  have h1 := dq_dp _ (p a) (dp_up k.g _ hx)
  have h2 := dq_dp _ (p b) (dp_up k.g _ hy)
  rw [e] at h1 h2
  refine ⟨_, _, h1, h2, by simp [PySem.W.alike, PySem.W.alikeAll], by simp, by simp [PyData.depth, PyData.depthAll], ?_⟩
  rw [dataLt_pair]
  exact q _ G0 H (Same.refl _) k (.bl _)
end
end Kx
end
section
set_option maxHeartbeats 2000000
namespace Kx
open PySem L2
section
variable {K : PySem.W.Frag} {σ σ' : St} {G G' M M1 M2 M3 : Hp} {ta tb te tc : TE} {P P1 P2 : VP} {d : Dat} {ds es : List Dat} {C : Addr} {cn : Str} {ns : List Str}
theorem mo_clx : Mo (CLX C) := fun _ _ _ _ h => h
theorem ev_clx [Tb] : Ev (tC (.ref C)) σ G M M (CLX C) := fun G0 H _ k Q q => q _ G0 H (Same.refl _) k rfl
/-- isinstance(x, C), x an instance of a class of one's own -/
theorem ev_isiX [Tb] {C' : Addr} {b : Bool} (c : ClsOk K (clsAt K cn)) (hb : PySem.W.kitOne K (.ref (clsAt K cn)) (.ref C') = some b) (ha : EvA (tCons ta (tCons tb tNil)) σ G M M1 (conP (DD K (.ins cn ns ds)) (conP (CLX C') nilP))) : Ev (tCB (rIsi K) (tCons ta (tCons tb tNil))) σ G M M1 (DD K (.bool b)) := ev_cb ha fun xs G0 H s k hx Q q => by
  obtain ⟨v, w, rfl, hv, hw⟩ := two_of hx
  cases hw
  exact ⟨v, _, _, _, b, rfl, .own C', tyx_of k.g (fun C1 n1 x1 e => by cases e; exact c) (fun _ _ e => by cases e) hv, hb, q _ G0 H (Same.refl _) k (.bl _)⟩
/-! ### comprehensions with two fors -/
end
end Kx
end
section
set_option maxHeartbeats 2000000
namespace Kx
open PySem L2
/-- a text's signs -/
def signs (z : Str) : List Str := z.cps.toList.map fun c => ⟨#[c]⟩
theorem signs_map {z : Str} : (z.cps.toList.map fun c => Dat.str ⟨#[c]⟩) = (signs z).map Dat.str := by
  unfold signs
  rw [List.map_map]
  rfl
section
variable {X : Cx} {K : PySem.W.Frag}
theorem pe_fldK {e : Expr} {ta : TE} {f : Str} {pos : Pos} (he : PE X e ta) (hb : attributeBase e f X.env (eval e X.env) = eval e X.env := by rfl) (h : X.K = K := by rfl) : PE X (.Attribute e f pos) (tFld K ta f) := h ▸ pe_fld he hb
theorem cl_dictTK (hcalm : X.calm = true) (h : X.K = K := by rfl) : CallR X (.type "dict") (rDictT K) := h ▸ cl_dictT hcalm
theorem cl_dictHK (hu : X.A.units + 64 < cLine) (hcalm : X.calm = true) (h : X.K = K := by rfl) : CallR X (.type "dict") (rDictH K) := h ▸ cl_dictH (by omega) hcalm
end
section
variable {β : Type} {K : PySem.W.Frag} {σ σ' : St} {G G' M M1 M2 M3 : Hp} {ta tb te tc : TE} {P P1 P2 : VP} {d : Dat} {ds es : List Dat} {D : Ends} {H : Hp} {u : TS} {e : β → Dat}
/-- what is one's own stands still from here on -/
theorem k_frz [Tb] {M0 : Hp} {p : Addr} {o : HO} (ok : Ok G M H) (hp : M p = some o) (h0 : M0 p = none) (hB : Same M0 M) (k : ∀ G', Same G G' → G' p = some o → Ok G' M0 H → u D σ H) : u D σ H :=
  k (upd G p o) (Same.new (ok.d _ _ hp)) upd_same (ok.giveL hp h0 hB)
end
end Kx
end
section
set_option maxHeartbeats 2000000
namespace Kx
open PySem L2
/-- all places are told: the default fills nothing -/
theorem FunT.binds3 {K : PySem.W.Frag} {x qual : Str} {st : Stmt} {E0 f : Addr} {fd : FuncData} {ps : List Str} (F : FunT K x qual st E0 f fd)
    (h : ∀ (T : Addr) (kV doc pm : Value) (an : Option Addr) (cdv ct : Value) (us its : List Value), us.length = ps.length → its.length = 1 →
      ∃ k, bindArgs (PySem.W.fnOf x qual (defArgs st) (defBody st) (defScope st) (.ref T) kV doc pm an cdv ct) ⟨us, []⟩ = seqItems? (.ref T) >>= k ∧ k (some its.toArray) = pure (ps.zip us)) : Binds K fd ps [] := by
  obtain ⟨ds, r, b⟩ := F.ex.binds1 (ps := ps) ps.length 1 (by simp) (by simp) fun T kV doc pm an cdv ct us its hl hi => by
    obtain ⟨k, h1, h2⟩ := h T kV doc pm an cdv ct us its hl hi
    refine ⟨k, h1, ?_⟩
    have : its.drop 1 = [] := by
      rw [List.drop_eq_nil_iff]
      have := hi
      simp at this
      omega
    rw [this, List.append_nil]
    exact h2
  cases r
  exact b
theorem kit_self {K : PySem.W.Frag} {t : Value} : PySem.W.kitOne K t t = some true := by
  unfold PySem.W.kitOne
  simp
end Kx
end
section
set_option maxHeartbeats 2000000
namespace Kx
open PySem L2
end Kx
end
section
set_option maxHeartbeats 2000000
namespace Kx
open PySem L2
section
variable {β : Type} {K : PySem.W.Frag} {σ σ' : St} {G G' M M1 M2 M3 : Hp} {ta tb te tc tk tv : TE} {P P1 P2 : VP} {d : Dat} {ds es : List Dat} {D : Ends} {H : Hp} {u : TS} {e : β → Dat}
/-! ### a dict of one's own by pairs of texts -/
def KOkP (K : PySem.W.Frag) (G : Hp) (e : β → Dat) (kvs : List (List Key × V)) (xs : List ((Str × Str) × β)) : Prop := KRel K G kP e kvs xs ∧ ∀ x ∈ xs, okP x.1
theorem KOkP.up {kvs : List (List Key × V)} {xs : List ((Str × Str) × β)} (s : Same G G') (h : KOkP K G e kvs xs) : KOkP K G' e kvs xs := ⟨h.1.up s, h.2⟩
theorem KOkP.nil : KOkP K G e [] [] := ⟨.nil, fun x hx => (nomatch hx)⟩
def EvP [Tb] (K : PySem.W.Frag) (te : TE) (σ : St) (G M M' : Hp) (e : β → Dat) (xs : List ((Str × Str) × β)) : Prop :=
  ∀ G0 H, Same G G0 → Ok G0 M H → ∀ Q : VK, (∀ p kvs G' H', Same G0 G' → Ok G' (upd M' p (.dT kvs)) H' → M' p = none → KOkP K G' e kvs xs → Q (.ref p) H') → te σ H Q
theorem EvP.ev [Tb] {xs : List ((Str × Str) × β)} (h : EvP K te σ G M M1 e xs) : Ev te σ G M M1 (DD K (eDP e xs)) := fun G0 H s k Q q =>
  h G0 H s k Q fun p kvs G' H' s' k' hp hd => q _ (upd G' p (.dT kvs)) H' (s'.trans (Same.new k'.gp)) (k'.frz hp) (eDP_of upd_same (hd.1.up (Same.new k'.gp)) hd.2)
end
end Kx
end
section
set_option maxHeartbeats 2000000
namespace Kx
open PySem L2
/-! ### a dict is locked for a statement -/
end Kx
end
section
set_option maxHeartbeats 2000000
namespace Kx
open PySem L2 PySem.Spec PyProof.Rows
/-! ### for (k, v) in d.items(), d a locked dict by tuples -/
end Kx
end
section
set_option maxHeartbeats 2000000
namespace Kx
open PySem L2
end Kx
end
section
set_option maxHeartbeats 2000000
namespace Kx
open PySem L2 PySem.Spec PyProof.Rows
/-! ### promises where no repr is under way: repr of data can be told -/
/-- as FnOk, asked only where no guard is known to be under way -/
structure FnOkG (P : Program) (w : World) (K : PySem.W.Frag) (mg : Str → Option Value) (base : Heap) (CX : CXT) (k : Nat) (f : Addr) (fd : FuncData) (ps : List Str) (sp : Sp) : Prop where
  len : ∀ vs H Q E, sp vs H Q E → vs.length = ps.length
  run : ∀ (A : Around) (out : List Env) (s : Shared) (H : Hp) (ar : Args) (us : List Value) (vs : List V) (Q : VK) (E : XK), A.guards = some [] → Room k A → Env0 P w K mg base A out s H → BindsTo s fd ar (ps.zip us) → Vals vs us →
    sp vs H Q E → codeAny (model P w) A (.call (.ref f) ar) (CR CX out P w H s Q E) s
section
variable {P : Program} {w : World} {K : PySem.W.Frag} {mg : Str → Option Value} {base : Heap} {CX : CXT} {k : Nat} {f : Addr} {fd : FuncData} {ps : List Str} {sp : Sp}
/-- the rule for a def of the text, its body with the guards known -/
theorem okG {x qual : Str} {st : Stmt} {N : List Str} (F : Fun K x qual st f fd) (S : FnScope N ps (defScope st)) (len : ∀ vs H Q E, sp vs H Q E → vs.length = ps.length)
    (hb : ∀ (cdv : Value) (A : Around) (out : List Env) (s : Shared) (H : Hp) (vs : List V) (Q : VK) (E : XK), Room k (A.deeper (envOfC qual (defScope st) s.heap.objs.size f cdv)) → (A.deeper (envOfC qual (defScope st) s.heap.objs.size f cdv)).guards = some [] → sp vs H Q E →
      ∃ t, PSs (cxOf CX0 P w K mg base N qual (defScope st) f cdv A out s H E).nox (defBody st) t ∧ t { nx := fun _ H' => Q .non H', rt := Q } (start N vs) H) : FnOkG P w K mg base CX0 (k + 1) f fd ps sp := by
  obtain ⟨oc, od, kV, doc, pm, an, cdv, ct, osl, rfl, lk, hcd⟩ := F.ex
  refine ⟨len, fun A out s H ar us vs Q E hgd hr en hbt rel hsp => ?_⟩
  have old : ∀ b o, base.get? b = some o → s.heap.get? b = some o := fun b o e => (en.bs b o e).1
  have kin : K.In s.heap := en.mod.kin.keeps old
  obtain ⟨t, ht, hq⟩ := hb cdv A out s H vs Q E (hr.deeper _) (by show A.guards = some []; exact hgd) hsp
  refine codeAny_call_function hr.depth (kin _ _ lk) rfl S.co S.gen rfl (PySem.W.codeRec_of kin hcd) (hbt _ _ _ _ (wpAny_newFunctionEnv_cells S.kind (fun ⟨n, v⟩ hy => ?_) fun env he s1 x => ?_))
  · rcases S.par n (List.of_mem_zip hy).1 with c | c
    · exact .inl c
    · exact .inr ⟨c, PySem.W.cellsFrom_some _ _ _ (.inl c)⟩
  · subst he
    refine ⟨(en.mod.nolimit.keeps old).keeps x.toInCall.keep, codeAny_func ?_⟩
    refine wpAny_mono (ht.nox.run [] s1 (start N vs) H _ (inv_start S hr.hd en (len _ _ _ _ hsp) rel x) hq) (fun fl s' hs => ?_) fun _ _ hs => hs
    cases fl with
    | ret u => exact (fun ⟨v, _, H', J, rv, q⟩ => ⟨v, H', J.os, J.bare, J.base, J.hok, rv, q⟩) hs
    | next => exact (fun ⟨_, H', J, q⟩ => ⟨V.non, H', J.os, J.bare, J.base, J.hok, rfl, q⟩) hs
    | brk => exact (fun ⟨_, _, _, q⟩ => q.elim) hs
    | cont => exact (fun ⟨_, _, _, q⟩ => q.elim) hs
end
section
variable {X : Cx} {CX : CXT} {k : Nat} {f : Addr} {fd : FuncData} {ps : List Str} {sp : Sp} {dvs : List V} {ds : List Value} {E : XK} {x : Str} {p pos : Pos} {e : Expr} {es : List Expr} {t : TA}
theorem pe_callG (F : FnOkG X.prog X.w X.K X.mg X.base CX k f fd ps sp) (hgd : X.A.guards = some []) (hr : Room k X.A) (hg : Gl X x) (hm : X.mg x = some (.ref f)) (hk : PySem.W.keepIn X.K (.ref f) = true) (hb : Binds X.K fd ps ds) (hd : Vals dvs ds) (hx : Passes CX X E)
    (ha : PA X (e :: es) t) (hdb : (x == ("__debug__" : Str)) = false := by decide) (he : starEach (e :: es) X.env = (false, eval e X.env) :: starEach es X.env := by rfl) (hpl : (backTo pos (starEach es X.env)).any (·.1) = false := by rfl) :
    PE X (.Call (.Name x p) (e :: es) [] pos) (tCall sp dvs E t) := by
  refine ⟨fun pins s σ H Q I h => wpAny_Call_Name_kw (ld_glob I hg hm ?_ hdb)⟩
  refine PySem.W.callWith_K (h₀ := X.base) I.ok.mod.kin hk (thn (ha.run pos pins s σ H _ I h) fun us s1 ⟨vs, H1, J, r, q⟩ => ⟨J.kIn, ?_⟩) he hpl
  have rr : Vals (vs ++ dvs) (us ++ ds) := r.append hd
  refine wpAny_call (codeAny_mono (F.run X.A X.stack s1 H1 ⟨us, []⟩ (us ++ ds) (vs ++ dvs) Q E hgd hr J.env0 (hb s1 us J.kIn (by rw [← rr.length]; exact F.len _ _ _ _ q)) rr q) fun rs s' hq => ?_)
  cases rs with
  | error e => exact hx pins σ H1 s1 e s' J hq
  | ok fl =>
    cases fl with
    | ret u => exact J.after hq
    | next => exact hq.elim
    | brk => exact hq.elim
    | cont => exact hq.elim
end
end Kx
end
section
set_option maxHeartbeats 2000000
namespace Kx
open PySem L2 PySem.Spec PyProof.Rows
/-! ### repr of data -/
/-- the signs of a text are signs -/
def sgn (x : Str) : Prop := ∀ c ∈ x.cps.toList, c < 0x110000
theorem sgn_sok {x : Str} : sgn x ↔ sok x = true := by
  unfold sgn sok PyData.strOk
  rw [Array.all_eq_true']
  simp
theorem sgn_app {x y : Str} (h : sgn x) (h2 : sgn y) : sgn (x ++ y) := fun c hc => by
  have e : (x ++ y).cps.toList = x.cps.toList ++ y.cps.toList := by
    show (x.cps ++ y.cps).toList = _
    simp
  rw [e] at hc
  rcases List.mem_append.mp hc with h' | h'
  · exact h c h'
  · exact h2 c h'
theorem sgn_ofString (s : String) : sgn (Str.ofString s) := fun c hc => by
  rw [Str.ofString_eq_toList] at hc
  obtain ⟨ch, _, rfl⟩ := List.mem_map.mp (by simpa using hc)
  have := ch.valid
  unfold UInt32.isValidChar Nat.isValidChar at this
  show ch.val.toNat < _
  omega
theorem sgn_hex (n : Nat) : ∀ c ∈ (Nat.toDigits 16 n).map Char.toNat, c < 0x110000 := fun c hc => by
  obtain ⟨ch, _, rfl⟩ := List.mem_map.mp hc
  have := ch.valid
  unfold UInt32.isValidChar Nat.isValidChar at this
  show ch.val.toNat < _
  omega
theorem sgn_char {q c : Nat} (hc : c < 0x110000) : ∀ x ∈ Builtin.Str.reprChar q c, x < 0x110000 := by
  have hx : ∀ (n : Nat), ∀ x ∈ List.replicate n 48 ++ (Nat.toDigits 16 c).map Char.toNat, x < 0x110000 := fun n x hx => by
    rcases List.mem_append.mp hx with h | h
    · rw [(List.mem_replicate.mp h).2]; decide
    · exact sgn_hex c x h
  unfold Builtin.Str.reprChar
  dsimp only
  intro x h
  repeat' split at h
  all_goals first
    | (simp at h; rcases h with h | h <;> omega)
    | (simp at h; omega)
    | (rcases List.mem_append.mp h with h | h
       · (simp at h; rcases h with h | h <;> omega)
       · exact hx _ x h)
theorem sgn_repr {x : Str} (h : sgn x) : sgn (reprText x) := by
  have hq : reprQuote x < 0x110000 := by unfold reprQuote; split <;> decide
  have key : ∀ (l : List Nat) (acc : Array Nat), (∀ c ∈ l, c < 0x110000) → (∀ c ∈ acc.toList, c < 0x110000) → ∀ c ∈ (l.foldl (fun out c => out ++ (Builtin.Str.reprChar (reprQuote x) c).toArray) acc).toList, c < 0x110000 := by
    intro l
    induction l with
    | nil => intro acc _ h2; exact h2
    | cons d l ih =>
      intro acc h1 h2
      refine ih _ (fun c hc => h1 c (List.mem_cons_of_mem _ hc)) fun c hc => ?_
      rw [Array.toList_append] at hc
      rcases List.mem_append.mp hc with h' | h'
      · exact h2 c h'
      · exact sgn_char (h1 d List.mem_cons_self) c h'
  intro c hc
  unfold reprText at hc
  rw [← Array.foldl_toList] at hc
  rw [Array.toList_push] at hc
  rcases List.mem_append.mp hc with h' | h'
  · exact key _ _ h (fun c hc => by simp at hc; omega) c h'
  · simp at h'; omega
theorem sgn_join {sep : Str} (hs : sgn sep) : ∀ ts : List Str, (∀ t ∈ ts, sgn t) → sgn (Str.join sep ts)
  | [], _ => by
    unfold Str.join
    intro c hc
    simp [Str.empty] at hc
  | [x], h => by
    unfold Str.join
    exact h x List.mem_cons_self
  | x :: y :: r, h => by
    unfold Str.join
    exact sgn_app (sgn_app (h x List.mem_cons_self) hs) (sgn_join hs (y :: r) fun t ht => h t (List.mem_cons_of_mem _ ht))
mutual
theorem sgn_shown : ∀ d : PyData, d.canLay0 = true → sgn d.shown
  | .none, _ => by unfold PyData.shown; exact sgn_ofString _
  | .bool b, _ => by unfold PyData.shown; split <;> exact sgn_ofString _
  | .int i, _ => by unfold PyData.shown; exact sgn_ofString _
  | .str x, h => by
    rw [PyData.shown_str]
    exact sgn_repr (sgn_sok.mpr (by simpa [PyData.canLay0] using h))
  | .list xs, h => by
    rw [PyData.shown_list]
    exact sgn_app (sgn_app (sgn_ofString _) (sgn_join (sgn_ofString _) _ (sgn_shownAll xs (by simpa [PyData.canLay0] using h)))) (sgn_ofString _)
  | .tuple xs, h => by
    rw [PyData.shown_tuple]
    exact sgn_app (sgn_app (sgn_ofString _) (sgn_join (sgn_ofString _) _ (sgn_shownAll xs (by simpa [PyData.canLay0] using h)))) (sgn_ofString _)
  | .dict kvs, h => by simp [PyData.canLay0] at h
theorem sgn_shownAll : ∀ ds : List PyData, PyData.canLayAll0 ds = true → ∀ t ∈ PyData.shownAll ds, sgn t
  | [], _ => by unfold PyData.shownAll; intro t ht; cases ht
  | d :: ds, h => by
    have h2 : d.canLay0 = true ∧ PyData.canLayAll0 ds = true := by simpa [PyData.canLayAll0] using h
    unfold PyData.shownAll
    intro t ht
    rcases List.mem_cons.mp ht with rfl | ht
    · exact sgn_shown d h2.1
    · exact sgn_shownAll ds h2.2 t ht
end
/-- what can be shown here -/
def repOk (d : PyData) : Bool := decide (d.weight ≤ 100000) && d.intsShort 40 && d.showable && decide (d.depth ≤ 50)
def reprO (d : PyData) : Option Str := if repOk d then some d.shown else none
theorem reprO_of {d : PyData} {x : Str} (h : reprO d = some x) : repOk d = true ∧ x = d.shown := by
  unfold reprO at h
  split at h
  · next e => cases h; exact ⟨e, rfl⟩
  · cases h
theorem rep_fits {d : PyData} (h : repOk d = true) (hl : d.canLay0 = true) : d.shown.length ≤ sizeLine := by
  simp [repOk] at h
  have h2 := PyData.shown_le 40 (by decide) d (PyData.leavesShort_of_canLay0 40 d hl h.1.1.2)
  have h3 := h.1.1.1
  rw [sizeLine_eq]
  omega
def rRepr (K : PySem.W.Frag) : List V → Hp → VK → Prop := fun xs H Q => ∃ (a : Addr) (d : PyData), xs = [.ref a] ∧ Dp K H (.ref a) d ∧ d.canLay0 = true ∧ repOk d = true ∧ Q (.str d.shown) H
theorem cl_repr {X : Cx} {K : PySem.W.Frag} (hg : X.A.guards = some []) (hu : X.A.units + 64 < cLine) (hK : X.K = K) : CallR X (.builtin "repr") (rRepr K) := by
  subst hK
  intro pins s σ H xs us Q I r h
  obtain ⟨a, d, rfl, hd, hl, hk, q⟩ := h
  cases r with
  | cons r1 r2 =>
    cases r2
    obtain ⟨as, hr⟩ := Dp.reads I d _ _ hd r1
    obtain rfl := r1
    have h1 := rep_fits hk hl
    simp [repOk] at hk
    exact repr_of_reads' hr hk.1.2 (PyData.noDict_hsm (PyData.hasDict_of_canLay _ hl)) hg (by have := hk.2; omega) (fun _ _ e => e) (fun h' u tk kp => ⟨.str _, H, I.kept kp, ⟨_, rfl⟩, q⟩) h1
section
variable {K : PySem.W.Frag} {σ : L2.St} {G M M1 : Hp} {ta : TE} {d : Dat}
def seqB : Dat → Bool
  | .list _ => true
  | .tuple _ => true
  | .rtup _ => true
  | _ => false
theorem seq_ref {v : V} (hs : seqB d = true) (h : Dq K G v d) : ∃ a, v = .ref a := by
  cases h <;> first | exact ⟨_, rfl⟩ | (simp [seqB] at hs)
end
/-! ### the law's end, from a promise that asks for no guards -/
end Kx
end
section
set_option maxHeartbeats 2000000
namespace Kx
open PySem L2
/-! ### the default of a def, an empty tuple of the text's own -/
theorem FunT.bindsE {K : PySem.W.Frag} {x qual : Str} {st : Stmt} {E0 f : Addr} {fd : FuncData} {ps : List Str} (n : Nat) (hn : n + 1 = ps.length) (F : FunT K x qual st E0 f fd)
    (h : ∀ (T : Addr) (kV doc pm : Value) (an : Option Addr) (cdv ct : Value) (us its : List Value), us.length = n → its.length = 1 →
      ∃ k, bindArgs (PySem.W.fnOf x qual (defArgs st) (defBody st) (defScope st) (.ref T) kV doc pm an cdv ct) ⟨us, []⟩ = seqItems? (.ref T) >>= k ∧ k (some its.toArray) = pure (ps.zip (us ++ its))) : Binds K fd ps [.ref E0] := by
  obtain ⟨ds, r, b⟩ := F.ex.binds1 (ps := ps) n 0 (by simp) (by simpa using hn) fun T kV doc pm an cdv ct us its hl hi => h T kV doc pm an cdv ct us its hl hi
  cases r with
  | cons r1 r2 =>
    cases r2
    cases r1
    exact b
theorem valsE {E0 : Addr} : Vals [.ref E0] [.ref E0] := .cons rfl .nil
/-- an empty tuple of the text's own -/
def NilT (K : PySem.W.Frag) (E0 : Addr) : Prop := ∃ (o : Obj) (n : Nat), K.lookup E0 = some o ∧ o.cls = .type "tuple" ∧ o.dict = none ∧ o.data = .seq #[] n
theorem nilT_dd {K : PySem.W.Frag} {E0 : Addr} {G : Hp} {α : Type} {e : α → Dat} (h : NilT K E0) : Dq K G (.ref E0) (eT e ([] : List α)) := by
  obtain ⟨o, n, h1, h2, h3, h4⟩ := h
  exact .tup (.inr ⟨o, #[], n, h1, h2, h3, h4, by simp, .nil⟩) .nil
section
variable {K : PySem.W.Frag} {C : Addr} {cn : Str} {ns : List Str} {σ : St} {G M M1 : Hp}
theorem ev_makeE [Tb] {α ρ : Type} {fl : ρ → List Dat} {args : α → List V → Hp → Prop} {m : α → Option ρ} {E : XK} {t : TA} {a : α} {r : ρ} {dv : List V} {Ps : List V → Hp → Prop} (hm : m a = some r) (hE : ∀ vs G, Ps vs G → args a (vs ++ dv) G) (ha : EvA t σ G M M1 Ps) : Ev (tMake (clsAt K cn) (spI K (clsAt K cn) ns fl args m) dv E t) σ G M M1 (DD K (.ins cn ns (fl r))) := fun G0 H s k Q q =>
  ha G0 H s k _ fun vs G1 H1 s1 k1 hv x dx hx hdx hne => by
    have h2 : Ok G1 M1 (upd H1 dx (.own x)) := ⟨k1.g.trans (Same.new hdx), k1.m.trans (Same.new hdx), k1.d, k1.mu, tb_new k1.tb hdx⟩
    have hx2 : (upd H1 dx (.own x)) x = none := by rw [upd_ne (fun z => hne z.symm)]; exact hx
    refine ⟨G1, M1, x, dx, vs ++ dv, a, r, rfl, h2.newM _ hx2, Same.none k1.m hx, hE vs G1 hv, hm, fun fs G2 H2 s2 k2 e1 e2 => ⟨rfl, ?_⟩⟩
    exact q _ (upd G2 x (.ins (clsAt K cn) dx fs)) H2 ((s1.trans s2).trans (Same.new k2.gp)) (k2.frz (Same.none k1.m hx)) (.ins upd_same e1 (dpAll_up (Same.new k2.gp) _ e2))
end
/-! ### a list of things of two kinds -/
end Kx
end
section
set_option maxHeartbeats 2000000
namespace Kx
open PySem L2 PySem.Spec PyProof.Rows
/-! ### a tuple so many times -/
/-! ### what may be changed stands still from here on -/
end Kx
end
section
set_option maxHeartbeats 2000000
namespace Kx
open PySem L2
/-! ### a dict locked for an expression -/
end Kx
end
section
set_option maxHeartbeats 2000000
namespace Kx
open PySem L2
/-! ### zip of three, lists and tuples -/
end Kx
end
section
set_option maxHeartbeats 2000000
namespace Kx
open PySem L2
end Kx
end
section
set_option maxHeartbeats 2000000
namespace Kx
open PySem L2
end Kx
end
section
set_option maxHeartbeats 2000000
namespace Kx
open PySem L2 PySem.Spec PyProof.Rows
/-! ### zip of 4: next -/
end Kx
end
section
set_option maxHeartbeats 2000000
namespace Kx
open PySem L2
end Kx
end
section
set_option maxHeartbeats 2000000
namespace Kx
open PySem L2
/-! ### a list of two things of unlike kinds -/
end Kx
end
section
set_option maxHeartbeats 2000000
namespace Kx
open PySem L2 PySem.Spec PyProof.Rows PySem.W
/-! ### sorted(d), d a dict by pairs of texts -/
section
theorem lex_pair (a b : Str × Str) : lexLt itemOrd [Sum.inr a.1.cps.toList, Sum.inr a.2.cps.toList] [Sum.inr b.1.cps.toList, Sum.inr b.2.cps.toList] = ltP a b := by
  unfold ltP
  by_cases h1 : a.1 = b.1
  · rw [if_pos h1, h1, lex_self, lex_str]
  · rw [if_neg h1, PySem.W.lex_atom (fun z => h1 (str_ext (Sum.inr.inj z))), lex_str]
def leP (a b : Str × Str) : Bool := !ltP b a
theorem leP_anti (a b : Str × Str) (h1 : leP a b = true) (h2 : leP b a = true) : a = b := by
  unfold leP at *
  rw [Bool.not_eq_true'] at *
  rw [← lex_pair] at h1 h2
  have := lex_total (O := itemOrd) _ _ h2 h1
  rw [List.cons.injEq, List.cons.injEq] at this
  exact Prod.ext (str_ext (Sum.inr.inj this.1)) (str_ext (Sum.inr.inj this.2.1))
end
end Kx
end
section
set_option maxHeartbeats 2000000
namespace Kx
open PySem L2 PySem.Spec PyProof.Rows
/-! ### min and max of two texts -/
section
variable {β : Type} {K : PySem.W.Frag} {σ σ' : L2.St} {G G' M M1 M2 M3 H : Hp} {ta tb te tc tk tv : TE} {e : β → Dat} {ds es : List Dat}
/-- dict(pairs) as an own dict -/
theorem ep_dictP [Tb] {xs ys : List ((Str × Str) × β)} (hy : dictO xs = some ys) (ha : EvA (tCons ta tNil) σ G M M1 (conP (DD K (.list (xs.map (eP2 (eR2 Dat.str Dat.str) e)))) nilP)) : EvP K (tCB (rDictH K) (tCons ta tNil)) σ G M M1 e ys := fun G0 H s k Q q =>
  ha G0 H s k _ fun vs G1 H1 s1 k1 hx => by
    obtain ⟨v, rfl, hv⟩ := one_of (R := nilP) hx
    obtain ⟨_, h1, h2⟩ := bs hy
    cases h2
    obtain ⟨a, ws, rfl, a1, b⟩ := dp_list hv
    obtain ⟨ps, kvs, rfl, p1, p2, p3⟩ := prsP_of b
    exact ⟨_, ps, kvs, rfl, .inl (.inl (k1.g _ _ a1)), paired_up p1 fun _ _ ⟨c, z1, z2⟩ => ⟨c, sqT_up k1.g z1, k1.g _ _ z2⟩, fun p hp => q p _ G1 _ s1 (k1.newM _ hp) (Same.none k1.m hp) ⟨KRel.mergeP p2 .nil, mergeA_keys xs [] (fun x hx => nomatch hx) p3⟩⟩
end
end Kx
end
section
set_option maxHeartbeats 2000000
namespace Kx
open PySem L2
/-! ### the walk over a list or a tuple -/
end Kx
end
section
set_option maxHeartbeats 2000000
namespace Kx
open PySem L2 PySem.Spec PyProof.Rows
/-! ### {k: v for .. for ..}; turned from HandS.Comp (two fors of a list) and HandS.DictComp -/
end Kx
end
section
set_option maxHeartbeats 2000000
namespace Kx
open PySem L2
end Kx
end
section
set_option maxHeartbeats 2000000
namespace Kx
open PySem L2
end Kx
end
section
set_option maxHeartbeats 2000000
namespace Kx
open PySem L2
end Kx
end
section
set_option maxHeartbeats 2000000
namespace Kx
open PySem L2
section
variable {K : PySem.W.Frag} {σ σ' : St} {G G' M M1 M2 M3 H : Hp} {ta tb te tc : TE} {ds : List Dat} {u : TS} {D : Ends}
/-- xs += ys -/
theorem ip_ext {X : Cx} : PIp X .Add rExt2 := fun pins s σ H x y v u Q I rx ry h => iop_ext pins s σ H x y v u Q I rx ry h
theorem q_augExt [Tb] {i : Nat} {p : Addr} {vs : List V} (hx : σ[i]? = some (some (.ref p))) (he : Ev te σ G M M1 (DD K (.list ds))) (hp : M1 p = some (.lst vs)) (hl : vs.length + ds.length ≤ sizeLine) (hσ : σ.set i (some (.ref p)) = σ) (ok : Ok G M H)
    (k : ∀ ws G' H', Same G G' → Ok G' (upd M1 p (.lst (vs ++ ws))) H' → DqAll K G' ws ds → u D σ H') : tSeq (tAug i te rExt2) u D σ H :=
  ⟨.ref p, hx, he G H (Same.refl _) ok _ fun v G1 H1 s1 k1 hv => by
    obtain ⟨a, ws, rfl, h1, h2⟩ := dp_list hv
    refine ⟨p, a, vs, ws, rfl, rfl, k1.m _ _ hp, k1.g _ _ h1, by rw [dpAll_len h2]; exact hl, ?_⟩
    show u D (σ.set i (some (.ref p))) _
    rw [hσ]
    exact k ws G1 _ s1 (k1.chg _ hp) h2⟩
end
end Kx
end
section
set_option maxHeartbeats 2000000
namespace Kx
open PySem L2
section
variable {K : PySem.W.Frag} {σ σ' : St} {G G' M M1 M2 M3 : Hp} {ta tb te tc : TE} {P P1 P2 : VP} {d : Dat} {ds es : List Dat} {D : Ends} {H : Hp} {u : TS} {C : Addr} {cn : Str} {ns : List Str}
/-! ### things of any kind, instances among them -/
/-- an own class that is none of Python's -/
structure ClsNo (K : PySem.W.Frag) (C : Addr) : Prop where
  t : PySem.W.mroIn K C (.type "tuple") = some false
  i : PySem.W.mroIn K C (.type "int") = some false
  b : PySem.W.mroIn K C (.type "bool") = some false
  s : PySem.W.mroIn K C (.type "str") = some false
  l : PySem.W.mroIn K C (.type "list") = some false
def isO1 (c : Str) (f : Dat → Bool) : Dat → Option Bool
  | .ins c' ns xs => cond (decide (c' = c)) (some (f (.ins c' ns xs))) none
  | d => isO f d
/-! ### methods of texts -/
def joinO (a : Str) (ys : List Str) : Option Str := (grd ((ys.map (·.length)).sum + ys.length * a.length ≤ 16777216 ∧ sok (Txt.join a ys) = true)).bind fun _ => some (Txt.join a ys)
abbrev rJoinS (K : PySem.W.Frag) : V → List V → Hp → VK → Prop := fun x xs H Q => ∃ a p, ∃ ys : List Str, x = .str a ∧ xs = [.ref p] ∧ (SqL K H p (ys.map V.str) ∨ SqT K H p (ys.map V.str)) ∧ (ys.map (·.length)).sum + ys.length * a.length ≤ 16777216 ∧ Q (.str (Txt.join a ys)) H
theorem mt_joinK {X : Cx} (hK : X.K = K) : MtR X "str.join" (rJoinS K) := by subst hK; exact mt_join
def strIO (i : Int) : Option Str := (grd (i.natAbs.log2 < 1920 ∧ sok (toString i : Str) = true)).bind fun _ => some (toString i : Str)
theorem ev_strI [Tb] {i : Int} {y : Str} (h : strIO i = some y) (ha : EvA (tCons ta tNil) σ G M M1 (conP (DD K (.int i)) nilP)) : Ev (tCB (fun xs H Q => ∃ i, xs = [.int i] ∧ i.natAbs.log2 < 1920 ∧ Q (.str (toString i)) H) (tCons ta tNil)) σ G M M1 (DD K (.str y)) := ev_cb ha fun xs G0 H s k hx Q q => by
  obtain ⟨v, rfl, hv⟩ := one_of (R := nilP) hx
  cases hv
  obtain ⟨_, h1, h2⟩ := bs h
  cases h2
  have z := grd_of h1
  exact ⟨i, rfl, z.1, q _ G0 H (Same.refl _) k (.str z.2)⟩
end
end Kx
end
section
set_option maxHeartbeats 2000000
namespace Kx
open PySem L2
/-! ### defs that raise -/
/-- an exception: its class's name, its own field if it has one -/
abbrev Ex := Str × Option (Str × Dat)
section
variable {K : PySem.W.Frag} {σ σ' : St} {G G' M M1 M2 M3 : Hp} {ta tb te tc : TE} {P P1 P2 : VP} {D : Ends} {H : Hp} {u : TS} {E : XK}
/-- what is known of an exception's own dict -/
def ExcD (K : PySem.W.Frag) (G : Hp) (d : Option Addr) (x : Ex) : Prop := match x.2 with
  | none => d = none
  | some (f, y) => ∃ (dd : Addr) (v : V), d = some dd ∧ G dd = some (.xd [(f, v)]) ∧ Dq K G v y
theorem ExcD.up {d : Option Addr} {x : Ex} (s : Same G G') (h : ExcD K G d x) : ExcD K G' d x := by
  obtain ⟨c, o⟩ := x
  cases o with
  | none => exact h
  | some y =>
    obtain ⟨f, y⟩ := y
    obtain ⟨dd, v, h1, h2, h3⟩ := h
    exact ⟨dd, v, h1, s _ _ h2, dp_up s y h3⟩
/-! isinstance(x, C) of a thing -/
/-- what is asked of an own class C for isinstance(.., C) -/
structure ClsIs (K : PySem.W.Frag) (C : Addr) : Prop where
  c : (PySem.W.clsIn K C).isSome = true
  t : PySem.W.typeIn K (.ref C) = some (.type "type")
theorem kit_base {T : String} {C : Addr} {l : List Value} (h : ClsIs K C) (hm : PySem.fastBuiltinMro T = some l) (hl : l.contains (.ref C) = false) : PySem.W.kitOne K (.type T) (.ref C) = some false := by
  unfold PySem.W.kitOne
  rw [if_neg (by intro z; cases z)]
  show (if ((PySem.W.clsIn K C).isSome && PySem.W.typeIn K (.ref C) == some (.type "type")) = true then PySem.W.subIn K (.type T) (.ref C) else none) = _
  rw [h.c, h.t, if_pos (by rfl)]
  show (PySem.fastBuiltinMro T).map _ = _
  rw [hm]
  show some (l.contains (.ref C)) = _
  rw [hl]
theorem mro_ok {d : Dat} (h : isIns d = false) : ∃ l, PySem.fastBuiltinMro (tyD d) = some l ∧ ∀ C : Addr, l.contains (.ref C) = false := by
  cases d with
  | none => exact ⟨[.type "NoneType", .type "object"], by kernel_rfl, fun _ => rfl⟩
  | bool _ => exact ⟨[.type "bool", .type "int", .type "object"], by kernel_rfl, fun _ => rfl⟩
  | int _ => exact ⟨[.type "int", .type "object"], by kernel_rfl, fun _ => rfl⟩
  | str _ => exact ⟨[.type "str", .type "object"], by kernel_rfl, fun _ => rfl⟩
  | list _ => exact ⟨[.type "list", .type "object"], by kernel_rfl, fun _ => rfl⟩
  | tuple _ => exact ⟨[.type "tuple", .type "object"], by kernel_rfl, fun _ => rfl⟩
  | rtup _ => exact ⟨[.type "tuple", .type "object"], by kernel_rfl, fun _ => rfl⟩
  | dK _ _ => exact ⟨[.type "dict", .type "object"], by kernel_rfl, fun _ => rfl⟩
  | dT _ _ => cases h
  | ins _ _ _ => cases h
def isP (c : Str) : Dat → Option Bool
  | .ins c' _ _ => cond (decide (c' = c)) (some true) none
  | .dT _ _ => none
  | _ => some false
theorem ev_isiP [Tb] {cn : Str} {d : Dat} {b : Bool} (co : ClsOk K (clsAt K cn)) (hc : ClsIs K (clsAt K cn)) (ki : PySem.W.kitOne K (.ref (clsAt K cn)) (.ref (clsAt K cn)) = some true) (h : isP cn d = some b) (ha : EvA (tCons ta (tCons tb tNil)) σ G M M1 (conP (DD K d) (conP (CLX (clsAt K cn)) nilP))) : Ev (tCB (rIsi K) (tCons ta (tCons tb tNil))) σ G M M1 (DD K (.bool b)) := ev_cb ha fun xs G0 H s k hx Q q => by
  obtain ⟨v, w, rfl, hv, hw⟩ := two_of hx
  cases hw
  have go : ∀ {t : Value}, TyX K H v t → PySem.W.kitOne K t (.ref (clsAt K cn)) = some b → rIsi K [v, V.ref (clsAt K cn)] H Q := fun ht hk => ⟨v, _, _, _, b, rfl, .own _, ht, hk, q _ G0 H (Same.refl _) k (.bl _)⟩
  cases ei : isIns d with
  | false =>
    have eb : b = false := by
      cases d <;> first | (cases h; rfl) | cases ei
    subst eb
    obtain ⟨l, h1, h2⟩ := mro_ok ei
    exact go (tyV_of (K := K) ei ▸ tyx_of k.g (noIns ei) (noDT ei) hv) (kit_base hc h1 (h2 _))
  | true =>
    cases d with
    | ins c' ns xs =>
      have h : cond (decide (c' = cn)) (some true) none = some b := h
      by_cases e : c' = cn
      · subst e
        rw [decide_eq_true rfl, cond_true] at h
        cases h
        exact go (tyx_of k.g (fun C1 n1 x1 e => by cases e; exact co) (fun _ _ e => by cases e) hv) ki
      · rw [decide_eq_false e, cond_false] at h
        cases h
    | dT _ _ => cases h
    | _ => cases ei
end
end Kx
end
section
set_option maxHeartbeats 2000000
namespace Kx
open PySem L2
/-! ### exceptions with a field: class C(B): def __init__(self, f): B.__init__(self, '..'); self.f = f -/
end Kx
end
section
set_option maxHeartbeats 2000000
namespace Kx
open PySem L2
section
variable {K : PySem.W.Frag} {σ σ' : St} {G G' M M1 M2 M3 : Hp} {ta tb te tc : TE} {P P1 P2 : VP} {D : Ends} {H : Hp} {u : TS} {E : XK} {d : Dat} {cn : Str} {ns : List Str}
/-! things taken as bells, as notches, as two texts -/
def bellD : Dat → Option (Str × Int)
  | .tuple [.str x, .int i] => some (x, i)
  | _ => none
def bellsD : Dat → Option (List (Str × Int))
  | .tuple xs => mapO bellD xs
  | _ => none
def notchD : Dat → Option (Str × Str × Int)
  | .tuple [.str x, .str y, .int i] => some (x, y, i)
  | _ => none
def notchesD : Dat → Option (List (Str × Str × Int))
  | .tuple xs => mapO notchD xs
  | _ => none
theorem bellD_of {d : Dat} {y : Str × Int} (h : bellD d = some y) : d = eP2 Dat.str Dat.int y := by
  unfold bellD at h
  split at h
  · cases h; rfl
  · cases h
theorem notchD_of {d : Dat} {y : Str × Str × Int} (h : notchD d = some y) : d = eP3 Dat.str Dat.str Dat.int y := by
  unfold notchD at h
  split at h
  · cases h; rfl
  · cases h
theorem mapO_of {α : Type} {f : Dat → Option α} {e : α → Dat} (hf : ∀ d y, f d = some y → d = e y) : ∀ {xs : List Dat} {ys : List α}, mapO f xs = some ys → xs = ys.map e
  | [], ys, h => by cases h; rfl
  | x :: xs, ys, h => by
    unfold mapO at h
    obtain ⟨y, h1, h⟩ := bs h
    obtain ⟨zs, h2, h⟩ := bs h
    cases h
    rw [mapO_of hf h2, hf x y h1]
    rfl
end
end Kx
end
section
set_option maxHeartbeats 2000000
namespace Kx
open PySem PySem.Spec PyProof.Rows L2
/-! ### defs called with the exception that is handled -/
section
variable {X : Cx} {CX : CXT} {k : Nat} {f C : Addr} {fd : FuncData} {ps : List Str} {sp : Addr → Value → Option Addr → Sp} {E : L2.St → XK} {x m : Str} {q pos apos : Pos} {e o : Expr} {es : List Expr} {ta : TE} {t : TA} {p : Addr × Obj} {cls : Value} {d : Option Addr}
/-! isinstance(e, c), e.f: e an exception that is pinned -/
/-- its own dict, if it has one, is tracked -/
def DictAt (H : Hp) (d : Option Addr) : Prop := d = none ∨ ∃ (dd : Addr) (fs : List (Str × V)), d = some dd ∧ H dd = some (.xd fs)
end
end Kx
end
section
set_option maxHeartbeats 2000000
namespace Kx
open PySem PySem.Spec PyProof.Rows L2
/-! ### exceptions whose context is None: L2N's air, so that a suite that catches one is hot -/
end Kx
end
section
set_option maxHeartbeats 2000000
namespace Kx
open PySem PySem.Spec PyProof.Rows L2 HotX
/-! ### a list comprehension over range within an except suite (follows HandS.Comp lc_core, HandS.HotCalls ps_forH) -/
end Kx
end
section
set_option maxHeartbeats 2000000
namespace Kx
open PySem PySem.Spec PyProof.Rows L2
/-! ### try, the suite by the exception's class -/
section
variable {K : PySem.W.Frag} {σ σ' : L2.St} {G G' M M1 M2 M3 : Hp} {ta tb te tc : TE} {P P1 P2 : VP} {D : Ends} {H : Hp} {u : TS} {E : XK}
/-! ### the handled exception as a value: class cn, own field y -/
def XP (K : PySem.W.Frag) (a : Addr) (d : Option Addr) (cn : Str) (y : Option (Str × Dat)) : VP := fun v G => v = .ref a ∧ ExcD K G d (cn, y)
theorem ExcD.dict {d : Option Addr} {x : Ex} (s : Same G H) (h : ExcD K G d x) : DictAt H d := by
  obtain ⟨c, o⟩ := x
  cases o with
  | none => exact .inl h
  | some y =>
    obtain ⟨f, y⟩ := y
    obtain ⟨dd, v, h1, h2, h3⟩ := h
    exact .inr ⟨dd, _, h1, s _ _ h2⟩
end
end Kx
end
section
set_option maxHeartbeats 2000000
namespace Kx
open PySem PySem.Spec PyProof.Rows L2
/-! ### l.count(x) (follows HandS.Deep mt_indexD) -/
theorem _root_.L2H.RoomH.units {k : Nat} {A : Around} (r : L2H.RoomH k A) : A.units + 64 < cLine := by have := r.un; omega
end Kx
end
section
set_option maxHeartbeats 2000000
namespace Kx
open PySem PySem.Spec PyProof.Rows L2
/-! ### small change for try -/
end Kx
end
section
set_option maxHeartbeats 2000000
namespace Kx
open PySem PySem.Spec PyProof.Rows L2
/-! ### repr of a thing of any kind: none, a number, a tuple or a list of plain things -/
def rReprD (K : PySem.W.Frag) : List V → Hp → VK → Prop := fun xs H Q => rRepr K xs H Q ∨ (xs = [.non] ∧ Q (.str "None") H) ∨ ∃ i : Int, xs = [.int i] ∧ i.natAbs.log2 < 1920 ∧ Q (.str (toString i)) H
theorem cl_reprD {X : Cx} {K : PySem.W.Frag} (hg : X.A.guards = some []) (hu : X.A.units + 64 < cLine) (hK : X.K = K) : CallR X (.builtin "repr") (rReprD K) := by
  intro pins s σ H xs us Q I r h
  rcases h with h | ⟨rfl, q⟩ | ⟨i, rfl, hz, q⟩
  · exact cl_repr hg hu hK pins s σ H xs us Q I r h
  · cases r with
    | cons r1 r2 =>
      cases r2
      obtain rfl := r1
      exact PySem.P.repr_of_none ⟨.str _, H, I.tok _, ⟨_, rfl⟩, q⟩
  · cases r with
    | cons r1 r2 =>
      cases r2
      obtain ⟨t, rfl⟩ := r1
      exact PySem.P.repr_of_int hz ⟨.str _, H, I.tok _, ⟨_, rfl⟩, q⟩
def reprD : Dat → Option Str
  | .none => some "None"
  | .int i => strIO i
  | d => if pur d && seqB d then reprO (toPy d) else none
section
variable {K : PySem.W.Frag} {σ : L2.St} {G M M1 : Hp} {ta : TE} {d : Dat}
theorem ev_reprD [Tb] {x : Str} (hx : reprD d = some x) (ha : EvA (tCons ta tNil) σ G M M1 (conP (DD K d) nilP)) : Ev (tCB (rReprD K) (tCons ta tNil)) σ G M M1 (DD K (.str x)) := ev_cb ha fun xs G0 H s k hxs Q q => by
  obtain ⟨v, rfl, hv⟩ := one_of (R := nilP) hxs
  have sq : (if pur d && seqB d then reprO (toPy d) else none) = some x → rReprD K [v] H Q := fun h => by
    by_cases e : (pur d && seqB d) = true
    · rw [if_pos e] at h
      obtain ⟨p, hs⟩ := Bool.and_eq_true_iff.mp e
      obtain ⟨a, rfl⟩ := seq_ref hs hv
      obtain ⟨h1, rfl⟩ := reprO_of h
      have hl := dq_lay d p hv
      exact .inl ⟨a, toPy d, rfl, dq_dp d p (dp_up k.g d hv), hl, h1, q _ G0 H (Same.refl _) k (.str (sgn_sok.mp (sgn_shown _ hl)))⟩
    · rw [if_neg e] at h
      cases h
  cases d with
  | none =>
    cases hv
    cases hx
    exact .inr (.inl ⟨rfl, q _ G0 H (Same.refl _) k (.str (by decide +kernel))⟩)
  | int i =>
    cases hv
    obtain ⟨_, h1, h2⟩ := bs (show strIO i = some x from hx)
    cases h2
    have z := grd_of h1
    exact .inr (.inr ⟨i, rfl, z.1, q _ G0 H (Same.refl _) k (.str z.2)⟩)
  | bool b => exact sq hx
  | str b => exact sq hx
  | list b => exact sq hx
  | tuple b => exact sq hx
  | rtup b => exact sq hx
  | dK a b => exact sq hx
  | dT a b => exact sq hx
  | ins a b c => exact sq hx
end
end Kx
end
section
set_option maxHeartbeats 2000000
namespace Kx
open PySem PySem.Spec PyProof.Rows L2 L2N HandSPX
/-! ### except (A, B, C) as n -/
end Kx
end
section
set_option maxHeartbeats 2000000
namespace Kx
open PySem PySem.Spec PyProof.Rows L2
/-! ### C(k = v, ..), one default -/
end Kx
end
section
set_option maxHeartbeats 2000000
namespace Kx
open PySem PySem.Spec PyProof.Rows L2
/-! ### things taken as a Peal, as a STANDING -/
def keyS : Key → Option Str
  | .inr x => some x
  | .inl _ => none
def keyP : List Key → Option (Str × Str)
  | [.inr x, .inr y] => some (x, y)
  | _ => none
def dsID : Dat → Option (List (Str × Int))
  | .dK ks xs => (mapO keyS ks).bind fun a => (mapO intD xs).bind fun b => (grd (a.length = b.length)).bind fun _ => some (a.zip b)
  | _ => none
def dpID : Dat → Option (List ((Str × Str) × Int))
  | .dT ks xs => (mapO keyP ks).bind fun a => (mapO intD xs).bind fun b => (grd (a.length = b.length)).bind fun _ => some (a.zip b)
  | _ => none
theorem mapO_inv {α β : Type} {f : α → Option β} {e : β → α} (hf : ∀ d y, f d = some y → d = e y) : ∀ {xs : List α} {ys : List β}, mapO f xs = some ys → xs = ys.map e
  | [], ys, h => by cases h; rfl
  | x :: xs, ys, h => by
    unfold mapO at h
    obtain ⟨y, h1, h⟩ := bs h
    obtain ⟨zs, h2, h⟩ := bs h
    cases h
    rw [mapO_inv hf h2, hf x y h1]
    rfl
theorem zip_split {α β γ δ : Type} {e : α → γ} {g : β → δ} : ∀ {a : List α} {b : List β}, a.length = b.length → (a.zip b).map (fun x => e x.1) = a.map e ∧ (a.zip b).map (fun x => g x.2) = b.map g
  | [], [], _ => ⟨rfl, rfl⟩
  | x :: a, y :: b, h => by
    have ih := zip_split (e := e) (g := g) (a := a) (b := b) (by simpa using h)
    exact ⟨by rw [List.zip_cons_cons, List.map_cons, List.map_cons, ih.1], by rw [List.zip_cons_cons, List.map_cons, List.map_cons, ih.2]⟩
  | [], _ :: _, h => by simp at h
  | _ :: _, [], h => by simp at h
theorem intD_of {d : Dat} {i : Int} (h : intD d = some i) : d = .int i := by
  cases d with
  | int j => cases h; rfl
  | _ => cases h
theorem dsID_of {d : Dat} {xs : List (Str × Int)} (h : dsID d = some xs) : d = eDS Dat.int xs := by
  cases d with
  | dK ks vs =>
    obtain ⟨a, h1, h⟩ := bs (show (mapO keyS ks).bind _ = some xs from h)
    obtain ⟨b, h2, h⟩ := bs h
    obtain ⟨_, h3, h⟩ := bs h
    cases h
    have hl := grd_of h3
    have e1 := mapO_inv (e := kS) (fun d y q => by
      cases d with
      | inl _ => cases q
      | inr _ => cases q; rfl) h1
    have e2 := mapO_inv (e := Dat.int) (fun d y q => intD_of q) h2
    have z := zip_split (e := kS) (g := Dat.int) hl
    unfold eDS
    rw [z.1, z.2, e1, e2]
  | _ => cases h
theorem keyP_of {d : List Key} {y : Str × Str} (h : keyP d = some y) : d = kP y := by
  unfold keyP at h
  split at h
  · cases h; rfl
  · cases h
theorem dpID_of {d : Dat} {xs : List ((Str × Str) × Int)} (h : dpID d = some xs) : d = eDP Dat.int xs := by
  cases d with
  | dT ks vs =>
    obtain ⟨a, h1, h⟩ := bs (show (mapO keyP ks).bind _ = some xs from h)
    obtain ⟨b, h2, h⟩ := bs h
    obtain ⟨_, h3, h⟩ := bs h
    cases h
    have hl := grd_of h3
    have e1 := mapO_inv (e := kP) (fun d y q => keyP_of q) h1
    have e2 := mapO_inv (e := Dat.int) (fun d y q => intD_of q) h2
    have z := zip_split (e := kP) (g := Dat.int) hl
    unfold eDP
    rw [z.1, z.2, e1, e2]
  | _ => cases h
abbrev PEAL := (List (Str × Int)) × (List (Str × Str × Int)) × (List (Str × Int)) × (List ((Str × Str) × Int))
abbrev xPeal (r : PEAL) : Dat := .ins "Peal" ["bells", "notches", "sizes", "turning"] [(eT (eP2 Dat.str Dat.int)) r.1, (eT (eP3 Dat.str Dat.str Dat.int)) r.2.1, (eDS Dat.int) r.2.2.1, (eDP Dat.int) r.2.2.2]
def pealD : Dat → Option PEAL
  | .ins c ns [b, n, s, t] => (grd (c = ("Peal" : Str) ∧ ns = (["bells", "notches", "sizes", "turning"] : List Str))).bind fun _ => (bellsD b).bind fun b => (notchesD n).bind fun n => (dsID s).bind fun s => (dpID t).bind fun t => some (b, n, s, t)
  | _ => none
theorem bellsD_of {d : Dat} {xs : List (Str × Int)} (h : bellsD d = some xs) : d = eT (eP2 Dat.str Dat.int) xs := by
  cases d with
  | tuple ys => rw [mapO_of (fun _ _ => bellD_of) h]
  | _ => cases h
theorem notchesD_of {d : Dat} {xs : List (Str × Str × Int)} (h : notchesD d = some xs) : d = eT (eP3 Dat.str Dat.str Dat.int) xs := by
  cases d with
  | tuple ys => rw [mapO_of (fun _ _ => notchD_of) h]
  | _ => cases h
theorem pealD_of {d : Dat} {r : PEAL} (h : pealD d = some r) : d = xPeal r := by
  unfold pealD at h
  split at h
  · next c ns b n s t =>
    obtain ⟨_, h0, h⟩ := bs h
    obtain ⟨b', h1, h⟩ := bs h
    obtain ⟨n', h2, h⟩ := bs h
    obtain ⟨s', h3, h⟩ := bs h
    obtain ⟨t', h4, h⟩ := bs h
    cases h
    obtain ⟨rfl, rfl⟩ := grd_of h0
    rw [bellsD_of h1, notchesD_of h2, dsID_of h3, dpID_of h4]
  · cases h
section
variable {K : PySem.W.Frag} {σ : L2.St} {G M M1 : Hp} {ta : TE} {d : Dat}
theorem ev_pealD [Tb] {r : PEAL} (h : pealD d = some r) (ha : Ev ta σ G M M1 (DD K d)) : Ev ta σ G M M1 (DD K (xPeal r)) := pealD_of h ▸ ha
end
end Kx
end
section
set_option maxHeartbeats 2000000
namespace Kx
open PySem PySem.Spec PyProof.Rows L2
/-! ### lambdas without parameters, handed to a def that calls what it got -/
/-- what act() is read as -/
def tAct (f c' : Addr) (q : Str) (tl : XK → Hp → VK → Prop) (E : XK) : TE := fun σ H Q => σ[0]? = some (some (.ref f)) ∧ H c' = some (LamX.CodeO c' q) ∧ tl E H Q
/-- the context of the def that got the lambda -/
abbrev gotCx (P : Program) (w : World) (K : PySem.W.Frag) (mg : Str → Option Value) (base : Heap) (Ng : List Str) (x : Str) (sg : Scope) (g : Addr) (cdg : Value) (A : Around) (out : List Env) (s : Shared) (H : Hp) : Cx := cxOf CX0 P w K mg base Ng x sg g cdg A out s H E0
/-- the def that calls what it got, by the name a: TT is what it makes of the lambda's reading -/
def GivesN (P : Program) (w : World) (K : PySem.W.Frag) (mg : Str → Option Value) (base : Heap) (k : Nat) (Ng : List Str) (x : Str) (sg : Scope) (g : Addr) (cdg : Value) (bg : List Stmt) (a : Str) (TT : (XK → Hp → VK → Prop) → Hp → VK → Prop) : Prop :=
  ∀ (A : Around) (out : List Env) (s : Shared) (H : Hp) (Q : VK) (tl : XK → Hp → VK → Prop) (f c' : Addr) (q : Str), Room k (A.deeper (envOfC x sg s.heap.objs.size g cdg)) → (A.deeper (envOfC x sg s.heap.objs.size g cdg)).guards = some [] →
    (∀ (pn : List (Addr × Obj)) (xe : Value → Shared → Prop) (E : XK) (p1 p2 : Pos), Passes (L2N.CX P w) ((gotCx P w K mg base Ng x sg g cdg A out s H).tr pn xe) E → PE ((gotCx P w K mg base Ng x sg g cdg A out s H).tr pn xe) (.Call (.Name a p1) [] [] p2) (tAct f c' q tl E)) →
    H c' = some (LamX.CodeO c' q) → TT tl H Q → ∃ t, PSs (gotCx P w K mg base Ng x sg g cdg A out s H).nox bg t ∧ t { nx := fun _ H' => Q .non H', rt := Q } (L2.start Ng [.ref f]) H
/-- what a caller knows of such a def -/
structure FnLam (P : Program) (w : World) (K : PySem.W.Frag) (mg : Str → Option Value) (base : Heap) (k : Nat) (g : Addr) (fd : FuncData) (x a : Str) (TT : (XK → Hp → VK → Prop) → Hp → VK → Prop) : Prop where
  ex : ∃ (oc : Value) (od : Option Addr) (pg : Arguments) (bg : List Stmt) (sg : Scope) (dV kV doc pm : Value) (an : Option Addr) (cdv ct : Value) (osl : Array (Option Value)) (Ng : List Str), fd = PySem.W.fnOf x x pg bg sg dV kV doc pm an cdv ct ∧ K.lookup g = some ⟨oc, od, .func fd, osl⟩ ∧ PySem.W.codeIn K cdv x = true ∧
    FnScope Ng [a] sg ∧ Ng[0]? = some a ∧ Vis sg a ∧ GivesN P w K mg base k Ng x sg g cdv bg a TT
theorem FnLam.up {P : Program} {w : World} {K : PySem.W.Frag} {mg : Str → Option Value} {base : Heap} {k k' : Nat} {g : Addr} {fd : FuncData} {x a : Str} {TT : (XK → Hp → VK → Prop) → Hp → VK → Prop} (F : FnLam P w K mg base k g fd x a TT) (h : k ≤ k') : FnLam P w K mg base k' g fd x a TT := by
  obtain ⟨oc, od, pg, bg, sg, dV, kV, doc, pm, an, cdv, ct, osl, Ng, e1, e2, e3, e4, e5, e6, hG⟩ := F.ex
  exact ⟨⟨oc, od, pg, bg, sg, dV, kV, doc, pm, an, cdv, ct, osl, Ng, e1, e2, e3, e4, e5, e6, fun A out s H Q tl f c' q hr => hG A out s H Q tl f c' q (hr.mono h)⟩⟩
section
variable [Tb] {K : PySem.W.Frag} {σ σ' : L2.St} {G G' M M1 M2 M3 : Hp} {ta tb te tc : TE} {P P1 P2 : VP} {D : Ends} {H : Hp} {u : TS} {E : XK}
/-- the lambda's reading: it tells r -/
def LamR (K : PySem.W.Frag) (tl : XK → Hp → VK → Prop) (G M : Hp) (r : Unit ⊕ Ex) : Prop := ∀ (E : XK) (G0 H : Hp), Same G G0 → Ok G0 M H → ∀ Q : VK, (r = .inl () → ∀ v G1 H1, Same G0 G1 → Ok G1 M H1 → Q v H1) →
  (∀ x, r = .inr x → ∀ d G1 H1, Same G0 G1 → Ok G1 M H1 → ExcD K G1 d x → E (.ref (clsAt K x.1)) d H1) → tl E H Q
theorem LamR.up {tl : XK → Hp → VK → Prop} {r : Unit ⊕ Ex} (h : LamR K tl G M r) (s : Same G G') : LamR K tl G' M r := fun E G0 H s1 => h E G0 H (s.trans s1)
end
end Kx
end
section
set_option maxHeartbeats 2000000
namespace Kx
open PySem PySem.Spec PyProof.Rows L2
/-- the start: the script, the empty tables -/
theorem start_ok [Tb] {K : PySem.W.Frag} {H : Hp} {a : Addr} {xs : List V} (hT : ∀ p ∈ Tb.t, H p.1 = some (.tbl #[])) (hS : SqL K H a xs) : ∃ G, Ok G (fun _ => none) H ∧ SqL K G a xs := by
  refine ⟨fun b => match H b with | some (.tbl _) => none | o => o, ⟨fun b o e => ?_, fun _ _ h => (by cases h), fun _ _ h => (by cases h), fun _ _ h => (by cases h), ⟨fun p hp => LamX.TabS.nil (hT p hp), fun b o e => ?_⟩⟩, ?_⟩
  · split at e
    · cases e
    · exact e
  · split at e
    · cases e
    · next h => cases o <;> first | exact trivial | exact (h _ e).elim
  · rcases hS with (h | ⟨o, h⟩) | h
    · refine .inl (.inl ?_)
      show (match H a with | some (.tbl _) => none | o => o) = _
      rw [h]
    · refine .inl (.inr ⟨o, ?_⟩)
      show (match H a with | some (.tbl _) => none | o => o) = _
      rw [h]
    · exact .inr h
/-! ### the law's end, with tables of code objects, from a promise that asks for no guards -/
theorem caller_runT {P : Program} {w : World} {K : PySem.W.Frag} {mg mb : Str → Option Value} {CX : CXT} {k : Nat} {fa a : Addr} {fd : FuncData} {x : Str} {sp : Sp} {s1 : Shared} {H : Hp} {o : Obj} {its : Array Value} {n0 : Nat} {cs : List (Addr × Addr)}
    (kx : K.In s1.heap) (gl : s1.heap.Ns mainGlobals mg) (bl : s1.heap.Ns builtinsNs mb) (bb : ∀ x : Str, x ≠ "__name__" → mb x = bootBuiltins x) (lim : s1.heap.NoLimit) (gn : s1.gens = #[]) (ha : s1.heap.get? a = some o) (hod : o.data = .seq its n0)
    (hT : ∀ p ∈ cs, s1.heap.get? p.2 = some { cls := .none, data := .fields #[] }) (nT : ∀ p ∈ cs, K.lookup p.2 = none) (hC : ∀ p ∈ cs, PySem.W.CodeHd s1.heap p.1 p.2)
    (hbm : ∃ (bm : Addr) (ob : Obj), mg "__builtins__" = some (.ref bm) ∧ bm ≠ builtinsNs ∧ s1.heap.get? bm = some ob ∧ ob.cls = .type "module" ∧ ob.dict = some builtinsNs ∧ ob.data = .plain)
    (hr : Room k callerA) (F : ∀ base : Heap, K.In base → base.Ns mainGlobals mg → (∀ p ∈ cs, LamX.TabB base mg p.1 p.2) → FnOkG P w K mg base CX k fa fd [x] sp) (bd : ∀ (s : Shared) (u : Value), BindsTo s fd ⟨[u], []⟩ [(x, u)])
    (ok : HOk P w H s1.heap) (onl : ∀ b, H b ≠ none → b = a ∨ b ∈ cs.map (·.2)) (own : H a ≠ none → K.lookup a = none) (q : sp [.ref a] H (fun v _ => v = .bl true) fun _ _ _ => False) :
    codeAny (model P w) callerA (.call (.ref fa) ⟨[.ref a], []⟩) (CR CX [] P w H s1 (fun v _ => v = .bl true) fun _ _ _ => False) s1 := by
  have hid : ∀ {b : Addr} {u : Obj}, s1.heap.get? b = some u → H b = none → (hidT s1.heap H).get? b = some u := fun e n => hidT_get e n
  have tab : ∀ {b : Addr}, b ∈ cs.map (·.2) → s1.heap.get? b = some { cls := .none, data := .fields #[] } := fun {b} hb => by
    obtain ⟨p, hp, rfl⟩ := List.mem_map.mp hb
    exact hT p hp
  have free : ∀ {b : Addr} {u : Obj}, s1.heap.get? b = some u → (∀ its n, u.data ≠ .seq its n) → u.data ≠ .fields #[] → H b = none := fun {b u} e h1 h2 => by
    cases z : H b with
    | none => rfl
    | some v =>
      rcases onl b (by rw [z]; exact Option.some_ne_none v) with y | y
      · subst y
        rw [ha] at e
        cases e
        exact (h1 _ _ hod).elim
      · rw [tab y] at e
        cases e
        exact (h2 rfl).elim
  have dict : ∀ {b : Addr} {u : Obj} {es : Array DictEntry} {m : Nat}, s1.heap.get? b = some u → u.data = .dict es m → H b = none := fun {b u es m} e d => free e (fun _ _ z => by rw [d] at z; cases z) fun z => by rw [d] at z; cases z
  have ns : ∀ {b : Addr} {m : Str → Option Value}, s1.heap.Ns b m → (hidT s1.heap H).Ns b m := fun ⟨u, es, m, e, d, r⟩ => ⟨u, es, m, hid e (dict e d), d, r⟩
  have kb : K.In (hidT s1.heap H) := fun b u e => hid (kx b u e) (by
    cases z : H b with
    | none => rfl
    | some v =>
      rcases onl b (by rw [z]; exact Option.some_ne_none v) with y | y
      · subst y
        rw [own (by rw [z]; exact Option.some_ne_none v)] at e
        cases e
      · obtain ⟨p, hp, rfl⟩ := List.mem_map.mp y
        rw [nT p hp] at e
        cases e)
  have hB : ∀ p ∈ cs, LamX.TabB (hidT s1.heap H) mg p.1 p.2 := fun p hp => by
    refine ⟨?_, ?_, fun z => ?_⟩
    · obtain ⟨u, us, file, tf, flags, tg, inF, text, tt, e1, r1, r2, r3, r4, r5, r6, r7, r8, hne⟩ := hC p hp
      refine ⟨u, us, file, tf, flags, tg, inF, text, tt, hid e1 (free e1 (fun _ _ z => by rw [r2] at z; cases z) fun z => ?_), r1, r2, r3, r4, r5, r6, r7, r8, hne⟩
      rw [r2] at z
      cases z
      simp at r3
    · obtain ⟨bm, ob, b1, b2, b3, b4, b5, b6⟩ := hbm
      refine ⟨bm, ob, b1, b2, fun z => ?_, fun z => ?_, hid b3 (free b3 (fun _ _ z => by rw [b6] at z; cases z) fun z => by rw [b6] at z; cases z), b4, b5, b6⟩
      · obtain ⟨u, es, ep, e, hd, _⟩ := gl
        rw [z, e] at b3
        cases b3
        rw [hd] at b6
        cases b6
      · rw [z, hT p hp] at b3
        cases b3
        cases b6
    · obtain ⟨u, es, ep, e, hd, _⟩ := gl
      rw [z, hT p hp] at e
      cases e
      cases hd
  obtain ⟨mc, l1, l2⟩ := lim
  exact (F _ kb (ns gl) hB).run callerA [] s1 H ⟨[.ref a], []⟩ [.ref a] [.ref a] _ _ rfl hr
    ⟨rfl, ⟨kb, ns gl, ⟨mb, ns bl, bb⟩, ⟨mc, ns l1, l2⟩⟩, fun b u e => of_hidT e, Nat.le_of_eq (hidT_size _ _), trivial, fun b hb => absurd (show b ∈ ([] : List Addr) from hb) (by simp), ok, .of_eq gn⟩ (bd s1 (.ref a)) (.cons rfl .nil) q
/-- what is told of the law's def at the head's heap -/
def LawTab (l : PySem.W.OpenLaw) (w : World) (K : PySem.W.Frag) (k n : Nat) (x : Str) (mg : Str → Option Value) (fa : Addr) (h : Heap) : Prop :=
  ∃ (fd : FuncData) (cs : List (Addr × Addr)) (sp : Sp), (∀ p ∈ cs, h.get? p.2 = some { cls := .none, data := .fields #[] }) ∧ (∀ p ∈ cs, K.lookup p.2 = none) ∧ (∀ p ∈ cs, PySem.W.CodeHd h p.1 p.2) ∧ (∀ (s : Shared) (u : Value), BindsTo s fd ⟨[u], []⟩ [(x, u)]) ∧
    (∀ (H : Hp) (a : Addr) (ns : List Int), ns.length ≤ n → (∀ p ∈ cs, H p.2 = some (.tbl #[])) → SqL K H a (ns.map V.int) → sp [.ref a] H (fun v _ => v = .bl true) fun _ _ _ => False) ∧
    ∀ base : Heap, K.In base → base.Ns mainGlobals mg → (∀ p ∈ cs, LamX.TabB base mg p.1 p.2) → FnOkG l.prog w K mg base CX0 k fa fd [x] sp
theorem walk_ofTX {l : PySem.W.OpenLaw} {n k : Nat} {q : Program} {loose : List Str} {XP : (Str → Option Value) → Heap → Prop} {YP : World → Heap → Prop} {d : DefRec} {x : Str}
    (hn : l.most = some n) (hn2 : n ≤ sizeLine) (hdf : d.params.defaults = []) (hr : Room k callerA)
    (F : ∀ (w : World) (mg : Str → Option Value) (fa : Addr) (h : Heap), YP w h → h.Ns mainGlobals mg → mg d.name = some (.ref fa) → ∃ K : PySem.W.Frag, K.In h ∧ LawTab l w K k n x mg fa h) :
    PySem.W.WalkO q loose XP YP l.row.toRowW d [] (fun f vs => PySem.call f vs) := by
  refine Att.attach_call hn hdf fun w s0 s1 mg mb fa o pm cd doc a vs ns G Y ho hd hcd hmg hobj hints hlen hg => ?_
  obtain ⟨K, kx, fd, cs, sp, hT, nT, hC, hb, hsp, hF⟩ := F w mg fa _ Y G.T.g hmg
  have lv : vs.length = ns.length := hints.length
  have lz : ns.length ≤ sizeLine := Nat.le_trans hlen hn2
  have tab : ∀ {b : Addr}, b ∈ cs.map (·.2) → s1.heap.get? b = some { cls := .none, data := .fields #[] } := fun {b} hb => by
    obtain ⟨p, hp, rfl⟩ := List.mem_map.mp hb
    exact hT p hp
  have aT : a ∉ cs.map (·.2) := fun z => by
    have e := tab z
    rw [hobj] at e
    cases e
  have memT : ∀ p ∈ cs, p.2 ∈ cs.map (·.2) := fun p hp => List.mem_map.mpr ⟨p, hp, rfl⟩
  have fin : ∀ H : Hp, HOk l.prog w H s1.heap → (∀ b, H b ≠ none → b = a ∨ b ∈ cs.map (·.2)) → (H a ≠ none → K.lookup a = none) → SqL K H a (ns.map V.int) → (∀ p ∈ cs, H p.2 = some (.tbl #[])) → (∀ b, H b ≠ none → b ∉ cs.map (·.2) → H b = some (.frz { cls := .type "list", data := .seq vs.toArray } (.lst (ns.map V.int)))) →
      codeAny (model l.prog w) callerA (.call (.ref fa) ⟨[.ref a], []⟩) (fun r s' => r = .ok (.ret (.bool true)) ∧ OldK s1.heap s'.heap ∧ s'.os = s1.os ∧ AllBare s'.gens) s1 := by
    intro H ok onl own hS hH hf
    refine codeAny_mono (caller_runT kx G.T.g G.T.b G.T.builtins G.T.nolimit hg hobj rfl hT nT hC G.T.bmain hr hF hb ok onl own (hsp H a ns hlen hH hS)) fun r s' h => ?_
    rcases r with e | fl
    · exact h.elim
    · cases fl with
      | next => exact h.elim
      | brk => exact h.elim
      | cont => exact h.elim
      | ret u =>
        obtain ⟨v, H2, os, bare, un, ok2, rv, rfl⟩ := h
        have eu : u = Value.bool true := rv
        have key : ∀ b ob, b ∉ cs.map (·.2) → s1.heap.get? b = some ob → s'.heap.get? b = some ob := fun b ob nb e => by
          by_cases hz : H b = none
          · exact un.keep b ob e hz (fun z => absurd (show b ∈ ([] : List Addr) from z) (by simp)) (by simp)
          · have z1 := hf b hz nb
            have z2 := (ok2 b _ (un.frzs b _ _ z1)).1
            have z3 := (ok b _ z1).1
            rw [e] at z3
            cases z3
            exact z2
        have grown : ∀ p ∈ cs, ∃ more : Array Value, s'.heap.get? p.2 = some { cls := .none, data := .fields more } := fun p hp => by
          obtain ⟨more, z⟩ := un.tbls p.2 #[] (hH p hp)
          exact ⟨_, ok2 p.2 _ z⟩
        refine ⟨by rw [eu], ⟨fun b ob e => ?_, fun b ob e => ?_⟩, os, bare⟩
        · by_cases hb : b ∈ cs.map (·.2)
          · obtain ⟨p, hp, rfl⟩ := List.mem_map.mp hb
            obtain ⟨more, hm⟩ := grown p hp
            rw [hT p hp] at e
            cases e
            exact .inr (.inl ⟨((hC p hp).tab (hT p hp)).isCodeTable, rfl, #[], more, rfl, by rw [Array.empty_append]; exact hm⟩)
          · exact .inl (key b ob hb e)
        · by_cases hb : b ∈ cs.map (·.2)
          · obtain ⟨p, hp, rfl⟩ := List.mem_map.mp hb
            obtain ⟨more, hm⟩ := grown p hp
            exact ⟨_, hm⟩
          · exact ⟨ob, key b ob hb e⟩
  by_cases hk : K.lookup a = none
  · refine fin (fun b => if b = a then some (.frz { cls := .type "list", data := .seq vs.toArray } (.lst (ns.map V.int))) else if b ∈ cs.map (·.2) then some (.tbl #[]) else none) (fun b u z => ?_) (fun b z => ?_) (fun _ => hk) (.inl (.inr ⟨_, if_pos rfl⟩)) (fun p hp => (if_neg (fun z => aT (by rw [← z]; exact memT p hp))).trans (if_pos (memT p hp))) fun b z nb => ?_
    · by_cases hb : b = a
      · subst hb
        have z2 := (if_pos rfl).symm.trans z
        cases z2
        exact ⟨hobj, by rw [List.length_map]; exact lz, vs, _, vals_ints hints, hobj⟩
      · have z1 := (if_neg hb).symm.trans z
        by_cases hb2 : b ∈ cs.map (·.2)
        · have z2 := (if_pos hb2).symm.trans z1
          cases z2
          exact tab hb2
        · have z2 := (if_neg hb2).symm.trans z1
          cases z2
    · by_cases hb : b = a
      · exact .inl hb
      · by_cases hb2 : b ∈ cs.map (·.2)
        · exact .inr hb2
        · exact absurd ((if_neg hb).trans (if_neg hb2)) z
    · by_cases hb : b = a
      · exact if_pos hb
      · exact absurd ((if_neg hb).trans (if_neg nb)) z
  · obtain ⟨u, hu⟩ := Option.ne_none_iff_exists'.mp hk
    have e := kx a u hu
    rw [hobj] at e
    cases e
    refine fin (fun b => if b ∈ cs.map (·.2) then some (.tbl #[]) else none) (fun b u z => ?_) (fun b z => ?_) (fun z => absurd (if_neg aT) z) (.inr ⟨_, vs.toArray, _, hu, rfl, rfl, rfl, by rw [List.size_toArray, lv]; exact lz, by simpa using vals_ints hints⟩) (fun p hp => if_pos (memT p hp)) fun b z nb => absurd (if_neg nb) z
    · by_cases hb2 : b ∈ cs.map (·.2)
      · have z2 := (if_pos hb2).symm.trans z
        cases z2
        exact tab hb2
      · have z2 := (if_neg hb2).symm.trans z
        cases z2
    · by_cases hb2 : b ∈ cs.map (·.2)
      · exact .inr hb2
      · exact absurd (if_neg hb2) z
end Kx
end
section
set_option maxHeartbeats 4000000
namespace Kx
open PySem PySem.W PySem.Calls PyProof.Rows PySem.HandSPX
end Kx
namespace Kx
open PySem PySem.Spec PyProof.Rows L2
end Kx
end
section
set_option maxHeartbeats 2000000
namespace Kx
open PySem PySem.Spec PyProof.Rows L2
section
variable [Tb] {K : PySem.W.Frag} {σ σ' : L2.St} {G G' M M1 M2 M3 : Hp} {ta tb te tc : TE} {P P1 P2 : VP} {D : Ends} {H : Hp} {u : TS} {E : XK}
/-- text.split(sep) -/
def splitO (a b : Str) : Option (List Str) := (grd ((b.length == 0) = false ∧ a.length + 2 ≤ sizeLine ∧ (Txt.split a b).all sok = true)).bind fun _ => some (Txt.split a b)
end
end Kx
end
section
set_option maxHeartbeats 2000000
namespace Kx
open PySem PySem.Spec PyProof.Rows L2
/-! ### a while loop that may return -/
section
variable [Tb] {K : PySem.W.Frag} {σ σ' : L2.St} {G G' M M1 M2 M3 : Hp} {ta tb te tc : TE} {P P1 P2 : VP} {D : Ends} {H : Hp} {u : TS} {E : XK}
theorem ev_joinL {a y : Str} {ys : List Str} (h : joinO a ys = some y) (ha : Ev ta σ G M M1 (DD K (.str a))) (hb : Ev tb σ G M1 M2 (DD K (eL Dat.str ys))) : Ev (tM1 (rJoinS K) ta tb) σ G M M2 (DD K (.str y)) := fun G0 H s k Q q => ha G0 H s k _ fun v G1 H1 s1 k1 hv => by
  obtain ⟨rfl, _⟩ := dq_str hv
  refine ⟨⟨a, rfl⟩, hb G1 H1 (s.trans s1) k1 _ fun w G2 H2 s2 k2 hw => ?_⟩
  obtain ⟨_, h1, h2⟩ := bs h
  cases h2
  have z := grd_of h1
  obtain ⟨p, vs, rfl, h3, h4⟩ := dp_list hw
  have e := dpAll_strs h4
  subst e
  exact ⟨a, p, ys, rfl, rfl, .inl (.inl (.inl (k2.g _ _ h3))), z.1, q _ G2 H2 (s1.trans s2) k2 (.str z.2)⟩
end
end Kx
end
section
set_option maxHeartbeats 2000000
namespace Kx
open PySem PySem.Spec PyProof.Rows L2
end Kx
end
section
set_option maxHeartbeats 2000000
namespace PySem.W
open PySem PySem.Spec PySem.Calls PyProof.Rows
section
variable {prog : Program} {w : World} {A : Around} {E : Value → Shared → Prop} {s : Shared} {K : Frag} {x C f : Addr} {ox : Obj} {od : Option Obj}
open Builtin in
/-- str(o), o of an own class with its own __str__ -/
theorem strK {Q : Value → Shared → Prop} (hu : A.in1.in1.units < cLine) (X : K.In s.heap) (I : InstAt s.heap x ox C od) (hs : findIn K (.ref C) "__str__" = some (some (.ref f))) (hf : isFn K (.ref f) = true)
    (h : wpAny (model prog w) A.in1.in1 (call (.ref f) [.ref x]) (StrBack Q) E s) : wpAny (model prog w) A (call (.type "str") [.ref x]) Q E s := by
  refine callType_codes (T := "str") (Bi := Builtin.«object.__init__») (Q₁ := fun r s₁ => ∃ y u, r = .str y u ∧ Q r s₁) PySem.F.called_str (PySem.F.typeCall_str_1 _) PySem.F.entry_object_init ?_ ?_
  · refine codeAny_of_tree ?_
    show wpAny _ A.in1.in1 (do checkBuiltinCall "str.__new__" ⟨[.type "str", .ref x], []⟩; again (.builtin "str.__new__" ⟨[.type "str", .ref x], []⟩)) _ _ s
    refine wpAny_bind (wpAny_of_eq (PySem.F.newCall_str_1 _) (wpAny_pure ⟨plainId_quiet (by decide +kernel) _, codeAny_builtin PySem.F.entry_str_new ?_⟩))
    rw [Around.under_plainId (by decide +kernel) _]
    rw [str_new_tree]
    refine wpAny_bind (wpAny_pure ?_)
    refine wpAny_bind (wpAny_of_eq isSubtype_str_str ?_)
    have key : wpAny (model prog w) A.in1.in1 (PySem.Builtin.Str.strOf (.ref x)) (fun r s₁ => ∃ y u, r = .str y u ∧ Q r s₁) E s := by
      unfold PySem.Builtin.Str.strOf
      rw [show PySem.Builtin.Str.isExactStr (.ref x) = false from rfl]
      refine wpAny_bind (m := cRoomFor _ _) (wpAny_cRoomFor hu ?_)
      refine wpAny_bind (m := callSpecial? (.ref x) (Str.ofString "__str__")) (special_fn X I hs (beq_iff_eq.mp hf) (wpAny_mono h (fun r s' z => ?_) fun _ _ y => y))
      cases r <;> first | exact z.elim | exact wpAny_pure ⟨_, _, rfl, z⟩
    exact wpAny_bind (wpAny_mono key (fun r s₁ hr => wpAny_pure hr) fun _ _ y => y)
  · rintro obj s₁ ⟨y, u, rfl, hq⟩
    exact ⟨typeIs_str _ _ _, PySem.F.args_object_init_2 _ _, object_init_meets PySem.F.called_str.init.lookup PySem.F.called_str.made (by decide) prog w A.in1 _ s₁ ⟨typeIs_str _ _ _, rfl, hq⟩⟩
end
end PySem.W
namespace Kx
open PySem PySem.Spec PyProof.Rows L2
/-! ### f-strings -/
def fmtS : List Str → Str
  | [] => Str.empty
  | x :: xs => x ++ fmtS xs
theorem len_app (a b : Str) : (a ++ b).length = a.length + b.length := by rw [TL.len_tl, TL.tl_append, List.length_append, TL.len_tl, TL.len_tl]
theorem app_assoc (a b c : Str) : (a ++ b) ++ c = a ++ (b ++ c) := TL.ext_tl (by simp only [TL.tl_append, List.append_assoc])
theorem app_nil (a : Str) : a ++ Str.empty = a := TL.ext_tl (by rw [TL.tl_append]; exact List.append_nil _)
theorem nil_app (a : Str) : Str.empty ++ a = a := TL.ext_tl (by rw [TL.tl_append]; exact List.nil_append _)
def fmtO (xs : List Str) : Option Str := (grd ((fmtS xs).length ≤ 16777216 ∧ sok (fmtS xs) = true)).bind fun _ => some (fmtS xs)
section
variable [Tb] {K : PySem.W.Frag} {σ : L2.St} {G M M1 M2 : Hp} {ta te : TE} {ts : List TE}
def EvJ (K : PySem.W.Frag) (ts : List TE) (σ : L2.St) (G M M1 : Hp) (xs : List Str) : Prop := ∀ (acc : Str) G0 H, Same G G0 → Ok G0 M H → (acc ++ fmtS xs).length ≤ sizeLine → ∀ Q : Str → Hp → Prop, (∀ G1 H1, Same G0 G1 → Ok G1 M1 H1 → Q (acc ++ fmtS xs) H1) → tJs ts acc σ H Q
theorem ej_nil : EvJ K [] σ G M M [] := fun acc G0 H s k _ Q q => by
  have := q G0 H (Same.refl _) k
  rw [show fmtS [] = Str.empty from rfl, app_nil] at this
  exact this
theorem ej_cons {x : Str} {xs : List Str} (ha : Ev ta σ G M M1 (DD K (.str x))) (hr : EvJ K ts σ G M1 M2 xs) : EvJ K (ta :: ts) σ G M M2 (x :: xs) := fun acc G0 H s k hl Q q => ha G0 H s k _ fun v G1 H1 s1 k1 hv => by
  cases hv
  have e : acc ++ fmtS (x :: xs) = (acc ++ x) ++ fmtS xs := (app_assoc _ _ _).symm
  rw [e] at hl q
  refine ⟨x, rfl, ?_, hr (acc ++ x) G1 H1 (s.trans s1) k1 hl Q fun G2 H2 s2 k2 => q G2 H2 (s1.trans s2) k2⟩
  rw [len_app] at hl
  omega
theorem ev_fmtS {x : Str} (hl : x.length ≤ 16777216) (ha : Ev ta σ G M M1 (DD K (.str x))) : Ev (tFmt ta) σ G M M1 (DD K (.str x)) := fun G0 H s k Q q => ha G0 H s k _ fun v G1 H1 s1 k1 hv => by
  have hv0 := hv
  cases hv
  exact .inl ⟨x, rfl, by rw [sizeLine_eq]; exact hl, q _ G1 H1 s1 k1 hv0⟩
def fitO (x : Str) : Option Str := (grd (x.length ≤ 16777216)).bind fun _ => some x
theorem ev_fmtSO {x y : Str} (h : fitO x = some y) (ha : Ev ta σ G M M1 (DD K (.str x))) : Ev (tFmt ta) σ G M M1 (DD K (.str y)) := by
  obtain ⟨_, h1, h2⟩ := bs h
  cases h2
  exact ev_fmtS (grd_of h1) ha
theorem ev_fmtI {i : Int} {x : Str} (h : strIO i = some x) (ha : Ev ta σ G M M1 (DD K (.int i))) : Ev (tFmt ta) σ G M M1 (DD K (.str x)) := fun G0 H s k Q q => ha G0 H s k _ fun v G1 H1 s1 k1 hv => by
  cases hv
  obtain ⟨_, h1, h2⟩ := bs h
  cases h2
  have z := grd_of h1
  exact .inr ⟨i, rfl, z.1, q _ G1 H1 s1 k1 (.str z.2)⟩
theorem ev_joined {xs : List Str} {x : Str} (h : fmtO xs = some x) (hj : EvJ K ts σ G M M1 xs) : Ev (fun σ H Q => tJs ts Str.empty σ H fun out H1 => Q (.str out) H1) σ G M M1 (DD K (.str x)) := fun G0 H s k Q q => by
  obtain ⟨_, h1, h2⟩ := bs h
  cases h2
  have z := grd_of h1
  refine hj Str.empty G0 H s k (by rw [nil_app, sizeLine_eq]; exact z.1) _ fun G1 H1 s1 k1 => ?_
  rw [nil_app]
  exact q _ G1 H1 s1 k1 (.str z.2)
end
/-! ### str(o), repr(o) by own methods -/
section
variable {X : Cx} {C f : Addr} {fd : FuncData} {ps : List Str} {sp : Sp} {k : Nat} {E : XK}
def rOwn1 (C : Addr) (sp : Sp) (E : XK) : List V → Hp → VK → Prop := fun xs H Q => ∃ a dx fs, xs = [.ref a] ∧ H a = some (.ins C dx fs) ∧ sp [.ref a] H (fun v H' => ∃ y, v = .str y ∧ Q (.str y) H') E
theorem own_call {A : Around} {pins : List (Addr × Obj)} {s : Shared} {σ : L2.St} {H : Hp} {a : Addr} {Q : VK} (F : FnOk X.prog X.w X.K X.mg X.base CX0 k f fd ps sp) (hb : Binds X.K fd ps []) (hx : Passes CX0 X E) (hr : Room k A) (I : Inv X pins σ H s) (e0 : Env0 X.prog X.w X.K X.mg X.base A X.stack s H)
    (h : sp [.ref a] H (fun v H' => ∃ y, v = .str y ∧ Q (.str y) H') E) : wpAny (model X.prog X.w) A (call (.ref f) [.ref a]) (PySem.W.StrBack (EP X pins σ Q)) X.xe s := by
  have hl := F.len _ _ _ _ h
  have r2 : Vals [V.ref a] [Value.ref a] := .cons rfl .nil
  refine wpAny_call (codeAny_mono (F.run A X.stack s H ⟨[.ref a], []⟩ [.ref a] [.ref a] _ E hr e0 (by
    have := hb s [.ref a] I.kIn (by simpa using hl)
    simpa using this) r2 h) fun r s' hq => ?_)
  cases r with
  | error e => exact hx pins σ H s e s' I hq
  | ok fl =>
    cases fl with
    | ret w =>
      obtain ⟨z, H', I', rz, y, ez, qq⟩ := I.after hq
      subst ez
      obtain ⟨t, rfl⟩ := rz
      exact ⟨.str y, H', I', ⟨t, rfl⟩, qq⟩
    | next => exact False.elim hq
    | brk => exact False.elim hq
    | cont => exact False.elim hq
theorem cl_strOwn (F : FnOk X.prog X.w X.K X.mg X.base CX0 k f fd ps sp) (hs : PySem.W.findIn X.K (.ref C) "__str__" = some (some (.ref f))) (hf : PySem.W.isFn X.K (.ref f) = true) (hb : Binds X.K fd ps []) (hr : Room (k + 2) X.A) (hx : Passes CX0 X E) : CallR X (.type "str") (rOwn1 C sp E) := by
  intro pins s σ H xs us Q I r h
  obtain ⟨a, dx, fs, rfl, ha, h⟩ := h
  cases r with
  | cons r1 r2 =>
    cases r2
    obtain rfl := r1
    obtain ⟨mA, J, _⟩ := ins_get I.hok ha
    obtain ⟨od, J, _⟩ := J.look
    have hr2 : Room k X.A.in1.in1 := hr.in1.in1
    have hu : X.A.in1.in1.units < cLine := by have := hr2.un; omega
    exact PySem.W.strK hu I.kIn J hs hf (own_call F hb hx hr2 I I.env0.in1.in1 h)
theorem cl_reprOwn (F : FnOk X.prog X.w X.K X.mg X.base CX0 k f fd ps sp) (hs : PySem.W.findIn X.K (.ref C) "__repr__" = some (some (.ref f))) (hf : PySem.W.isFn X.K (.ref f) = true) (hb : Binds X.K fd ps []) (hr : Room (k + 2) X.A) (hx : Passes CX0 X E) : CallR X (.builtin "repr") (rOwn1 C sp E) := by
  intro pins s σ H xs us Q I r h
  obtain ⟨a, dx, fs, rfl, ha, h⟩ := h
  cases r with
  | cons r1 r2 =>
    cases r2
    obtain rfl := r1
    obtain ⟨mA, J, _⟩ := ins_get I.hok ha
    obtain ⟨od, J, _⟩ := J.look
    obtain ⟨m, hF⟩ := I.fr
    have hr2 : Room k X.A.in1 := hr.in1.mono (by omega)
    have hu : X.A.in1.units < cLine := by have := hr2.un; omega
    exact PySem.W.repr_K hu hF I.ok.mod.kin J hs hf (own_call F hb hx hr2 I I.env0.in1 h)
end
section
variable [Tb] {K : PySem.W.Frag} {σ : L2.St} {G M M1 : Hp} {ta : TE} {cn : Str} {ns : List Str} {ds : List Dat}
theorem ev_own1 {α : Type} {args : α → List V → Hp → Prop} {m : α → Option Str} {E : XK} {a : α} {r : Str} (hA : args a = conP (DD K (.ins cn ns ds)) nilP) (hm : m a = some r) (ha : EvA (tCons ta tNil) σ G M M1 (conP (DD K (.ins cn ns ds)) nilP)) :
    Ev (tCB (rOwn1 (clsAt K cn) (spP args m fun r => DD K (.str r)) E) (tCons ta tNil)) σ G M M1 (DD K (.str r)) := fun G0 H s k Q q => ha G0 H s k _ fun vs G1 H1 s1 k1 hv => by
  have hv0 := hv
  obtain ⟨v, ws, rfl, hv, rfl⟩ := hv
  obtain ⟨b, dx, fs, rfl, h1, h2, h3⟩ := dq_ins hv
  refine ⟨b, dx, fs, rfl, k1.g _ _ h1, G1, M1, a, r, k1, by rw [hA]; exact hv0, hm, fun v G2 H2 s2 k2 hr => ?_⟩
  have hr0 := hr
  cases hr
  exact ⟨r, rfl, q _ G2 H2 (s1.trans s2) k2 hr0⟩
end
/-! ### repr of a thing of any kind, texts, truths, the empty dict too -/
def rReprX (K : PySem.W.Frag) : List V → Hp → VK → Prop := fun xs H Q => rReprD K xs H Q ∨ (∃ z : Str, xs = [.str z] ∧ (reprText z).length ≤ sizeLine ∧ Q (.str (reprText z)) H) ∨ (∃ b : Bool, xs = [.bl b] ∧ Q (.str (if b then "True" else "False")) H) ∨ ∃ a : Addr, xs = [.ref a] ∧ Rd H a (.dK []) ∧ Q (.str "{}") H
theorem cl_reprX {X : Cx} {K : PySem.W.Frag} (hg : X.A.guards = some []) (hu : X.A.units + 64 < cLine) (hK : X.K = K) : CallR X (.builtin "repr") (rReprX K) := by
  intro pins s σ H xs us Q I r h
  rcases h with h | ⟨z, rfl, hz, q⟩ | ⟨b, rfl, q⟩ | ⟨a, rfl, hd, q⟩
  · exact cl_reprD hg hu hK pins s σ H xs us Q I r h
  · cases r with
    | cons r1 r2 =>
      cases r2
      obtain ⟨t, rfl⟩ := r1
      exact PySem.P.repr_of_str ⟨.str _, H, I.tok _, ⟨_, rfl⟩, q⟩ hz
  · cases r with
    | cons r1 r2 =>
      cases r2
      obtain rfl := r1
      exact PySem.P.repr_of_bool ⟨.str _, H, I.tok _, ⟨_, rfl⟩, q⟩
  · cases r with
    | cons r1 r2 =>
      cases r2
      obtain rfl := r1
      obtain ⟨_, hm, vs, kv, o, es, ep, e, ex, ed, _, pr, _⟩ := hd.ok I.hok
      have e0 : es.toList = [] := by
        cases kv
        generalize es.toList = l at pr
        cases pr
        rfl
      have rd : PySem.Reads s.heap (.ref a) (.dict []) (a :: [] ++ []) := .dict (kvs := []) e ex.1 ed (by rw [e0]; exact .nil) (by rw [e0]; exact .nil)
      refine repr_of_reads' rd (by decide +kernel) (fun _ hm2 => ?_) hg (by have : (PyData.dict []).depth = 1 := by decide +kernel
                                                                            omega) (fun _ _ e => e) (fun h' u tk kp => ⟨.str _, H, I.kept kp, ⟨_, rfl⟩, q⟩) (by decide +kernel)
      simp at hm2
      rw [hm2] at hm
      simp at hm
def reprX : Dat → Option Str
  | .str z => (grd ((reprText z).length ≤ 16777216 ∧ sok (reprText z) = true)).bind fun _ => some (reprText z)
  | .bool b => some (if b then Str.ofString "True" else Str.ofString "False")
  | .dK [] [] => some (Str.ofString "{}")
  | d => reprD d
section
variable {K : PySem.W.Frag} {σ : L2.St} {G M M1 : Hp} {ta : TE} {d : Dat}
theorem ev_reprX [Tb] {x : Str} (hx : reprX d = some x) (ha : EvA (tCons ta tNil) σ G M M1 (conP (DD K d) nilP)) : Ev (tCB (rReprX K) (tCons ta tNil)) σ G M M1 (DD K (.str x)) := by
  have old : reprD d = some x → Ev (tCB (rReprX K) (tCons ta tNil)) σ G M M1 (DD K (.str x)) := fun h => ev_cb ha fun xs G0 H s k hxs Q q => by
    obtain ⟨v, rfl, hv⟩ := one_of (R := nilP) hxs
    have e : Ev (tCB (rReprD K) (tCons (fun σ H Q => Q v H) tNil)) ([] : L2.St) G0 M1 M1 (DD K (.str x)) := ev_reprD (d := d) h (ea_cons mo_dd (fun G1 H1 s1 k1 Q1 q1 => q1 v G1 H1 (Same.refl _) k1 (dp_up s1 d hv)) ea_nil)
    have := e G0 H (Same.refl _) k Q q
    exact .inl this
  cases d with
  | str z =>
    obtain ⟨_, h1, h2⟩ := bs (show ((grd ((reprText z).length ≤ 16777216 ∧ sok (reprText z) = true)).bind fun _ => some (reprText z)) = some x from hx)
    cases h2
    have g := grd_of h1
    exact ev_cb ha fun xs G0 H s k hxs Q q => by
      obtain ⟨v, rfl, hv⟩ := one_of (R := nilP) hxs
      cases hv
      exact .inr (.inl ⟨z, rfl, by rw [sizeLine_eq]; exact g.1, q _ G0 H (Same.refl _) k (.str g.2)⟩)
  | bool b =>
    cases hx
    exact ev_cb ha fun xs G0 H s k hxs Q q => by
      obtain ⟨v, rfl, hv⟩ := one_of (R := nilP) hxs
      cases hv
      refine .inr (.inr (.inl ⟨b, rfl, q _ G0 H (Same.refl _) k (.str ?_)⟩))
      cases b <;> decide +kernel
  | dK ks ds =>
    cases ks with
    | nil =>
      cases ds with
      | nil =>
        cases hx
        exact ev_cb ha fun xs G0 H s k hxs Q q => by
          obtain ⟨v, rfl, hv⟩ := one_of (R := nilP) hxs
          cases hv with
          | @dK a kvs _ _ h1 h2 h3 h4 =>
            have : kvs = [] := List.map_eq_nil_iff.mp h2
            subst this
            exact .inr (.inr (.inr ⟨a, rfl, rd_up k.g h1, q _ G0 H (Same.refl _) k (.str (by decide +kernel))⟩))
      | cons a b => exact old hx
    | cons a b => exact old hx
  | none => exact old hx
  | int i => exact old hx
  | list b => exact old hx
  | tuple b => exact old hx
  | rtup b => exact old hx
  | dT a b => exact old hx
  | ins a b c => exact old hx
end
end Kx
end
section
set_option maxHeartbeats 2000000
namespace Kx
open PySem PySem.Spec PyProof.Rows L2
/-! ### a call by places and names: f(a, b, k = v) (pe_callN); parameters behind a star -/
end Kx
end
section
set_option maxHeartbeats 2000000
namespace PyProof.Rows
open PySem PySem.Spec
section
variable {prog : Program} {w : World} {A : Around} {E : Value → Shared → Prop} {s : Shared}
/-- sorted(tuple of flat tuples) -/
theorem sorted_tupsT {shape : Nat → Bool} {l : Addr} {vs fs : List Value} {Q : Value → Shared → Prop} (hl : IsTup s.heap l vs.toArray)
    (ht : TupsOf s.heap shape vs fs) (hk : ∀ v, v ∈ vs → ∃ l, G.tupKeyC s.heap shape v = some l) (hL : vs.length ≤ sizeLine)
    (h : ∀ st' : SortSt, (arrOf st').Perm (pairsOf vs) → SortedToK (G.tupKindC s.heap shape) (arrOf st') (pairsOf vs).size →
      Q (.ref (s.heap.objs.size + 1)) { s with heap := sortedAll s.heap vs ((arrOf st').map (·.2)) }) :
    wpAny (model prog w) A (call (.builtin "sorted") [.ref l]) Q E s := by
  refine Calls.call_function_entry kind_sorted plain_sorted entry_sorted (args_sorted1 _) ?_
  unfold Builtin.«sorted»
  refine wpAny_bind (m := checkCount "sorted" 1 1 _) (wpAny_pure ?_)
  refine wpAny_bind (collect_tup hl ?_ hL)
  refine wpAny_bind (wpAny_newList ?_ hL)
  have hsz : ((s.heap.push (seqObj "list" #[] 0)).update s.heap.objs.size (Obj.mapSeq (· ++ vs.toArray))).objs.size = s.heap.objs.size + 1 := by
    rw [Heap.size_update, size_push']
  have hoL : (((s.heap.push (seqObj "list" #[] 0)).update s.heap.objs.size (Obj.mapSeq (· ++ vs.toArray))).push (seqObj "list" vs.toArray 0)).get? (s.heap.objs.size + 1) = some (seqObj "list" vs.toArray 0) := by
    rw [← hsz]; exact Heap.get?_push_size _ rfl
  show wpAny _ _ _ _ _ { s with heap := ((s.heap.push (seqObj "list" #[] 0)).update s.heap.objs.size (Obj.mapSeq (· ++ vs.toArray))).push (seqObj "list" vs.toArray 0) }
  have hnew : (s.heap.push (seqObj "list" #[] 0)).get? s.heap.objs.size = some (seqObj "list" #[] 0) := Heap.get?_push_size _ rfl
  have k0 : G.KeepsTups s.heap (((s.heap.push (seqObj "list" #[] 0)).update s.heap.objs.size (Obj.mapSeq (· ++ vs.toArray))).push (seqObj "list" vs.toArray 0)) :=
    ((G.KeepsTups.push _ _).trans (G.KeepsTups.update _ hnew G.not_tuple_list)).trans (G.KeepsTups.push _ _)
  have k6 := k0.trans (G.keeps_sort6 (vs := vs) hoL)
  rw [hsz]
  refine wpAny_bind (wpAny_holding (wpAny_call_entry slot_list_sort ⟨_, hoL, rfl⟩ entry_list_sort (G.list_sort_treeG (κ := G.tupKindC s.heap shape) (kd := tuples' true) hoL (G.tupKeys hk) ?ordG ?keyG hL fun st' a1 a2 a3 => ⟨_, rfl, ?retG⟩) (args_list_sort _)))
  case ordG => exact G.tupC_ltAt true k6
  case keyG =>
    intro h2 R hq
    exact tup_kind (by rw [G.TupsOf.length ht]; omega) (G.TupsOf.keep k6 ht) hq
  case retG => exact wpAny_pure ⟨_, rfl, h st' a1 a2⟩
end
end PyProof.Rows
namespace Kx
open PySem L2 PySem.Spec PyProof.Rows PySem.W
/-! ### sorted(flat tuples) -/
def kD : Key → Dat
  | .inl i => .int i
  | .inr z => .str z
def kTok : Key → Int ⊕ List Nat
  | .inl i => .inl i
  | .inr z => .inr z.cps.toList
theorem kTok_inj {a b : Key} (h : kTok a = kTok b) : a = b := by
  cases a <;> cases b
  · exact congrArg Sum.inl (Sum.inl.inj h)
  · cases h
  · cases h
  · exact congrArg Sum.inr (str_ext (Sum.inr.inj h))
theorem kToks_inj : ∀ {a b : List Key}, a.map kTok = b.map kTok → a = b
  | [], [], _ => rfl
  | [], _ :: _, h => nomatch h
  | _ :: _, [], h => nomatch h
  | x :: a, y :: b, h => by
    rw [List.map_cons, List.map_cons, List.cons.injEq] at h
    rw [kTok_inj h.1, kToks_inj h.2]
section
variable {β : Type}
def leF (f : β → List Key) (a b : β) : Bool := !lexLt itemOrd ((f b).map kTok) ((f a).map kTok)
theorem leF_trans (f : β → List Key) (a b c : β) (h1 : leF f a b = true) (h2 : leF f b c = true) : leF f a c = true := by
  unfold leF at *
  rw [Bool.not_eq_true'] at *
  cases e : lexLt itemOrd ((f c).map kTok) ((f a).map kTok) with
  | false => rfl
  | true =>
    rcases lex_negTrans (O := itemOrd) _ ((f b).map kTok) _ e with q | q
    · rw [h2] at q; cases q
    · rw [h1] at q; cases q
theorem leF_total (f : β → List Key) (a b : β) : (leF f a b || leF f b a) = true := by
  unfold leF
  cases e : lexLt itemOrd ((f b).map kTok) ((f a).map kTok) with
  | false => rfl
  | true =>
    cases e2 : lexLt itemOrd ((f a).map kTok) ((f b).map kTok) with
    | false => rfl
    | true =>
      have := PyProof.Rows.lex_trans (O := itemOrd) _ _ _ e e2
      rw [PyProof.Rows.lex_irrefl] at this
      cases this
theorem leF_anti {f : β → List Key} (hf : ∀ a b, f a = f b → a = b) (a b : β) (h1 : leF f a b = true) (h2 : leF f b a = true) : a = b := by
  unfold leF at *
  rw [Bool.not_eq_true'] at *
  exact hf _ _ (kToks_inj (lex_total (O := itemOrd) _ _ h2 h1))
def srtF (f : β → List Key) (xs : List β) : List β := xs.mergeSort (leF f)
theorem srtF_perm (f : β → List Key) (xs : List β) : (srtF f xs).Perm xs := List.mergeSort_perm _ _
theorem srtF_sorted (f : β → List Key) (xs : List β) : (srtF f xs).Pairwise fun a b => leF f a b = true := List.pairwise_mergeSort (leF_trans f) (leF_total f) xs
theorem srtF_is {f : β → List Key} (hf : ∀ a b, f a = f b → a = b) {xs ys : List β} (p : ys.Perm xs) (h : ys.Pairwise fun a b => leF f a b = true) : ys = srtF f xs :=
  perm_sorted (le := fun a b => leF f a b = true) (leF_anti hf) (p.trans (srtF_perm f xs).symm) h (srtF_sorted f xs)
end
def kShape (sh : Nat → Bool) : Nat → List Key → Prop
  | _, [] => True
  | i, .inl _ :: r => sh i = false ∧ kShape sh (i + 1) r
  | i, .inr _ :: r => sh i = true ∧ kShape sh (i + 1) r
theorem items_of {sh : Nat → Bool} : ∀ {ks : List Key} {its : List Value} {i : Nat}, Vals (ks.map kV) its → kShape sh i ks → tupItems sh i its = some (ks.map kTok)
  | [], _, _, h, _ => by cases h; rfl
  | .inl n :: ks, u :: its, i, .cons r t, g => by
    obtain ⟨tk, rfl⟩ : ∃ t, u = .int n t := r
    rw [tupItems, if_neg (by rw [g.1]; decide), items_of t g.2]
    rfl
  | .inr z :: ks, u :: its, i, .cons r t, g => by
    obtain ⟨tk, rfl⟩ : ∃ t, u = .str z t := r
    rw [tupItems, if_pos g.1, items_of t g.2]
    rfl
/-- a value that is a flat tuple of this key -/
def KeyV (K : PySem.W.Frag) (sh : Nat → Bool) (H : Hp) (x : V) (ks : List Key) : Prop := ∃ t, x = .ref t ∧ SqT K H t (ks.map kV) ∧ kShape sh 0 ks ∧ ks ≠ []
def rSortedF (K : PySem.W.Frag) (sh : Nat → Bool) : List V → Hp → VK → Prop := fun vs H Q => ∃ (a : Addr) (xs : List V), vs = [V.ref a] ∧ (SqL K H a xs ∨ SqT K H a xs) ∧ (∀ x ∈ xs, ∃ ks, KeyV K sh H x ks) ∧
  ∀ (ys : List V) (p : Addr), ys.Perm xs → (ys.Pairwise fun x y => ∀ ks ls, KeyV K sh H x ks → KeyV K sh H y ls → lexLt itemOrd (ls.map kTok) (ks.map kTok) = false) → H p = none → Q (.ref p) (upd H p (.lst ys))
section
variable {X : Cx} {pins : List (Addr × Obj)} {σ : L2.St} {H : Hp} {s : Shared} {sh : Nat → Bool}
theorem key_raw (I : Inv X pins σ H s) {x : V} {ks : List Key} (h : KeyV X.K sh H x ks) {u : Value} (r : RelV x u) : G.tupKeyC s.heap sh u = some (ks.map kTok) ∧ ∃ f, TupOf s.heap sh u f := by
  obtain ⟨t, rfl, hs, hk, hn⟩ := h
  obtain ⟨its, rv, hl, _⟩ := I.tuple hs
  obtain rfl : u = Value.ref t := r
  obtain ⟨o, ho, hc, n, hd⟩ := hl
  refine ⟨?_, ?_⟩
  · unfold G.tupKeyC G.isTupObj tupKey
    simp only [ho, hc, hd]
    simpa using items_of rv hk
  · cases ks with
    | nil => exact absurd rfl hn
    | cons k ks =>
      cases rv with
      | @cons _ u _ us r1 r2 =>
        refine ⟨u, t, o, _, n, rfl, ho, hc, hd, rfl, fun e => ?_, fun e => ?_⟩
        · cases k with
          | inl i => exact ⟨i, r1⟩
          | inr z => have := hk.1; rw [e] at this; cases this
        · cases k with
          | inl i => have := hk.1; rw [e] at this; cases this
          | inr z => exact ⟨z, r1⟩
end
section
variable {X : Cx} {K : PySem.W.Frag}
theorem cr_sortedF {sh : Nat → Bool} (hK : X.K = K := by rfl) : CallR X (.builtin "sorted") (rSortedF K sh) := by
  subst hK
  intro pins s σ H vs us Q I r h
  obtain ⟨a, xs, rfl, hs, hx, q⟩ := h
  rw [Vals.ref1 r]
  have main : ∀ its : List Value, Vals xs its → its.length ≤ sizeLine → (∃ fs, TupsOf s.heap sh its fs) ∧ (∀ v, v ∈ its → ∃ l, G.tupKeyC s.heap sh v = some l) ∧
      ∀ st' : SortSt, (arrOf st').Perm (pairsOf its) → SortedToK (G.tupKindC s.heap sh) (arrOf st') (pairsOf its).size →
        EP X pins σ Q (.ref (s.heap.objs.size + 1)) { s with heap := sortedAll s.heap its ((arrOf st').map (·.2)) } := fun its rv hz => by
    obtain ⟨e1, e2⟩ := refs_back rv fun x m => by
      obtain ⟨ks, t, e, _⟩ := hx x m
      exact ⟨t, e⟩
    have hback : ∀ v ∈ its, RelV (backV v) v ∧ backV v ∈ xs := fun v hv => by
      obtain ⟨t, rfl⟩ := e2 v hv
      exact ⟨rfl, by rw [e1]; exact List.mem_map.mpr ⟨_, hv, rfl⟩⟩
    have hkey : ∀ v ∈ its, ∃ ks, KeyV X.K sh H (backV v) ks := fun v hv => hx _ (hback v hv).2
    refine ⟨?_, fun v hv => ?_, fun st' hp hso => ?_⟩
    · have : ∀ l : List Value, (∀ v ∈ l, v ∈ its) → ∃ fs, TupsOf s.heap sh l fs := fun l => by
        induction l with
        | nil => exact fun _ => ⟨[], .nil⟩
        | cons v l ih =>
          intro hm
          obtain ⟨fs, hf⟩ := ih fun v hv => hm v (List.mem_cons_of_mem _ hv)
          have hv := hm v List.mem_cons_self
          obtain ⟨ks, hk⟩ := hkey v hv
          obtain ⟨_, f, hf1⟩ := key_raw I hk (hback v hv).1
          exact ⟨f :: fs, .cons hf1 hf⟩
      exact this its fun _ h => h
    · obtain ⟨ks, hk⟩ := hkey v hv
      exact ⟨_, (key_raw I hk (hback v hv).1).1⟩
    · generalize arrOf st' = arr at hp hso
      have hl : arr.toList.Perm (its.zip its) := by rw [← pairsOf_toList]; exact Array.perm_iff_toList_perm.mp hp
      have hself : ∀ p ∈ arr.toList, p.1 = p.2 ∧ p.1 ∈ its := fun p hp' => mem_zip_self (hl.mem_iff.mp hp')
      have hout : (arr.map (·.2)).toList = arr.toList.map (·.1) := by
        rw [Array.toList_map]; exact List.map_congr_left fun p hp' => (hself p hp').1.symm
      have hperm : (arr.toList.map (·.1)).Perm its := by
        have := hl.map Prod.fst
        rwa [List.map_fst_zip (Nat.le_refl _)] at this
      obtain ⟨ep, he'⟩ := sortedAll_at s.heap its (arr.map (·.2))
      have hv : Vals ((arr.toList.map (·.1)).map backV) (arr.map (·.2)).toList := by
        rw [hout]
        exact vals_back fun u hu => e2 u (hperm.mem_iff.mp hu)
      have hlen : ((arr.toList.map (·.1)).map backV).length ≤ sizeLine := by
        rw [List.length_map, hperm.length_eq]; exact hz
      refine ⟨.ref _, upd H (s.heap.objs.size + 1) (.lst ((arr.toList.map (·.1)).map backV)), I.laid (t' := s.toks) (fun _ _ => sortedAll_old) (Nat.le_succ _) ⟨hlen, _, ep, hv, he'⟩, rfl, q _ _ ?_ ?_ (I.hok.fresh (Nat.le_succ _))⟩
      · rw [e1]
        exact hperm.map backV
      · rw [List.pairwise_iff_getElem]
        intro i j hi hj hij ks ls hks hls
        have hi' : i < arr.size := by simpa using hi
        have hj' : j < arr.size := by simpa using hj
        have h1 := hso i j (Nat.le_of_lt hij) (by rw [← hp.size_eq]; exact hj')
        rw [List.getElem_map, List.getElem_map, Array.getElem_toList] at hks hls
        have mi := (hself arr[i] (by simp)).2
        have mj := (hself arr[j] (by simp)).2
        have ki : KK (G.tupKindC s.heap sh) arr i = ks.map kTok := by
          unfold KK
          rw [Array.getElem?_eq_getElem hi']
          show (G.tupKeyC s.heap _ arr[i].1).getD [] = _
          rw [(key_raw I hks (hback _ mi).1).1]
          rfl
        have kj : KK (G.tupKindC s.heap sh) arr j = ls.map kTok := by
          unfold KK
          rw [Array.getElem?_eq_getElem hj']
          show (G.tupKeyC s.heap _ arr[j].1).getD [] = _
          rw [(key_raw I hls (hback _ mj).1).1]
          rfl
        rw [ki, kj] at h1
        exact h1
  rcases hs with hs | hs
  · obtain ⟨its, rv, hl, hz⟩ := I.list hs
    have hz : its.length ≤ sizeLine := by rw [← rv.length]; exact hz
    obtain ⟨⟨fs, h1⟩, h2, h3⟩ := main its rv hz
    exact G.sorted_tups hl.isList h1 h2 hz fun st' a1 a2 _ => h3 st' a1 a2
  · obtain ⟨its, rv, hl, hz⟩ := I.tuple hs
    have hz : its.length ≤ sizeLine := by rw [← rv.length]; exact hz
    obtain ⟨⟨fs, h1⟩, h2, h3⟩ := main its rv hz
    exact sorted_tupsT hl h1 h2 hz h3
end
section
variable {β : Type} {K : PySem.W.Frag} {σ σ' : L2.St} {G G' M M1 M2 M3 : Hp} {ta tb te tc : TE} {e : β → Dat} {f : β → List Key} {sh : Nat → Bool}
theorem keyD {G : Hp} : ∀ {ks : List Key} {vs : List V}, DqAll K G vs (ks.map kD) → vs = ks.map kV
  | [], _, h => by cases h; rfl
  | .inl n :: ks, _, .cons a b => by cases a; exact congrArg (V.int n :: ·) (keyD b)
  | .inr n :: ks, _, .cons a b => by cases a; exact congrArg (V.str n :: ·) (keyD b)
/-- what data are sorted so -/
structure FlatE (e : β → Dat) (f : β → List Key) (sh : Nat → Bool) : Prop where
  e : ∀ y, e y = .tuple ((f y).map kD)
  s : ∀ y, kShape sh 0 (f y)
  n : ∀ y, f y ≠ []
  i : ∀ a b, f a = f b → a = b
theorem FlatE.key (F : FlatE e f sh) {G : Hp} {x : V} {y : β} (h : Dq K G x (e y)) : KeyV K sh G x (f y) := by
  rw [F.e] at h
  obtain ⟨t, vs, rfl, h1, h2⟩ := dp_tuple h
  rw [keyD h2] at h1
  exact ⟨t, rfl, h1, F.s y, F.n y⟩
theorem KeyV.up {G G' : Hp} (g : ∀ a o, G a = some o → G' a = some o) {x : V} {ks : List Key} (h : KeyV K sh G x ks) : KeyV K sh G' x ks := by
  obtain ⟨t, e, h1, h2⟩ := h
  exact ⟨t, e, sqT_up g h1, h2⟩
/-- a turn of the values is a turn of the data -/
theorem dqPerm {G : Hp} {xs ys : List V} (p : ys.Perm xs) : ∀ {zs : List β}, DqAll K G xs (zs.map e) → ∃ zs' : List β, zs'.Perm zs ∧ DqAll K G ys (zs'.map e) := by
  induction p with
  | nil => intro zs h; cases zs with
    | nil => exact ⟨[], .nil, h⟩
    | cons z zs => cases h
  | cons x p ih => intro zs h; cases zs with
    | nil => cases h
    | cons z zs =>
      cases h with
      | cons a b =>
        obtain ⟨zs', q, d⟩ := ih b
        exact ⟨z :: zs', q.cons z, .cons a d⟩
  | swap x y l => intro zs h; match zs, h with
    | z1 :: z2 :: zs, .cons a (.cons b c) => exact ⟨z2 :: z1 :: zs, .swap _ _ _, .cons b (.cons a c)⟩
  | trans p q ih1 ih2 =>
    intro zs h
    obtain ⟨z1, q1, d1⟩ := ih2 h
    obtain ⟨z2, q2, d2⟩ := ih1 d1
    exact ⟨z2, q2.trans q1, d2⟩
theorem pairwD {G : Hp} {R : V → V → Prop} {S : β → β → Prop} (hRS : ∀ x y a b, Dq K G x (e a) → Dq K G y (e b) → R x y → S a b) : ∀ {ys : List V} {zs : List β}, DqAll K G ys (zs.map e) → ys.Pairwise R → zs.Pairwise S
  | _, [], _, _ => .nil
  | _ :: ys, z :: zs, .cons a b, h => by
    obtain ⟨h1, h2⟩ := List.pairwise_cons.mp h
    refine List.pairwise_cons.mpr ⟨fun z' hz' => ?_, pairwD hRS b h2⟩
    obtain ⟨i, hi, rfl⟩ := List.mem_iff_getElem.mp hz'
    have hi2 : i < (zs.map e).length := by rw [List.length_map]; exact hi
    obtain ⟨v, hv, hd⟩ := dpAll_get b (List.getElem?_eq_getElem hi2)
    rw [List.getElem_map] at hd
    exact hRS _ _ _ _ a hd (h1 v (List.mem_of_getElem? hv))
theorem sortF_core [Tb] (F : FlatE e f sh) {xs : List β} {G0 G1 M1 H : Hp} {a : Addr} {ws : List V} (k : Ok G0 M1 H) (hs : SqL K H a ws ∨ SqT K H a ws) (h2 : DqAll K G0 ws (xs.map e)) {Q : VK}
    (q : ∀ p vs G' H', Same G0 G' → Ok G' (upd M1 p (.lst vs)) H' → M1 p = none → DqAll K G' vs ((srtF f xs).map e) → Q (.ref p) H') : rSortedF K sh [.ref a] H Q := by
  refine ⟨a, ws, rfl, hs, fun x hx => ?_, fun ys p hp hs hn => ?_⟩
  · obtain ⟨i, hi⟩ := List.mem_iff_getElem?.mp hx
    have hil := (List.getElem?_eq_some_iff.mp hi).1
    rw [dpAll_len h2, List.length_map] at hil
    obtain ⟨v, hv, hd⟩ := dpAll_get h2 (i := i) (d := e xs[i]) (by rw [List.getElem?_map, List.getElem?_eq_getElem hil]; rfl)
    rw [hi] at hv
    cases hv
    exact ⟨_, (F.key hd).up k.g⟩
  · obtain ⟨zs, p1, d1⟩ := dqPerm hp h2
    have e2 : zs = srtF f xs := srtF_is F.i p1 (pairwD (fun x y a b da db r => by
      unfold leF
      rw [r _ _ ((F.key da).up k.g) ((F.key db).up k.g)]
      rfl) d1 hs)
    subst e2
    exact newL (Same.refl _) k d1 q p hn
theorem el_sortedF [Tb] (F : FlatE e f sh) {xs : List β} (ha : EvA (tCons ta tNil) σ G M M1 (conP (DD K (.list (xs.map e))) nilP)) : EvL K (tCB (rSortedF K sh) (tCons ta tNil)) σ G M M1 ((srtF f xs).map e) := el_cb ha fun vs G0 H s k hx Q q => by
  obtain ⟨v, rfl, hv⟩ := one_of (R := nilP) hx
  obtain ⟨a, ws, rfl, h1, h2⟩ := dp_list hv
  exact sortF_core F (G1 := G0) k (.inl (.inl (.inl (k.g _ _ h1)))) h2 q
theorem el_sortedFT [Tb] (F : FlatE e f sh) {xs : List β} (ha : EvA (tCons ta tNil) σ G M M1 (conP (DD K (.tuple (xs.map e))) nilP)) : EvL K (tCB (rSortedF K sh) (tCons ta tNil)) σ G M M1 ((srtF f xs).map e) := el_cb ha fun vs G0 H s k hx Q q => by
  obtain ⟨v, rfl, hv⟩ := one_of (R := nilP) hx
  obtain ⟨a, ws, rfl, h1, h2⟩ := dp_tuple hv
  exact sortF_core F (G1 := G0) k (.inr (sqT_up k.g h1)) h2 q
/-- pairs of a text and a number, triples of two texts and a number -/
def fSI (x : Str × Int) : List Key := [.inr x.1, .inl x.2]
def fSSI (x : Str × Str × Int) : List Key := [.inr x.1, .inr x.2.1, .inl x.2.2]
def shSI (i : Nat) : Bool := decide (i < 1)
def shSSI (i : Nat) : Bool := decide (i < 2)
theorem flatSI : FlatE (eP2 Dat.str Dat.int) fSI shSI := ⟨fun _ => rfl, fun _ => ⟨rfl, rfl, trivial⟩, fun _ => by simp [fSI], fun a b h => by
  simp only [fSI, List.cons.injEq, Sum.inr.injEq, Sum.inl.injEq, and_true] at h
  exact Prod.ext h.1 h.2⟩
theorem flatSSI : FlatE (eP3 Dat.str Dat.str Dat.int) fSSI shSSI := ⟨fun _ => rfl, fun _ => ⟨rfl, rfl, rfl, trivial⟩, fun _ => by simp [fSSI], fun a b h => by
  simp only [fSSI, List.cons.injEq, Sum.inr.injEq, Sum.inl.injEq, and_true] at h
  exact Prod.ext h.1 (Prod.ext h.2.1 h.2.2)⟩
end
end Kx
end
section
set_option maxHeartbeats 2000000
namespace Kx
open PySem L2 PySem.Spec PyProof.Rows
/-! ### o.m(k = v, ..), by names alone -/
end Kx
end
section
set_option maxHeartbeats 2000000
namespace PySem.W
open PySem PySem.Calls PySem.Spec PyProof.Rows
/-! ### != by an own __eq__ -/
theorem on_bind (self : Value) : bindSpecial (.builtin "object.__ne__") self = pure (.builtin "object.__ne__", [self]) :=
  (Slot.of (T := "object") (name := "__ne__") (owner := "object") (n := "__ne__") (by rw [typeLookup_type, builtinLookup_eq_fast]; kernel_rfl) (by decide +kernel) (by decide +kernel) (by decide +kernel)
    (.inl (by decide +kernel)) (by rw [isSubtype_type]; kernel_rfl)).bind self
theorem on_plain : plainId "object.__ne__" = true := by decide +kernel
section
variable {prog : Program} {w : World} {A : Around} {E : Value → Shared → Prop} {s : Shared} {K : Frag} {x C L f : Addr} {h₀ : Heap} {m : Str → Option Value} {ox : Obj} {od : Option Obj} {b tb : Value}
theorem objNe_K (hu : A.units < cLine) (X : K.In s.heap) (I : InstAt s.heap x ox C od) (hs : findIn K (.ref C) "__eq__" = some (some (.ref f))) (hf : isFn K (.ref f) = true) {Q : Fin → Shared → Prop}
    (hcall : wpAny (model prog w) A (call (.ref f) [.ref x, b]) (fun v s' => ∃ r, v = .bool r ∧ Q (.done (.ret (.bool (!r)))) s') E s) :
    wpAny (model prog w) A (Builtin.«object.__ne__» ⟨[.ref x, b], []⟩) Q E s := by
  obtain ⟨h, g, d, t, os⟩ := s
  unfold Builtin.«object.__ne__»
  repeat (first
    | with_reducible refine wpAny_cRoomFor hu ?_
    | (refine wpAny_bind (m := callSpecialIfBound? (.ref x) (Str.ofString "__eq__") [b])
        (ifBound_K X I hs hf (wpAny_mono hcall (fun r s' hr => by
          obtain ⟨b, rfl, hq⟩ := hr
          repeat (first | exact hq | exact wpAny_pure hq | exact wpAny_truthy_bool hq | (refine wpAny_bind (m := truthy (.bool _)) (wpAny_truthy_bool ?_)) | wp_step)) fun _ _ e => e)))
    | wp_step)
theorem ne_K {Q : Value → Shared → Prop} (hu : A.units + 1 < cLine) (fr : Fr h₀ L s.heap m) (X₀ : K.In h₀) (I : InstAt s.heap x ox C od) (hb : Looks (model prog w) s.heap (typeOf b) tb) (hn : notFirst K C tb = true) (hm : makesIn K C = true)
    (hne : findIn K (.ref C) "__ne__" = some (some (.builtin "object.__ne__"))) (hs : findIn K (.ref C) "__eq__" = some (some (.ref f))) (hf : isFn K (.ref f) = true)
    (h : wpAny (model prog w) A.in1 (call (.ref f) [.ref x, b]) (fun v s' => ∃ r, v = .bool r ∧ Q (.bool (!r)) s') E s) : wpAny (model prog w) A (richCompare .NotEq (.ref x) b) Q E s := by
  have X := X₀.keeps fr.keep
  have Y := makes_of (M := model prog w) X hm
  have t2 : Looks (model prog w) s.heap (isInstance (.ref x) (.type "object")) true := I.type.andThen Y.top
  have one : wpAny (model prog w) A (tryCompare (.ref x) "__ne__" b) (fun r s' => ∃ v, r = some v ∧ Q v s') E s := by
    unfold tryCompare
    simp only [callSpecialIfBound?, bindSpecialIfBound?]
    have fin : wpAny (model prog w) A (call (.builtin "object.__ne__") ([.ref x] ++ [b])) (fun v s' => ∃ r, v = .bool r ∧ Q (.bool r) s') E s := by
      refine wpAny_call (codeAny_call_builtin on_plain PySem.F.cmpEntry_ne (@check_slot (model prog w) _ _ _ "object.__ne__" "object" "__ne__" (.ref x) [b] [] _ PySem.F.cmpKind_ne PySem.F.cmpSplit_ne t2 (PySem.F.cmpArgs_ne _ _) ?_))
      refine objNe_K (A := A.in1) (by show A.units + 1 < cLine; exact hu) X I hs hf (wpAny_mono h (fun v s' hv => ?_) fun _ _ e => e)
      obtain ⟨r, rfl, hq⟩ := hv
      first | exact ⟨r, rfl, !r, rfl, hq⟩ | exact ⟨r, rfl, ⟨!r, rfl, hq⟩⟩
    refine wpAny_bind (wpAny_holding (wpAny_bind (wpAny_bind (wpAny_bind (I.type.here ((looks_findIn X hne).here ?_))))))
    refine wpAny_bind (wpAny_askSetting (wpAny_ite ?_))
    have fin2 : wpAny (model prog w) A (call (.builtin "object.__ne__") ([.ref x] ++ [b]) >>= fun v => pure (some v)) (fun r s' => wpAny (model prog w) A (match r with
      | some .notImplemented | none => pure none
      | some v => pure (some v)) (fun r s' => ∃ v, r = some v ∧ Q v s') E s') E s := wpAny_bind (wpAny_mono fin (fun v s' hv => by
        obtain ⟨r, rfl, hq⟩ := hv
        exact wpAny_pure (wpAny_pure ⟨_, rfl, hq⟩)) fun _ _ e => e)
    split
    · exact wpAny_bind ((Looks.of_pure (on_bind (.ref x))).here (wpAny_pure (by exact fin2)))
    · exact wpAny_tryCatch (wpAny_bind ((Looks.of_pure (on_bind (.ref x))).here (wpAny_pure (by exact fin2))))
  unfold richCompare
  simp only [oneThing_ref]
  refine wpAny_holding (wpAny_bind (wpAny_cRoomFor (Nat.lt_of_succ_lt hu) ?_))
  refine wpAny_bind (I.type.here (wpAny_bind (hb.here ?_)))
  split
  · rename_i q
    have e : subIn K tb (.ref C) = some false := by
      rcases Bool.or_eq_true_iff.mp hn with e | e
      · rw [beq_iff_eq.mp e] at q; simp at q
      · exact beq_iff_eq.mp e
    refine wpAny_bind ((looks_subIn X e).here ?_)
    simp only [Bool.false_eq_true, if_false]
    refine wpAny_bind (wpAny_mono one (fun r s' z => ?_) fun _ _ e => e)
    obtain ⟨v, rfl, hq⟩ := z
    exact wpAny_pure hq
  · refine wpAny_bind (wpAny_pure ?_)
    simp only [Bool.false_eq_true, if_false]
    refine wpAny_bind (wpAny_mono one (fun r s' z => ?_) fun _ _ e => e)
    obtain ⟨v, rfl, hq⟩ := z
    exact wpAny_pure hq
end
end PySem.W
namespace Kx
open PySem L2 PySem.Spec PyProof.Rows
/-! ### x == y, x != y of two instances with an own __eq__ -/
def rCmpOwn (C : Addr) (sp : Sp) (E : XK) (neg : Bool) : R2 := fun x y H Q => ∃ a b dx dy fs gs, x = .ref a ∧ y = .ref b ∧ H a = some (.ins C dx fs) ∧ H b = some (.ins C dy gs) ∧ sp [.ref a, .ref b] H (fun v H' => ∃ r, v = .bl r ∧ Q (.bl (if neg then !r else r)) H') E
section
variable {X : Cx} {CX : CXT} {k : Nat} {C f : Addr} {fd : FuncData} {ps : List Str} {sp : Sp} {E : XK}
theorem cmp_call {A : Around} (F : FnOk X.prog X.w X.K X.mg X.base CX k f fd ps sp) (hr : Room k A) (fr : A.frames = X.A.frames) (hb : Binds X.K fd ps []) (hx : Passes CX X E) {pins : List (Addr × Obj)} {s : Shared} {σ : L2.St} {H : Hp} {a b : Addr} {Q : VK}
    (I : Inv X pins σ H s) (hsp : sp [.ref a, .ref b] H Q E) : wpAny (model X.prog X.w) A (call (.ref f) [.ref a, .ref b]) (EP X pins σ Q) X.xe s := by
  have e0 : Env0 X.prog X.w X.K X.mg X.base A X.stack s H := by
    have e := I.env0
    exact ⟨by rw [fr]; exact e.frames, e.mod, e.bs, e.bsz, e.funs, e.frf, e.hok, e.bare⟩
  have hl := F.len _ _ _ _ hsp
  have r2 : Vals [V.ref a, V.ref b] [Value.ref a, Value.ref b] := .cons rfl (.cons rfl .nil)
  refine wpAny_call (codeAny_mono (F.run A X.stack s H ⟨[.ref a, .ref b], []⟩ [.ref a, .ref b] [.ref a, .ref b] Q E hr e0 (by
    have := hb s [.ref a, .ref b] I.kIn (by simpa using hl)
    simpa using this) r2 hsp) fun r s' hq => ?_)
  cases r with
  | error e => exact hx pins σ H s e s' I hq
  | ok fl =>
    cases fl with
    | ret u => exact I.after hq
    | next => exact False.elim hq
    | brk => exact False.elim hq
    | cont => exact False.elim hq
theorem op_eqOwn (F : FnOk X.prog X.w X.K X.mg X.base CX k f fd ps sp) (hr : Room (k + 1) X.A) (hs : PySem.W.findIn X.K (.ref C) "__eq__" = some (some (.ref f))) (hf : PySem.W.isFn X.K (.ref f) = true) (hb : Binds X.K fd ps []) (hx : Passes CX X E) : OpR X (compareOp .Eq) (rCmpOwn C sp E false) := by
  intro pins s σ H x y v u Q I rx ry h
  obtain ⟨a, b, dx, dy, fs, gs, rfl, rfl, ha, hb', hsp⟩ := h
  cases rx
  cases ry
  obtain ⟨mA, J, _⟩ := ins_get I.hok ha
  obtain ⟨mB, J', _⟩ := ins_get I.hok hb'
  obtain ⟨od, J, _⟩ := J.look
  obtain ⟨od', J', _⟩ := J'.look
  obtain ⟨m, hF⟩ := I.fr
  show wpAny (model X.prog X.w) X.A (richCompare .Eq (.ref a) (.ref b)) (EP X pins σ Q) X.xe s
  refine PySem.W.cmp_K (op := .Eq) (tb := .ref C) hr.units0 hF I.ok.mod.kin J J'.type (by simp [PySem.W.notFirst]) hs hf (wpAny_mono (cmp_call F (hr.mono (Nat.le_succ _)) rfl hb hx I hsp) (fun w' s' z => ?_) fun _ _ e => e)
  obtain ⟨z, H', I', rz, r, ez, q⟩ := z
  subst ez
  cases rz
  exact ⟨.bl r, H', I', rfl, q⟩
theorem op_neOwn (F : FnOk X.prog X.w X.K X.mg X.base CX k f fd ps sp) (hr : Room (k + 1) X.A) (hm : PySem.W.makesIn X.K C = true) (hne : PySem.W.findIn X.K (.ref C) "__ne__" = some (some (.builtin "object.__ne__"))) (hs : PySem.W.findIn X.K (.ref C) "__eq__" = some (some (.ref f))) (hf : PySem.W.isFn X.K (.ref f) = true) (hb : Binds X.K fd ps []) (hx : Passes CX X E) : OpR X (compareOp .NotEq) (rCmpOwn C sp E true) := by
  intro pins s σ H x y v u Q I rx ry h
  obtain ⟨a, b, dx, dy, fs, gs, rfl, rfl, ha, hb', hsp⟩ := h
  cases rx
  cases ry
  obtain ⟨mA, J, _⟩ := ins_get I.hok ha
  obtain ⟨mB, J', _⟩ := ins_get I.hok hb'
  obtain ⟨od, J, _⟩ := J.look
  obtain ⟨od', J', _⟩ := J'.look
  obtain ⟨m, hF⟩ := I.fr
  show wpAny (model X.prog X.w) X.A (richCompare .NotEq (.ref a) (.ref b)) (EP X pins σ Q) X.xe s
  refine PySem.W.ne_K (tb := .ref C) (by have := hr.un; omega) hF I.ok.mod.kin J J'.type (by simp [PySem.W.notFirst]) hm hne hs hf (wpAny_mono (cmp_call F hr.in1 rfl hb hx I hsp) (fun w' s' z => ?_) fun _ _ e => e)
  obtain ⟨z, H', I', rz, r, ez, q⟩ := z
  subst ez
  cases rz
  exact ⟨r, rfl, .bl (!r), H', I', rfl, q⟩
end
section
variable {α : Type} {K : PySem.W.Frag} {σ σ' : L2.St} {G G' M M1 M2 M3 H : Hp} {ta tb : TE} {cn : String} {ns : List Str} {ds es : List Dat}
theorem ev_cmpOwn [Tb] {args : α → List V → Hp → Prop} {m : α → Option Bool} {E : XK} {a : α} {r : Bool} {neg : Bool} (hA : args a = conP (DD K (.ins cn ns ds)) (conP (DD K (.ins cn ns es)) nilP)) (hm : m a = some r)
    (ha : Ev ta σ G M M1 (DD K (.ins cn ns ds))) (hb : Ev tb σ G M1 M2 (DD K (.ins cn ns es))) : Ev (tOp (rCmpOwn (clsAt K cn) (spP args m fun b => DD K (.bool b)) E neg) ta tb) σ G M M2 (DD K (.bool (if neg then !r else r))) := ev_op mo_dd ha hb fun x y G0 H s k hx hy Q q => by
  obtain ⟨a1, dx, fs, rfl, h1, h2, _⟩ := dq_ins hx
  obtain ⟨b1, dy, gs, rfl, h3, h4, _⟩ := dq_ins hy
  subst h2
  refine ⟨a1, b1, dx, dy, fs, gs, rfl, rfl, k.g _ _ h1, k.g _ _ h3, G0, M2, a, r, k, by rw [hA]; exact ⟨_, _, rfl, hx, _, _, rfl, hy, rfl⟩, hm, fun v G3 H3 s3 k3 hr => ?_⟩
  cases hr
  exact ⟨r, rfl, q _ G3 H3 s3 k3 (.bl _)⟩
end
end Kx
end
section
set_option maxHeartbeats 2000000
namespace Kx
open PySem L2
/-! ### an own list lent to an expression whose value has no list -/
def drop (G : Hp) (p : Addr) : Hp := fun a => if a = p then none else G a
/-! ### pairs of texts: < -/
/-! ### a comprehension with a test whose elements draw -/
end Kx
end
section
set_option maxHeartbeats 2000000
namespace Kx
open PySem L2 PySem.Spec PyProof.Rows
/-! ### a try whose suite reads the slots as they stood -/
end Kx
end
section
set_option maxHeartbeats 2000000
namespace PySem.W
open PySem PySem.Calls PySem.Spec PyProof.Rows
/-! ### own instances beside things of Python's kinds -/
section
variable {prog : Program} {w : World} {A : Around} {s : Shared} {x l : Addr} {ox : Obj} {C : Addr} {Q : Fin → Shared → Prop} {E : Value → Shared → Prop}
theorem int_eq_own {i : Int} {t : Tok} (hx : s.heap.get? x = some ox) (hp : ox.data = .plain) (h : Q (.done (.ret .notImplemented)) s) : wpAny (model prog w) A (Builtin.«int.__eq__» ⟨[.int i t, .ref x], []⟩) Q E s := by
  obtain ⟨c, d, da, sl⟩ := ox
  subst hp
  obtain ⟨hh, g, d, tk, os⟩ := s
  wp_walk using wpAny_load hx
  exact h
theorem int_ne_own {i : Int} {t : Tok} (hx : s.heap.get? x = some ox) (hp : ox.data = .plain) (h : Q (.done (.ret .notImplemented)) s) : wpAny (model prog w) A (Builtin.«int.__ne__» ⟨[.int i t, .ref x], []⟩) Q E s := by
  obtain ⟨c, d, da, sl⟩ := ox
  subst hp
  obtain ⟨hh, g, d, tk, os⟩ := s
  wp_walk using wpAny_load hx
  exact h
theorem bl_eq_own {i : Bool} (hx : s.heap.get? x = some ox) (hp : ox.data = .plain) (h : Q (.done (.ret .notImplemented)) s) : wpAny (model prog w) A (Builtin.«int.__eq__» ⟨[.bool i, .ref x], []⟩) Q E s := by
  obtain ⟨c, d, da, sl⟩ := ox
  subst hp
  obtain ⟨hh, g, d, tk, os⟩ := s
  wp_walk using wpAny_load hx
  exact h
theorem bl_ne_own {i : Bool} (hx : s.heap.get? x = some ox) (hp : ox.data = .plain) (h : Q (.done (.ret .notImplemented)) s) : wpAny (model prog w) A (Builtin.«int.__ne__» ⟨[.bool i, .ref x], []⟩) Q E s := by
  obtain ⟨c, d, da, sl⟩ := ox
  subst hp
  obtain ⟨hh, g, d, tk, os⟩ := s
  wp_walk using wpAny_load hx
  exact h
theorem str_eq_own {i : Str} {t : Tok} (hx : s.heap.get? x = some ox) (hp : ox.data = .plain) (h : Q (.done (.ret .notImplemented)) s) : wpAny (model prog w) A (Builtin.«str.__eq__» ⟨[.str i t, .ref x], []⟩) Q E s := by
  obtain ⟨c, d, da, sl⟩ := ox
  subst hp
  obtain ⟨hh, g, d, tk, os⟩ := s
  wp_walk using wpAny_load hx
  exact h
theorem str_ne_own {i : Str} {t : Tok} (hx : s.heap.get? x = some ox) (hp : ox.data = .plain) (h : Q (.done (.ret .notImplemented)) s) : wpAny (model prog w) A (Builtin.«str.__ne__» ⟨[.str i t, .ref x], []⟩) Q E s := by
  obtain ⟨c, d, da, sl⟩ := ox
  subst hp
  obtain ⟨hh, g, d, tk, os⟩ := s
  wp_walk using wpAny_load hx
  exact h
theorem tuple_eq_own (f : Looks (model prog w) s.heap (isInstance (.ref x) (.type "tuple")) false) (h : Q (.done (.ret .notImplemented)) s) : wpAny (model prog w) A (Builtin.«tuple.__eq__» ⟨[.ref l, .ref x], []⟩) Q E s := by
  obtain ⟨hh, g, d, tk, os⟩ := s
  unfold Builtin.«tuple.__eq__»
  repeat (first
    | (refine wpAny_bind (m := isInstance (.ref x) (.type "tuple")) (f.here ?_))
    | exact wpAny_pure h
    | wp_step)
theorem tuple_ne_own (f : Looks (model prog w) s.heap (isInstance (.ref x) (.type "tuple")) false) (h : Q (.done (.ret .notImplemented)) s) : wpAny (model prog w) A (Builtin.«tuple.__ne__» ⟨[.ref l, .ref x], []⟩) Q E s := by
  obtain ⟨hh, g, d, tk, os⟩ := s
  unfold Builtin.«tuple.__ne__»
  repeat (first
    | (refine wpAny_bind (m := isInstance (.ref x) (.type "tuple")) (f.here ?_))
    | exact wpAny_pure h
    | wp_step)
theorem list_eq_own (f : Looks (model prog w) s.heap (isInstance (.ref x) (.type "list")) false) (h : Q (.done (.ret .notImplemented)) s) : wpAny (model prog w) A (Builtin.«list.__eq__» ⟨[.ref l, .ref x], []⟩) Q E s := by
  obtain ⟨hh, g, d, tk, os⟩ := s
  unfold Builtin.«list.__eq__»
  repeat (first
    | (refine wpAny_bind (m := isInstance (.ref x) (.type "list")) (f.here ?_))
    | exact wpAny_pure h
    | wp_step)
theorem list_ne_own (f : Looks (model prog w) s.heap (isInstance (.ref x) (.type "list")) false) (h : Q (.done (.ret .notImplemented)) s) : wpAny (model prog w) A (Builtin.«list.__ne__» ⟨[.ref l, .ref x], []⟩) Q E s := by
  obtain ⟨hh, g, d, tk, os⟩ := s
  unfold Builtin.«list.__ne__»
  repeat (first
    | (refine wpAny_bind (m := isInstance (.ref x) (.type "list")) (f.here ?_))
    | exact wpAny_pure h
    | wp_step)
theorem dict_eq_own (f : Looks (model prog w) s.heap (isInstance (.ref x) (.type "dict")) false) (h : Q (.done (.ret .notImplemented)) s) : wpAny (model prog w) A (Builtin.«dict.__eq__» ⟨[.ref l, .ref x], []⟩) Q E s := by
  obtain ⟨hh, g, d, tk, os⟩ := s
  unfold Builtin.«dict.__eq__»
  repeat (first
    | (refine wpAny_bind (m := isInstance (.ref x) (.type "dict")) (f.here ?_))
    | exact wpAny_pure h
    | wp_step)
theorem dict_ne_own (f : Looks (model prog w) s.heap (isInstance (.ref x) (.type "dict")) false) (h : Q (.done (.ret .notImplemented)) s) : wpAny (model prog w) A (Builtin.«dict.__ne__» ⟨[.ref l, .ref x], []⟩) Q E s := by
  obtain ⟨hh, g, d, tk, os⟩ := s
  unfold Builtin.«dict.__ne__»
  repeat (first
    | (refine wpAny_bind (m := isInstance (.ref x) (.type "dict")) (f.here ?_))
    | exact wpAny_pure h
    | wp_step)
theorem non_eq_own (h : Q (.done (.ret .notImplemented)) s) : wpAny (model prog w) A (Builtin.«NoneType.__eq__» ⟨[.none, .ref x], []⟩) Q E s := by
  obtain ⟨hh, g, d, tk, os⟩ := s
  wp_walk
  exact h
theorem non_ne_own (h : Q (.done (.ret .notImplemented)) s) : wpAny (model prog w) A (Builtin.«NoneType.__ne__» ⟨[.none, .ref x], []⟩) Q E s := by
  obtain ⟨hh, g, d, tk, os⟩ := s
  wp_walk
  exact h
end
section
variable {prog : Program} {w : World} {A : Around} {E : Value → Shared → Prop} {s : Shared} {K : Frag} {x C L f : Addr} {h₀ : Heap} {m : Str → Option Value} {ox : Obj} {od : Option Obj} {b tb u : Value}
theorem call_own {T : String} {name : Str} {id : String} {B : Builtin} {self : Value} {rest : List Value} {Q : Value → Shared → Prop} (slot : Slot T name id) (hT : s.TypeIs self T)
    (entry : entryFor table id = some B) (args : argsOk id ⟨self :: rest, []⟩)
    (h : wpAny (model prog w) A.in1 (B ⟨self :: rest, []⟩) (fun fin s' => match fin with
      | .done f => wants Q E (.ok f) s'
      | .again c' => c'.quiet = true ∧ codeAny (model prog w) A c' (wants Q E) s') (fun e s' => wants Q E (.error e) s') s) :
    wpAny (model prog w) A (call (.builtin id) (self :: rest)) Q E s :=
  wpAny_call (codeAny_call_builtin slot.plain entry (slot.check _ _ _ _ _ _ _ _ hT args h))
/-- a thing of Python's kinds: asked first, its own comparison declines -/
def Decl (prog : Program) (w : World) (s : Shared) (x : Addr) (op : CmpOp) (T : String) (u : Value) : Prop :=
  s.TypeIs u T ∧ ∃ id, Slot T (cmpInfo op).2.1 id ∧ ∀ (A : Around) (E Q : Value → Shared → Prop), Q .notImplemented s → wpAny (model prog w) A (call (.builtin id) [u, .ref x]) Q E s
structure OwnAt (prog : Program) (w : World) (s : Shared) (x : Addr) (ox : Obj) : Prop where
  get : s.heap.get? x = some ox
  dat : ox.data = .plain
  t : Looks (model prog w) s.heap (isInstance (.ref x) (.type "tuple")) false
  l : Looks (model prog w) s.heap (isInstance (.ref x) (.type "list")) false
  d : Looks (model prog w) s.heap (isInstance (.ref x) (.type "dict")) false
section
variable (O : OwnAt prog w s x ox)
include O
theorem decl_eq_int (i : Int) (t : Tok) : Decl prog w s x .Eq "int" (.int i t) := ⟨typeIs_int s i t, _, F.slot_int_eq, fun A E Q h => call_own F.slot_int_eq (typeIs_int s i t) F.entry_int_eq (F.args_int_eq_2 _ _) (int_eq_own O.get O.dat h)⟩
theorem decl_ne_int (i : Int) (t : Tok) : Decl prog w s x .NotEq "int" (.int i t) := ⟨typeIs_int s i t, _, F.slot_int_ne, fun A E Q h => call_own F.slot_int_ne (typeIs_int s i t) F.entry_int_ne (F.args_int_ne_2 _ _) (int_ne_own O.get O.dat h)⟩
theorem decl_eq_bl (i : Bool) : Decl prog w s x .Eq "bool" (.bool i) := ⟨rfl, _, F.slot_bool_eq, fun A E Q h => call_own F.slot_bool_eq rfl F.entry_int_eq (F.args_int_eq_2 _ _) (bl_eq_own O.get O.dat h)⟩
theorem decl_ne_bl (i : Bool) : Decl prog w s x .NotEq "bool" (.bool i) := ⟨rfl, _, F.slot_bool_ne, fun A E Q h => call_own F.slot_bool_ne rfl F.entry_int_ne (F.args_int_ne_2 _ _) (bl_ne_own O.get O.dat h)⟩
theorem decl_eq_str (i : Str) (t : Tok) : Decl prog w s x .Eq "str" (.str i t) := ⟨typeIs_str s i t, _, F.slot_str_eq, fun A E Q h => call_own F.slot_str_eq (typeIs_str s i t) F.entry_str_eq (F.args_str_eq_2 _ _) (str_eq_own O.get O.dat h)⟩
theorem decl_ne_str (i : Str) (t : Tok) : Decl prog w s x .NotEq "str" (.str i t) := ⟨typeIs_str s i t, _, F.slot_str_ne, fun A E Q h => call_own F.slot_str_ne (typeIs_str s i t) F.entry_str_ne (F.args_str_ne_2 _ _) (str_ne_own O.get O.dat h)⟩
theorem decl_eq_non : Decl prog w s x .Eq "NoneType" .none := ⟨rfl, _, F.slot_NoneType_eq, fun A E Q h => call_own F.slot_NoneType_eq rfl F.entry_NoneType_eq (F.args_NoneType_eq_2 _ _) (non_eq_own h)⟩
theorem decl_ne_non : Decl prog w s x .NotEq "NoneType" .none := ⟨rfl, _, F.slot_NoneType_ne, fun A E Q h => call_own F.slot_NoneType_ne rfl F.entry_NoneType_ne (F.args_NoneType_ne_2 _ _) (non_ne_own h)⟩
theorem decl_eq_tup {l : Addr} (hT : s.TypeIs (.ref l) "tuple") : Decl prog w s x .Eq "tuple" (.ref l) := ⟨hT, _, F.slot_tuple_eq, fun A E Q h => call_own F.slot_tuple_eq hT F.entry_tuple_eq (F.args_tuple_eq_2 _ _) (tuple_eq_own O.t h)⟩
theorem decl_ne_tup {l : Addr} (hT : s.TypeIs (.ref l) "tuple") : Decl prog w s x .NotEq "tuple" (.ref l) := ⟨hT, _, F.slot_tuple_ne, fun A E Q h => call_own F.slot_tuple_ne hT F.entry_tuple_ne (F.args_tuple_ne_2 _ _) (tuple_ne_own O.t h)⟩
theorem decl_eq_lst {l : Addr} (hT : s.TypeIs (.ref l) "list") : Decl prog w s x .Eq "list" (.ref l) := ⟨hT, _, F.slot_list_eq, fun A E Q h => call_own F.slot_list_eq hT F.entry_list_eq (F.args_list_eq_2 _ _) (list_eq_own O.l h)⟩
theorem decl_ne_lst {l : Addr} (hT : s.TypeIs (.ref l) "list") : Decl prog w s x .NotEq "list" (.ref l) := ⟨hT, _, F.slot_list_ne, fun A E Q h => call_own F.slot_list_ne hT F.entry_list_ne (F.args_list_ne_2 _ _) (list_ne_own O.l h)⟩
theorem decl_eq_dct {l : Addr} (hT : s.TypeIs (.ref l) "dict") : Decl prog w s x .Eq "dict" (.ref l) := ⟨hT, _, F.slot_dict_eq, fun A E Q h => call_own F.slot_dict_eq hT F.entry_dict_eq (F.args_dict_eq_2 _ _) (dict_eq_own O.d h)⟩
theorem decl_ne_dct {l : Addr} (hT : s.TypeIs (.ref l) "dict") : Decl prog w s x .NotEq "dict" (.ref l) := ⟨hT, _, F.slot_dict_ne, fun A E Q h => call_own F.slot_dict_ne hT F.entry_dict_ne (F.args_dict_ne_2 _ _) (dict_ne_own O.d h)⟩
end
/-- x.__ne__(b), by the own __eq__ -/
theorem ne_one {Q : Value → Shared → Prop} (hu : A.in1.units < cLine) (X : K.In s.heap) (I : InstAt s.heap x ox C od) (hm : makesIn K C = true)
    (hne : findIn K (.ref C) "__ne__" = some (some (.builtin "object.__ne__"))) (hs : findIn K (.ref C) "__eq__" = some (some (.ref f))) (hf : isFn K (.ref f) = true)
    (h : wpAny (model prog w) A.in1 (call (.ref f) [.ref x, b]) (fun v s' => ∃ r, v = .bool r ∧ Q (.bool (!r)) s') E s) : wpAny (model prog w) A (tryCompare (.ref x) "__ne__" b) (fun r s' => ∃ v, r = some v ∧ Q v s') E s := by
  have Y := makes_of (M := model prog w) X hm
  have t2 : Looks (model prog w) s.heap (isInstance (.ref x) (.type "object")) true := I.type.andThen Y.top
  unfold tryCompare
  simp only [callSpecialIfBound?, bindSpecialIfBound?]
  have fin : wpAny (model prog w) A (call (.builtin "object.__ne__") ([.ref x] ++ [b])) (fun v s' => ∃ r, v = .bool r ∧ Q (.bool r) s') E s := by
    refine wpAny_call (codeAny_call_builtin on_plain PySem.F.cmpEntry_ne (@check_slot (model prog w) _ _ _ "object.__ne__" "object" "__ne__" (.ref x) [b] [] _ PySem.F.cmpKind_ne PySem.F.cmpSplit_ne t2 (PySem.F.cmpArgs_ne _ _) ?_))
    refine objNe_K (A := A.in1) hu X I hs hf (wpAny_mono h (fun v s' hv => ?_) fun _ _ e => e)
    obtain ⟨r, rfl, hq⟩ := hv
    first | exact ⟨r, rfl, !r, rfl, hq⟩ | exact ⟨r, rfl, ⟨!r, rfl, hq⟩⟩
  refine wpAny_bind (wpAny_holding (wpAny_bind (wpAny_bind (wpAny_bind (I.type.here ((looks_findIn X hne).here ?_))))))
  refine wpAny_bind (wpAny_askSetting (wpAny_ite ?_))
  have fin2 : wpAny (model prog w) A (call (.builtin "object.__ne__") ([.ref x] ++ [b]) >>= fun v => pure (some v)) (fun r s' => wpAny (model prog w) A (match r with
    | some .notImplemented | none => pure none
    | some v => pure (some v)) (fun r s' => ∃ v, r = some v ∧ Q v s') E s') E s := wpAny_bind (wpAny_mono fin (fun v s' hv => by
      obtain ⟨r, rfl, hq⟩ := hv
      exact wpAny_pure (wpAny_pure ⟨_, rfl, hq⟩)) fun _ _ e => e)
  split
  · exact wpAny_bind ((Looks.of_pure (on_bind (.ref x))).here (wpAny_pure (by exact fin2)))
  · exact wpAny_tryCatch (wpAny_bind ((Looks.of_pure (on_bind (.ref x))).here (wpAny_pure (by exact fin2))))
/-- thing == x, thing != x: the thing declines, then x is asked -/
theorem rc_from_right {op : CmpOp} {T : String} {Q : Value → Shared → Prop} (hu : A.units < cLine) (X : K.In s.heap) (I : InstAt s.heap x ox C od) (D : Decl prog w s x op T u) (hm : mroIn K C (.type T) = some false)
    (one : wpAny (model prog w) A (tryCompare (.ref x) (cmpInfo op).2.2 u) (fun r s' => ∃ v, r = some v ∧ Q v s') E s) : wpAny (model prog w) A (richCompare op u (.ref x)) Q E s := by
  obtain ⟨hT, id, slot, dec⟩ := D
  rcases hi : cmpInfo op with ⟨sym, f1, r⟩
  rw [hi] at slot one
  unfold richCompare
  simp only [hi, hT.oneThing_none]
  refine wpAny_holding (wpAny_bind (wpAny_cRoomFor hu ?_))
  refine wpAny_bind (wpAny_typeOf hT (wpAny_bind (I.type.here ?_)))
  rw [if_pos (by rfl)]
  refine wpAny_bind ((looks_subIn X (t := .ref C) (base := .type T) hm).here ?_)
  simp only [Bool.false_eq_true, if_false, Bool.not_false, if_true]
  refine wpAny_bind (m := tryCompare u _ (.ref x)) (wpAny_tryCompare_declines hT slot (dec _ _ _ ⟨rfl, ?_⟩))
  refine wpAny_bind (m := tryCompare (.ref x) _ u) (wpAny_mono one (fun r s' z => ?_) fun _ _ e => e)
  obtain ⟨v, rfl, hq⟩ := z
  exact wpAny_pure hq
end
end PySem.W
namespace PySem.W
open PySem PySem.Calls PySem.Spec PyProof.Rows Builtin
/-! ### bool(o), o of an own class with its own __len__ -/
section
variable {prog : Program} {w : World} {A : Around} {E : Value → Shared → Prop} {s : Shared} {K : Frag} {x C L f : Addr} {h₀ : Heap} {m : Str → Option Value} {ox : Obj} {od : Option Obj}
def TruthBack (Q : Bool → Shared → Prop) (v : Value) (s' : Shared) : Prop := match v with
  | .int n _ => (0 ≤ n ∧ n < 2 ^ 63) ∧ Q (n != 0) { s' with toks := s'.toks + 1 }
  | _ => False
theorem truthy_len {Q : Bool → Shared → Prop} (F : Fr h₀ L s.heap m) (X₀ : K.In h₀) (I : InstAt s.heap x ox C od) (hb : findIn K (.ref C) "__bool__" = some none) (hs : findIn K (.ref C) "__len__" = some (some (.ref f))) (hf : isFn K (.ref f) = true)
    (h : wpAny (model prog w) A.in1 (call (.ref f) [.ref x]) (TruthBack Q) E s) : wpAny (model prog w) A (truthy (.ref x)) Q E s := by
  have X := X₀.keeps F.keep
  have key : wpAny (model prog w) A (runValue (.builtin "len" ⟨[.ref x], []⟩)) (fun r s' => ∃ n t, r = .int n t ∧ Q (n != 0) s') E s := by
    refine wpAny_runValue (codeAny_builtin entry_len ?_)
    rw [Around.under_plainId plain_len _]
    unfold Builtin.«len»
    refine wpAny_bind (m := oneArg "len" _) (wpAny_pure ?_)
    refine wpAny_bind (m := callSpecial? (.ref x) (Str.ofString "__len__")) (special_fn X I hs (beq_iff_eq.mp hf) (wpAny_mono h (fun r s' hr => ?_) fun _ _ y => y))
    cases r <;> first | exact hr.elim | skip
    rename_i n u
    obtain ⟨⟨h0, h1⟩, hq⟩ := hr
    refine wpAny_bind (wpAny_holding (wpAny_pure ?_))
    refine wpAny_bind (wpAny_letGo ?_)
    show wpAny _ _ (if n < 0 then _ else _) _ _ _
    rw [if_neg (by omega)]
    show wpAny _ _ (if n ≥ 2 ^ 63 then _ else _) _ _ _
    rw [if_neg (by omega)]
    exact wpAny_bind (wpAny_mkInt (wpAny_pure ⟨_, _, rfl, hq⟩))
  unfold truthy
  refine wpAny_bind (m := callSpecial? (.ref x) (Str.ofString "__bool__")) (wpAny_bind (wpAny_bind (I.type.here ((looks_findIn X hb).here (wpAny_pure ?_)))))
  refine wpAny_bind (wpAny_bind (I.type.here ((looks_findIn X hs).here ?_)))
  refine wpAny_bind (wpAny_mono key (fun r s' z => ?_) fun _ _ e => e)
  obtain ⟨n, t, rfl, hq⟩ := z
  exact wpAny_pure hq
theorem boolK {Q : Value → Shared → Prop} (F : Fr h₀ L s.heap m) (X₀ : K.In h₀) (I : InstAt s.heap x ox C od) (hb : findIn K (.ref C) "__bool__" = some none) (hs : findIn K (.ref C) "__len__" = some (some (.ref f))) (hf : isFn K (.ref f) = true)
    (h : wpAny (model prog w) A.in1.in1.in1 (call (.ref f) [.ref x]) (TruthBack fun b s' => Q (.bool b) s') E s) : wpAny (model prog w) A (call (.type "bool") [.ref x]) Q E s := by
  refine callType_newIn (S := fun A' R s => wpAny (model prog w) A'.in1 (truthy (.ref x)) (fun b s' => R (.ok (.ret (.bool b))) s') (fun e s' => R (.error e) s') s) PySem.F.called_bool PySem.F.newNe_bool (PySem.F.typeCall_bool_1 _) (PySem.F.newCall_bool_1 _) (fun obj => PySem.F.args_object_init_2 obj _) PySem.F.entry_bool_new (fun A' R s' ht => ?_) ?_
  · obtain ⟨hp, g, d, tk, os⟩ := s'
    have f1 := PySem.F.conv_sub_bool
    have hh : wpAny (model prog w) A'.in1 (truthy (.ref x)) (fun b s'' => ∃ v, (Fin.done (.ret (.bool b)) : Fin) = .done (.ret v) ∧ R (.ok (.ret v)) s'') (fun e s'' => R (.error e) s'') (Shared.mk hp g d tk os) := wpAny_mono ht (fun b s'' z => ⟨_, rfl, z⟩) fun _ _ e => e
    repeat (any_goals (first | assumption | (refine wpAny_bind (m := truthy (.ref x)) (wpAny_mono ht (fun b s'' z => ?_) fun _ _ e => e)) | wp_step))
    all_goals first | exact z | assumption | skip
  · exact truthy_len F X₀ I hb hs hf (wpAny_mono h (fun v s' z => by
      cases v <;> first | exact z.elim | skip
      rename_i n u
      exact ⟨z.1, ⟨rfl, z.2⟩⟩) fun _ _ e => e)
end
end PySem.W
namespace Kx
open PySem L2 PySem.Spec PyProof.Rows
/-! ### an instance compared with a thing of any kind -/
structure ClsNo2 (K : PySem.W.Frag) (C : Addr) : Prop extends ClsNo K C where
  d : PySem.W.mroIn K C (.type "dict") = some false
  n : PySem.W.mroIn K C (.type "NoneType") = some false
inductive PyKind (K : PySem.W.Frag) (C : Addr) : String → Prop where
  | non (h : PySem.W.mroIn K C (.type "NoneType") = some false) : PyKind K C "NoneType"
  | bl (h : PySem.W.mroIn K C (.type "bool") = some false) : PyKind K C "bool"
  | int (h : PySem.W.mroIn K C (.type "int") = some false) : PyKind K C "int"
  | str (h : PySem.W.mroIn K C (.type "str") = some false) : PyKind K C "str"
  | lst (h : PySem.W.mroIn K C (.type "list") = some false) : PyKind K C "list"
  | tup (h : PySem.W.mroIn K C (.type "tuple") = some false) : PyKind K C "tuple"
  | dct (h : PySem.W.mroIn K C (.type "dict") = some false) : PyKind K C "dict"
theorem PyKind.no {K : PySem.W.Frag} {C : Addr} {T : String} (h : PyKind K C T) : PySem.W.mroIn K C (.type T) = some false := by cases h <;> assumption
theorem pyKind_of {K : PySem.W.Frag} {C : Addr} (c : ClsNo2 K C) : ∀ {d : Dat}, isIns d = false → PyKind K C (tyD d)
  | .none, _ => .non c.n
  | .bool _, _ => .bl c.b
  | .int _, _ => .int c.i
  | .str _, _ => .str c.s
  | .list _, _ => .lst c.l
  | .tuple _, _ => .tup c.t
  | .rtup _, _ => .tup c.t
  | .dK _ _, _ => .dct c.d
section
variable {X : Cx} {pins : List (Addr × Obj)} {s : Shared} {σ : L2.St} {H : Hp}
/-- where a value of one of Python's kinds stands -/
theorem nf_ {p q : Prop} (h : ¬ p) : p → q := fun e => absurd e h
theorem ty_at {x : V} {u : Value} {T : String} (I : Inv X pins σ H s) (rx : RelV x u) (ty : TyX X.K H x (.type T)) : s.TypeIs u T ∧ (T = "NoneType" → u = .none) ∧ (T = "bool" → ∃ b, u = .bool b) ∧ (T = "int" → ∃ i t, u = .int i t) ∧ (T = "str" → ∃ i t, u = .str i t) ∧ (T = "list" ∨ T = "tuple" ∨ T = "dict" → ∃ l, u = .ref l) := by
  cases ty with
  | base b =>
    cases b with
    | non => cases (show u = Value.none from rx); exact ⟨rfl, fun _ => rfl, (nf_ (by decide)), (nf_ (by decide)), (nf_ (by decide)), (nf_ (by decide))⟩
    | bl y => cases (show u = Value.bool y from rx); exact ⟨rfl, (nf_ (by decide)), fun _ => ⟨_, rfl⟩, (nf_ (by decide)), (nf_ (by decide)), (nf_ (by decide))⟩
    | int i => obtain ⟨t, q⟩ := (show ∃ t, u = Value.int i t from rx); cases q; exact ⟨typeIs_int _ _ _, (nf_ (by decide)), (nf_ (by decide)), fun _ => ⟨_, _, rfl⟩, (nf_ (by decide)), (nf_ (by decide))⟩
    | str y => obtain ⟨t, q⟩ := (show ∃ t, u = Value.str y t from rx); cases q; exact ⟨typeIs_str _ _ _, (nf_ (by decide)), (nf_ (by decide)), (nf_ (by decide)), fun _ => ⟨_, _, rfl⟩, (nf_ (by decide))⟩
    | flt y => obtain ⟨t, q⟩ := (show ∃ t, u = Value.float y t from rx); cases q; exact ⟨rfl, (nf_ (by decide)), (nf_ (by decide)), (nf_ (by decide)), (nf_ (by decide)), (nf_ (by decide))⟩
    | @lst a xs ea =>
      cases (show u = Value.ref a from rx)
      obtain ⟨_, _, n, _, h1⟩ := (show ObjOk X.prog X.w H s.heap a (.lst xs) from I.hok a _ ea)
      exact ⟨⟨_, h1, rfl⟩, (nf_ (by decide)), (nf_ (by decide)), (nf_ (by decide)), (nf_ (by decide)), fun _ => ⟨_, rfl⟩⟩
    | @frz a ob xs ea =>
      cases (show u = Value.ref a from rx)
      obtain ⟨_, _, _, n, _, h1⟩ := (show ObjOk X.prog X.w H s.heap a (.frz ob (.lst xs)) from I.hok a _ ea)
      exact ⟨⟨_, h1, rfl⟩, (nf_ (by decide)), (nf_ (by decide)), (nf_ (by decide)), (nf_ (by decide)), fun _ => ⟨_, rfl⟩⟩
    | @tup a xs ea =>
      cases (show u = Value.ref a from rx)
      obtain ⟨_, _, _, o, h1, h2, _⟩ := (show ObjOk X.prog X.w H s.heap a (.tup xs) from I.hok a _ ea)
      exact ⟨⟨o, h1, h2⟩, (nf_ (by decide)), (nf_ (by decide)), (nf_ (by decide)), (nf_ (by decide)), fun _ => ⟨_, rfl⟩⟩
    | @dK a kvs ea =>
      cases (show u = Value.ref a from rx)
      obtain ⟨_, _, vs, _, o, es, ep, h1, h2, _⟩ := (show ObjOk X.prog X.w H s.heap a (.dK kvs) from I.hok a _ ea)
      exact ⟨⟨o, h1, h2.1⟩, (nf_ (by decide)), (nf_ (by decide)), (nf_ (by decide)), (nf_ (by decide)), fun _ => ⟨_, rfl⟩⟩
    | @dT a kvs ea =>
      cases (show u = Value.ref a from rx)
      obtain ⟨_, _, xs, _, o, es, ep, h1, h2, _⟩ := (show ObjOk X.prog X.w H s.heap a (.dT kvs) from I.hok a _ ea)
      exact ⟨⟨o, h1, h2.1⟩, (nf_ (by decide)), (nf_ (by decide)), (nf_ (by decide)), (nf_ (by decide)), fun _ => ⟨_, rfl⟩⟩
  | byt y => obtain ⟨t, q⟩ := (show ∃ t, u = Value.bytes y t from rx); cases q; exact ⟨rfl, (nf_ (by decide)), (nf_ (by decide)), (nf_ (by decide)), (nf_ (by decide)), (nf_ (by decide))⟩
  | @set a S n ea =>
    cases (show u = Value.ref a from rx)
    obtain ⟨o, _, _, _, e, ex, _⟩ := I.hok a _ ea
    exact ⟨⟨o, e, ex.1⟩, (nf_ (by decide)), (nf_ (by decide)), (nf_ (by decide)), (nf_ (by decide)), fun _ => ⟨_, rfl⟩⟩
  | @kList a o e c =>
    cases (show u = Value.ref a from rx)
    exact ⟨⟨o, I.kIn a o e, c⟩, (nf_ (by decide)), (nf_ (by decide)), (nf_ (by decide)), (nf_ (by decide)), fun _ => ⟨_, rfl⟩⟩
  | @kTuple a o e c =>
    cases (show u = Value.ref a from rx)
    exact ⟨⟨o, I.kIn a o e, c⟩, (nf_ (by decide)), (nf_ (by decide)), (nf_ (by decide)), (nf_ (by decide)), fun _ => ⟨_, rfl⟩⟩
  | @kDict a o e c =>
    cases (show u = Value.ref a from rx)
    exact ⟨⟨o, I.kIn a o e, c⟩, (nf_ (by decide)), (nf_ (by decide)), (nf_ (by decide)), (nf_ (by decide)), fun _ => ⟨_, rfl⟩⟩
  | @fTuple a ob xs ea =>
    cases (show u = Value.ref a from rx)
    obtain ⟨_, _, _, _, o, h1, h2, _⟩ := (show ObjOk X.prog X.w H s.heap a (.frz ob (.tup xs)) from I.hok a _ ea)
    exact ⟨⟨o, h1, h2⟩, (nf_ (by decide)), (nf_ (by decide)), (nf_ (by decide)), (nf_ (by decide)), fun _ => ⟨_, rfl⟩⟩
  | @fDict a ob kvs ea =>
    cases (show u = Value.ref a from rx)
    obtain ⟨_, _, _, vs, _, o, es, ep, h1, h2, _⟩ := (show ObjOk X.prog X.w H s.heap a (.frz ob (.dK kvs)) from I.hok a _ ea)
    exact ⟨⟨o, h1, h2.1⟩, (nf_ (by decide)), (nf_ (by decide)), (nf_ (by decide)), (nf_ (by decide)), fun _ => ⟨_, rfl⟩⟩
theorem decl_eq {x : Addr} {ox : Obj} {T : String} {u : Value} {v : V} (O : PySem.W.OwnAt X.prog X.w s x ox) (hk : PyKind X.K C T) (I : Inv X pins σ H s) (rx : RelV v u) (ty : TyX X.K H v (.type T)) : PySem.W.Decl X.prog X.w s x .Eq T u := by
  obtain ⟨hT, h1, h2, h3, h4, h5⟩ := ty_at I rx ty
  cases hk with
  | non _ => cases h1 rfl; exact PySem.W.decl_eq_non O
  | bl _ => obtain ⟨b, rfl⟩ := h2 rfl; exact PySem.W.decl_eq_bl O b
  | int _ => obtain ⟨b, t, rfl⟩ := h3 rfl; exact PySem.W.decl_eq_int O b t
  | str _ => obtain ⟨b, t, rfl⟩ := h4 rfl; exact PySem.W.decl_eq_str O b t
  | lst _ => obtain ⟨b, rfl⟩ := h5 (.inl rfl); exact PySem.W.decl_eq_lst O hT
  | tup _ => obtain ⟨b, rfl⟩ := h5 (.inr (.inl rfl)); exact PySem.W.decl_eq_tup O hT
  | dct _ => obtain ⟨b, rfl⟩ := h5 (.inr (.inr rfl)); exact PySem.W.decl_eq_dct O hT
theorem decl_ne {x : Addr} {ox : Obj} {T : String} {u : Value} {v : V} (O : PySem.W.OwnAt X.prog X.w s x ox) (hk : PyKind X.K C T) (I : Inv X pins σ H s) (rx : RelV v u) (ty : TyX X.K H v (.type T)) : PySem.W.Decl X.prog X.w s x .NotEq T u := by
  obtain ⟨hT, h1, h2, h3, h4, h5⟩ := ty_at I rx ty
  cases hk with
  | non _ => cases h1 rfl; exact PySem.W.decl_ne_non O
  | bl _ => obtain ⟨b, rfl⟩ := h2 rfl; exact PySem.W.decl_ne_bl O b
  | int _ => obtain ⟨b, t, rfl⟩ := h3 rfl; exact PySem.W.decl_ne_int O b t
  | str _ => obtain ⟨b, t, rfl⟩ := h4 rfl; exact PySem.W.decl_ne_str O b t
  | lst _ => obtain ⟨b, rfl⟩ := h5 (.inl rfl); exact PySem.W.decl_ne_lst O hT
  | tup _ => obtain ⟨b, rfl⟩ := h5 (.inr (.inl rfl)); exact PySem.W.decl_ne_tup O hT
  | dct _ => obtain ⟨b, rfl⟩ := h5 (.inr (.inr rfl)); exact PySem.W.decl_ne_dct O hT
end
/-- a thing of one of Python's kinds -/
def thO (d : Dat) : Option Unit := cond (isIns d) none (some ())
theorem thO_of {d : Dat} {u : Unit} (h : thO d = some u) : isIns d = false := by
  unfold thO at h
  cases e : isIns d with
  | true => rw [e] at h; cases h
  | false => rfl
theorem subNo_of {K : PySem.W.Frag} {C : Addr} {T : String} (h : PyKind K C T) (C' : Addr) : PySem.W.subIn K (.type T) (.ref C') = some false := by
  cases h <;> rfl
def rCmpX (K : PySem.W.Frag) (C : Addr) (sp : Sp) (E : XK) (neg : Bool) : R2 := fun x y H Q => ∃ a dx fs T, x = .ref a ∧ H a = some (.ins C dx fs) ∧ TyX K H y (.type T) ∧ PyKind K C T ∧ sp [.ref a, y] H (fun v H' => ∃ r, v = .bl r ∧ Q (.bl (if neg then !r else r)) H') E
def rCmpXr (K : PySem.W.Frag) (C : Addr) (sp : Sp) (E : XK) (neg : Bool) : R2 := fun x y H Q => ∃ a dx fs T, y = .ref a ∧ H a = some (.ins C dx fs) ∧ TyX K H x (.type T) ∧ PyKind K C T ∧ sp [.ref a, x] H (fun v H' => ∃ r, v = .bl r ∧ Q (.bl (if neg then !r else r)) H') E
section
variable {X : Cx} {CX : CXT} {k : Nat} {C f : Addr} {fd : FuncData} {ps : List Str} {sp : Sp} {E : XK}
theorem cmp_call2 {A : Around} (F : FnOk X.prog X.w X.K X.mg X.base CX k f fd ps sp) (hr : Room k A) (fr : A.frames = X.A.frames) (hb : Binds X.K fd ps []) (hx : Passes CX X E) {pins : List (Addr × Obj)} {s : Shared} {σ : L2.St} {H : Hp} {a : Addr} {y : V} {u : Value} {Q : VK}
    (I : Inv X pins σ H s) (ry : RelV y u) (hsp : sp [.ref a, y] H Q E) : wpAny (model X.prog X.w) A (call (.ref f) [.ref a, u]) (EP X pins σ Q) X.xe s := by
  have e0 : Env0 X.prog X.w X.K X.mg X.base A X.stack s H := by
    have e := I.env0
    exact ⟨by rw [fr]; exact e.frames, e.mod, e.bs, e.bsz, e.funs, e.frf, e.hok, e.bare⟩
  have hl := F.len _ _ _ _ hsp
  have r2 : Vals [V.ref a, y] [Value.ref a, u] := .cons rfl (.cons ry .nil)
  refine wpAny_call (codeAny_mono (F.run A X.stack s H ⟨[.ref a, u], []⟩ [.ref a, u] [.ref a, y] Q E hr e0 (by
    have := hb s [.ref a, u] I.kIn (by simpa using hl)
    simpa using this) r2 hsp) fun r s' hq => ?_)
  cases r with
  | error e => exact hx pins σ H s e s' I hq
  | ok fl =>
    cases fl with
    | ret u => exact I.after hq
    | next => exact False.elim hq
    | brk => exact False.elim hq
    | cont => exact False.elim hq
theorem typeOf_looks {prog : Program} {w : World} {s : Shared} {u : Value} {T : String} (h : s.TypeIs u T) : PySem.W.Looks (model prog w) s.heap (typeOf u) (.type T) := fun A Q E s' k q => by
  refine wpAny_typeOf ?_ q
  cases u <;> first | exact h | (obtain ⟨o, e, c⟩ := h; exact ⟨o, k _ _ e, c⟩)
theorem op_eqX (F : FnOk X.prog X.w X.K X.mg X.base CX k f fd ps sp) (hr : Room (k + 1) X.A) (hs : PySem.W.findIn X.K (.ref C) "__eq__" = some (some (.ref f))) (hf : PySem.W.isFn X.K (.ref f) = true) (hb : Binds X.K fd ps []) (hx : Passes CX X E) : OpR X (compareOp .Eq) (rCmpX X.K C sp E false) := by
  intro pins s σ H x y v u Q I rx ry h
  obtain ⟨a, dx, fs, T, rfl, ha, ty, hk, hsp⟩ := h
  cases rx
  obtain ⟨mA, J, _⟩ := ins_get I.hok ha
  obtain ⟨od, J, _⟩ := J.look
  obtain ⟨m, hF⟩ := I.fr
  have hT := (ty_at I ry ty).1
  show wpAny (model X.prog X.w) X.A (richCompare .Eq (.ref a) u) (EP X pins σ Q) X.xe s
  refine PySem.W.cmp_K (op := .Eq) (tb := .type T) hr.units0 hF I.ok.mod.kin J (typeOf_looks hT) (by unfold PySem.W.notFirst; rw [subNo_of hk]; exact Bool.or_true _) hs hf (wpAny_mono (cmp_call2 F (hr.mono (Nat.le_succ _)) rfl hb hx I ry hsp) (fun w' s' z => ?_) fun _ _ e => e)
  obtain ⟨z, H', I', rz, r, ez, q⟩ := z
  subst ez
  cases rz
  exact ⟨.bl r, H', I', rfl, q⟩
theorem op_neX (F : FnOk X.prog X.w X.K X.mg X.base CX k f fd ps sp) (hr : Room (k + 1) X.A) (hm : PySem.W.makesIn X.K C = true) (hne : PySem.W.findIn X.K (.ref C) "__ne__" = some (some (.builtin "object.__ne__"))) (hs : PySem.W.findIn X.K (.ref C) "__eq__" = some (some (.ref f))) (hf : PySem.W.isFn X.K (.ref f) = true) (hb : Binds X.K fd ps []) (hx : Passes CX X E) : OpR X (compareOp .NotEq) (rCmpX X.K C sp E true) := by
  intro pins s σ H x y v u Q I rx ry h
  obtain ⟨a, dx, fs, T, rfl, ha, ty, hk, hsp⟩ := h
  cases rx
  obtain ⟨mA, J, _⟩ := ins_get I.hok ha
  obtain ⟨od, J, _⟩ := J.look
  obtain ⟨m, hF⟩ := I.fr
  have hT := (ty_at I ry ty).1
  show wpAny (model X.prog X.w) X.A (richCompare .NotEq (.ref a) u) (EP X pins σ Q) X.xe s
  refine PySem.W.ne_K (tb := .type T) (by have := hr.un; omega) hF I.ok.mod.kin J (typeOf_looks hT) (by unfold PySem.W.notFirst; rw [subNo_of hk]; exact Bool.or_true _) hm hne hs hf (wpAny_mono (cmp_call2 F hr.in1 rfl hb hx I ry hsp) (fun w' s' z => ?_) fun _ _ e => e)
  obtain ⟨z, H', I', rz, r, ez, q⟩ := z
  subst ez
  cases rz
  exact ⟨r, rfl, .bl (!r), H', I', rfl, q⟩
theorem own_at (c : ClsNo2 X.K C) {pins : List (Addr × Obj)} {s : Shared} {σ : L2.St} {H : Hp} {a dx : Addr} {fs : List (Str × V)} (I : Inv X pins σ H s) (ha : H a = some (.ins C dx fs)) : ∃ od, PySem.W.OwnAt X.prog X.w s a (PySem.W.instObj C dx) ∧ PySem.W.InstAt s.heap a (PySem.W.instObj C dx) C od := by
  have hg : s.heap.get? a = some (PySem.W.instObj C dx) := (show ObjOk X.prog X.w H s.heap a (.ins C dx fs) from I.hok a _ ha).2.2.2.1
  obtain ⟨mA, J, _⟩ := ins_get I.hok ha
  obtain ⟨od, J, _⟩ := J.look
  have e := J.at_
  rw [hg] at e
  cases e
  exact ⟨od, ⟨hg, rfl, J.type.andThen (PySem.W.looks_subIn I.kIn (t := .ref C) c.t), J.type.andThen (PySem.W.looks_subIn I.kIn (t := .ref C) c.l), J.type.andThen (PySem.W.looks_subIn I.kIn (t := .ref C) c.d)⟩, J⟩
theorem op_eqXr (F : FnOk X.prog X.w X.K X.mg X.base CX k f fd ps sp) (hr : Room (k + 1) X.A) (c : ClsNo2 X.K C) (hs : PySem.W.findIn X.K (.ref C) "__eq__" = some (some (.ref f))) (hf : PySem.W.isFn X.K (.ref f) = true) (hb : Binds X.K fd ps []) (hx : Passes CX X E) : OpR X (compareOp .Eq) (rCmpXr X.K C sp E false) := by
  intro pins s σ H x y v u Q I rx ry h
  obtain ⟨a, dx, fs, T, rfl, ha, ty, hk, hsp⟩ := h
  cases ry
  obtain ⟨od, O, J⟩ := own_at c I ha
  show wpAny (model X.prog X.w) X.A (richCompare .Eq v (.ref a)) (EP X pins σ Q) X.xe s
  refine PySem.W.rc_from_right hr.units0 I.kIn J (decl_eq O hk I rx ty) hk.no ?_
  show wpAny (model X.prog X.w) X.A (tryCompare (.ref a) "__eq__" v) _ X.xe s
  unfold tryCompare
  refine wpAny_bind (PySem.W.ifBound_K I.kIn J hs hf (wpAny_mono (cmp_call2 F (hr.mono (Nat.le_succ _)) rfl hb hx I rx hsp) (fun w' s' z => ?_) fun _ _ e => e))
  obtain ⟨z, H', I', rz, r, ez, q⟩ := z
  subst ez
  cases rz
  exact wpAny_pure ⟨_, rfl, .bl r, H', I', rfl, q⟩
theorem op_neXr (F : FnOk X.prog X.w X.K X.mg X.base CX k f fd ps sp) (hr : Room (k + 1) X.A) (c : ClsNo2 X.K C) (hm : PySem.W.makesIn X.K C = true) (hne : PySem.W.findIn X.K (.ref C) "__ne__" = some (some (.builtin "object.__ne__"))) (hs : PySem.W.findIn X.K (.ref C) "__eq__" = some (some (.ref f))) (hf : PySem.W.isFn X.K (.ref f) = true) (hb : Binds X.K fd ps []) (hx : Passes CX X E) : OpR X (compareOp .NotEq) (rCmpXr X.K C sp E true) := by
  intro pins s σ H x y v u Q I rx ry h
  obtain ⟨a, dx, fs, T, rfl, ha, ty, hk, hsp⟩ := h
  cases ry
  obtain ⟨od, O, J⟩ := own_at c I ha
  show wpAny (model X.prog X.w) X.A (richCompare .NotEq v (.ref a)) (EP X pins σ Q) X.xe s
  refine PySem.W.rc_from_right hr.units0 I.kIn J (decl_ne O hk I rx ty) hk.no ?_
  refine PySem.W.ne_one (by have := hr.un; show X.A.units + 1 < _; omega) I.kIn J hm hne hs hf (wpAny_mono (cmp_call2 F hr.in1 rfl hb hx I rx hsp) (fun w' s' z => ?_) fun _ _ e => e)
  obtain ⟨z, H', I', rz, r, ez, q⟩ := z
  subst ez
  cases rz
  exact ⟨r, rfl, .bl (!r), H', I', rfl, q⟩
end
section
variable {α : Type} {K : PySem.W.Frag} {σ σ' : L2.St} {G G' M M1 M2 M3 H : Hp} {ta tb : TE} {cn : Str} {ns : List Str} {ds : List Dat} {d : Dat}
theorem ev_cmpX [Tb] (c : ClsNo2 K (clsAt K cn)) {args : α → List V → Hp → Prop} {m : α → Option Bool} {E : XK} {a : α} {r : Bool} {u : Unit} {neg : Bool} (hA : args a = conP (DD K (.ins cn ns ds)) (conP (DD K d) nilP)) (hu : thO d = some u) (hm : m a = some r)
    (ha : Ev ta σ G M M1 (DD K (.ins cn ns ds))) (hb : Ev tb σ G M1 M2 (DD K d)) : Ev (tOp (rCmpX K (clsAt K cn) (spP args m fun b => DD K (.bool b)) E neg) ta tb) σ G M M2 (DD K (.bool (if neg then !r else r))) := ev_op mo_dd ha hb fun x y G0 H s k hx hy Q q => by
  obtain ⟨a1, dx, fs, rfl, h1, h2, _⟩ := dq_ins hx
  subst h2
  have hi := thO_of hu
  have ty := tyx_of k.g (noIns hi) (noDT hi) hy
  rw [tyV_of hi] at ty
  refine ⟨a1, dx, fs, _, rfl, k.g _ _ h1, ty, pyKind_of c hi, G0, M2, a, r, k, by rw [hA]; exact ⟨_, _, rfl, hx, _, _, rfl, hy, rfl⟩, hm, fun v G3 H3 s3 k3 hr => ?_⟩
  cases hr
  exact ⟨r, rfl, q _ G3 H3 s3 k3 (.bl _)⟩
theorem ev_cmpXr [Tb] (c : ClsNo2 K (clsAt K cn)) {args : α → List V → Hp → Prop} {m : α → Option Bool} {E : XK} {a : α} {r : Bool} {u : Unit} {neg : Bool} (hA : args a = conP (DD K (.ins cn ns ds)) (conP (DD K d) nilP)) (hu : thO d = some u) (hm : m a = some r)
    (hb : Ev tb σ G M M1 (DD K d)) (ha : Ev ta σ G M1 M2 (DD K (.ins cn ns ds))) : Ev (tOp (rCmpXr K (clsAt K cn) (spP args m fun b => DD K (.bool b)) E neg) tb ta) σ G M M2 (DD K (.bool (if neg then !r else r))) := ev_op mo_dd hb ha fun y x G0 H s k hy hx Q q => by
  obtain ⟨a1, dx, fs, rfl, h1, h2, _⟩ := dq_ins hx
  subst h2
  have hi := thO_of hu
  have ty := tyx_of k.g (noIns hi) (noDT hi) hy
  rw [tyV_of hi] at ty
  refine ⟨a1, dx, fs, _, rfl, k.g _ _ h1, ty, pyKind_of c hi, G0, M2, a, r, k, by rw [hA]; exact ⟨_, _, rfl, hx, _, _, rfl, hy, rfl⟩, hm, fun v G3 H3 s3 k3 hr => ?_⟩
  cases hr
  exact ⟨r, rfl, q _ G3 H3 s3 k3 (.bl _)⟩
end
/-! ### len(o), bool(o) by an own __len__ -/
def rLenOwn (C : Addr) (sp : Sp) (E : XK) : List V → Hp → VK → Prop := fun xs H Q => ∃ a dx fs, xs = [.ref a] ∧ H a = some (.ins C dx fs) ∧ sp [.ref a] H (fun v H' => ∃ n, v = .int n ∧ (0 ≤ n ∧ n < 2 ^ 63) ∧ Q (.int n) H') E
def rBoolOwn (C : Addr) (sp : Sp) (E : XK) : List V → Hp → VK → Prop := fun xs H Q => ∃ a dx fs, xs = [.ref a] ∧ H a = some (.ins C dx fs) ∧ sp [.ref a] H (fun v H' => ∃ n, v = .int n ∧ (0 ≤ n ∧ n < 2 ^ 63) ∧ Q (.bl (n != 0)) H') E
section
variable {X : Cx} {C f : Addr} {fd : FuncData} {ps : List Str} {sp : Sp} {k : Nat} {E : XK}
theorem own_callG {A : Around} {pins : List (Addr × Obj)} {s : Shared} {σ : L2.St} {H : Hp} {a : Addr} {Q : VK} (F : FnOk X.prog X.w X.K X.mg X.base CX0 k f fd ps sp) (hb : Binds X.K fd ps []) (hx : Passes CX0 X E) (hr : Room k A) (I : Inv X pins σ H s) (e0 : Env0 X.prog X.w X.K X.mg X.base A X.stack s H)
    (h : sp [.ref a] H Q E) : wpAny (model X.prog X.w) A (call (.ref f) [.ref a]) (EP X pins σ Q) X.xe s := by
  have hl := F.len _ _ _ _ h
  have r2 : Vals [V.ref a] [Value.ref a] := .cons rfl .nil
  refine wpAny_call (codeAny_mono (F.run A X.stack s H ⟨[.ref a], []⟩ [.ref a] [.ref a] _ E hr e0 (by
    have := hb s [.ref a] I.kIn (by simpa using hl)
    simpa using this) r2 h) fun r s' hq => ?_)
  cases r with
  | error e => exact hx pins σ H s e s' I hq
  | ok fl =>
    cases fl with
    | ret w => exact I.after hq
    | next => exact False.elim hq
    | brk => exact False.elim hq
    | cont => exact False.elim hq
theorem cl_lenOwn (F : FnOk X.prog X.w X.K X.mg X.base CX0 k f fd ps sp) (hs : PySem.W.findIn X.K (.ref C) "__len__" = some (some (.ref f))) (hf : PySem.W.isFn X.K (.ref f) = true) (hb : Binds X.K fd ps []) (hr : Room (k + 3) X.A) (hx : Passes CX0 X E) : CallR X (.builtin "len") (rLenOwn C sp E) := by
  intro pins s σ H xs us Q I r h
  obtain ⟨a, dx, fs, rfl, ha, h⟩ := h
  cases r with
  | cons r1 r2 =>
    cases r2
    obtain rfl := r1
    obtain ⟨mA, J, _⟩ := ins_get I.hok ha
    obtain ⟨od, J, _⟩ := J.look
    obtain ⟨m, hF⟩ := I.fr
    have hr2 : Room k X.A.in1 := hr.in1.mono (by omega)
    refine PySem.W.len_K hF I.ok.mod.kin J hs hf (wpAny_mono (own_callG F hb hx hr2 I I.env0.in1 h) (fun v s' z => ?_) fun _ _ e => e)
    obtain ⟨z, H', I', rz, n, ez, hn, q⟩ := z
    subst ez
    obtain ⟨t, rfl⟩ := rz
    exact ⟨hn, .int n, H', I'.tok _, ⟨_, rfl⟩, q⟩
theorem cl_boolOwn (F : FnOk X.prog X.w X.K X.mg X.base CX0 k f fd ps sp) (hn : PySem.W.findIn X.K (.ref C) "__bool__" = some none) (hs : PySem.W.findIn X.K (.ref C) "__len__" = some (some (.ref f))) (hf : PySem.W.isFn X.K (.ref f) = true) (hb : Binds X.K fd ps []) (hr : Room (k + 3) X.A) (hx : Passes CX0 X E) : CallR X (.type "bool") (rBoolOwn C sp E) := by
  intro pins s σ H xs us Q I r h
  obtain ⟨a, dx, fs, rfl, ha, h⟩ := h
  cases r with
  | cons r1 r2 =>
    cases r2
    obtain rfl := r1
    obtain ⟨mA, J, _⟩ := ins_get I.hok ha
    obtain ⟨od, J, _⟩ := J.look
    obtain ⟨m, hF⟩ := I.fr
    have hr2 : Room k X.A.in1.in1.in1 := hr.in1.in1.in1
    refine PySem.W.boolK hF I.ok.mod.kin J hn hs hf (wpAny_mono (own_callG F hb hx hr2 I I.env0.in1.in1.in1 h) (fun v s' z => ?_) fun _ _ e => e)
    obtain ⟨z, H', I', rz, n, ez, hn, q⟩ := z
    subst ez
    obtain ⟨t, rfl⟩ := rz
    exact ⟨hn, .bl (n != 0), H', I'.tok _, rfl, q⟩
end
def lenXO (n : Int) : Option Int := (grd (0 ≤ n ∧ n < 2 ^ 63)).bind fun _ => some n
section
variable [Tb] {K : PySem.W.Frag} {σ : L2.St} {G M M1 : Hp} {ta : TE} {cn : Str} {ns : List Str} {ds : List Dat}
theorem ev_lenOwn {α : Type} {args : α → List V → Hp → Prop} {m : α → Option Int} {E : XK} {a : α} {r n : Int} (hA : args a = conP (DD K (.ins cn ns ds)) nilP) (hm : m a = some r) (hn : lenXO r = some n) (ha : EvA (tCons ta tNil) σ G M M1 (conP (DD K (.ins cn ns ds)) nilP)) :
    Ev (tCB (rLenOwn (clsAt K cn) (spP args m fun r => DD K (.int r)) E) (tCons ta tNil)) σ G M M1 (DD K (.int n)) := fun G0 H s k Q q => ha G0 H s k _ fun vs G1 H1 s1 k1 hv => by
  obtain ⟨_, h1, h2⟩ := bs hn
  cases h2
  have z := grd_of h1
  have hv0 := hv
  obtain ⟨v, ws, rfl, hv, rfl⟩ := hv
  obtain ⟨b, dx, fs, rfl, h1, h2, h3⟩ := dq_ins hv
  refine ⟨b, dx, fs, rfl, k1.g _ _ h1, G1, M1, a, _, k1, by rw [hA]; exact hv0, hm, fun v G2 H2 s2 k2 hr => ?_⟩
  have hr0 := hr
  cases hr
  exact ⟨_, rfl, z, q _ G2 H2 (s1.trans s2) k2 hr0⟩
theorem ev_boolOwn {α : Type} {args : α → List V → Hp → Prop} {m : α → Option Int} {E : XK} {a : α} {r n : Int} (hA : args a = conP (DD K (.ins cn ns ds)) nilP) (hm : m a = some r) (hn : lenXO r = some n) (ha : EvA (tCons ta tNil) σ G M M1 (conP (DD K (.ins cn ns ds)) nilP)) :
    Ev (tCB (rBoolOwn (clsAt K cn) (spP args m fun r => DD K (.int r)) E) (tCons ta tNil)) σ G M M1 (DD K (.bool (n != 0))) := fun G0 H s k Q q => ha G0 H s k _ fun vs G1 H1 s1 k1 hv => by
  obtain ⟨_, h1, h2⟩ := bs hn
  cases h2
  have z := grd_of h1
  have hv0 := hv
  obtain ⟨v, ws, rfl, hv, rfl⟩ := hv
  obtain ⟨b, dx, fs, rfl, h1, h2, h3⟩ := dq_ins hv
  refine ⟨b, dx, fs, rfl, k1.g _ _ h1, G1, M1, a, _, k1, by rw [hA]; exact hv0, hm, fun v G2 H2 s2 k2 hr => ?_⟩
  cases hr
  exact ⟨_, rfl, z, q _ G2 H2 (s1.trans s2) k2 (.bl _)⟩
end
/-! ### truths compared by is -/
section
variable {X : Cx}
def rIsTr (neg : Bool) : R2 := fun x y H Q => ∃ a b, x = .bl a ∧ y = .bl b ∧ Q (.bl (if neg then !decide (a = b) else decide (a = b))) H
theorem op_notTr : OpR X (compareOp .IsNot) (rIsTr true) := by
  intro pins s σ H x y v u Q I rx ry h
  obtain ⟨a, b, rfl, rfl, q⟩ := h
  cases rx
  cases ry
  show wpAny (model X.prog X.w) X.A (compareOp .IsNot (.bool a) (.bool b)) (EP X pins σ Q) X.xe s
  cases a <;> cases b <;> exact wpAny_pure ⟨.bl _, H, I, rfl, q⟩
end
section
variable [Tb] {K : PySem.W.Frag} {σ : L2.St} {G M M1 M2 : Hp} {ta tb : TE} {a b : Bool}
theorem ev_notTr (ha : Ev ta σ G M M1 (DD K (.bool a))) (hb : Ev tb σ G M1 M2 (DD K (.bool b))) : Ev (tOp (rIsTr true) ta tb) σ G M M2 (DD K (.bool (!decide (a = b)))) := ev_op mo_dd ha hb fun x y G0 H s k hx hy Q q => by
  cases hx
  cases hy
  exact ⟨a, b, rfl, rfl, q _ G0 H (Same.refl _) k (.bl _)⟩
end
/-! ### a slice of a tuple as a tuple of which no more is known (a key) -/
theorem sl_tupAK {X : Cx} {K : PySem.W.Frag} (h : X.K = K := by rfl) : SlR X (rSlA K) := h ▸ sl_tupA
section
variable [Tb] {K : PySem.W.Frag} {σ : L2.St} {G M : Hp} {te : TE} {ds : List Dat}
theorem ev_slR {tl th : TO} {lo hi : Option Int} (hn : ¬ (HT.sIx ds.length 0 lo = 0 ∧ HT.sIx ds.length ds.length hi = ds.length)) (h : Ev te σ G M M (DD K (.tuple ds))) (h1 : EvO tl σ G M M lo) (h2 : EvO th σ G M M hi) : Ev (tSl (rSlA K) te tl th) σ G M M (DD K (.rtup (cut ds lo hi))) := fun G0 H s k Q q =>
  h G0 H s k _ fun x G1 H1 s1 k1 hx => h1 G1 H1 (s.trans s1) k1 _ fun G2 H2 s2 k2 => h2 G2 H2 ((s.trans s1).trans s2) k2 _ fun G3 H3 s3 k3 => by
    have s13 := s2.trans s3
    have hx3 := dp_up s13 _ hx
    obtain ⟨a, vs, rfl, ha, hb⟩ := dp_tuple hx3
    refine ⟨a, vs, rfl, sqT_up k3.g ha, fun hw => absurd (by rw [dpAll_len hb] at hw; exact hw) hn, fun _ p hp => ?_⟩
    have sp : Same G3 (upd G3 p (.tup (cutV vs lo hi))) := Same.new (Same.none k3.g hp)
    exact q _ _ _ ((s1.trans s13).trans sp) (k3.newG _ hp) (.rtup upd_same (dpAll_up sp _ (cut_of hb)))
end
end Kx
end
section
set_option maxHeartbeats 4000000
namespace K04
open PySem L2 Kx
def topS (i : Nat) : Stmt := PySem.Challenge.pw_sincerung_k04_peals_alike_and_shown.main.body.getD i (.Pass ⟨0, 0, 0, 0⟩)
abbrev s_is_whole : Stmt := topS 16
abbrev s_is_within : Stmt := topS 17
abbrev s_is_name : Stmt := topS 18
abbrev s_is_bell : Stmt := topS 20
abbrev s_check_bells : Stmt := topS 21
abbrev s_is_notch : Stmt := topS 22
abbrev s_check_notches : Stmt := topS 23
abbrev s_Peal___init__ : Stmt := inClass (topS 24) 0
abbrev s_check_name : Stmt := topS 25
abbrev s_check_two : Stmt := topS 26
abbrev s_Peal_told : Stmt := inClass (topS 24) 4
abbrev s_Peal_hung : Stmt := inClass (topS 24) 5
abbrev s_Peal_without : Stmt := inClass (topS 24) 6
abbrev s_Peal___eq__ : Stmt := inClass (topS 24) 7
abbrev s_Peal___len__ : Stmt := inClass (topS 24) 8
abbrev s_Peal___str__ : Stmt := inClass (topS 24) 9
abbrev s_Peal___repr__ : Stmt := inClass (topS 24) 10
abbrev s__law_opened : Stmt := topS 28
abbrev s__law_pull : Stmt := topS 29
abbrev s__law_spelt : Stmt := topS 30
abbrev s__law_calls : Stmt := topS 31
abbrev s__law_figure : Stmt := topS 32
abbrev s__law_kit : Stmt := topS 33
abbrev s__law_far : Stmt := topS 34
abbrev s__law_text : Stmt := topS 35
abbrev s__law_is : Stmt := topS 36
abbrev s__law_both : Stmt := topS 37
abbrev s__law_anew : Stmt := topS 38
abbrev s__law_others : Stmt := topS 39
abbrev s__law_right : Stmt := topS 40
abbrev s_law : Stmt := topS 41
abbrev eX_Peal (r : ((List (Str × Int)) × (List (Str × Str × Int)) × (List (Str × Int)) × (List ((Str × Str) × Int)))) : Dat := .ins "Peal" ["bells", "notches", "sizes", "turning"] [(eT (eP2 Dat.str Dat.int)) r.1, (eT (eP3 Dat.str Dat.str Dat.int)) r.2.1, (eDS Dat.int) r.2.2.1, (eDP Dat.int) r.2.2.2]
structure Txt (K : PySem.W.Frag) (mg : Str → Option Value) where
  a_is_whole : Addr
  d_is_whole : FuncData
  F_is_whole : Fun K "is_whole" "is_whole" s_is_whole a_is_whole d_is_whole
  b_is_whole : Binds K d_is_whole ["thing"] []
  g_is_whole : mg "is_whole" = some (.ref a_is_whole)
  a_is_within : Addr
  d_is_within : FuncData
  F_is_within : Fun K "is_within" "is_within" s_is_within a_is_within d_is_within
  b_is_within : Binds K d_is_within ["thing", "low", "high"] []
  g_is_within : mg "is_within" = some (.ref a_is_within)
  a_is_name : Addr
  d_is_name : FuncData
  F_is_name : Fun K "is_name" "is_name" s_is_name a_is_name d_is_name
  b_is_name : Binds K d_is_name ["thing"] []
  g_is_name : mg "is_name" = some (.ref a_is_name)
  a_is_bell : Addr
  d_is_bell : FuncData
  F_is_bell : Fun K "is_bell" "is_bell" s_is_bell a_is_bell d_is_bell
  b_is_bell : Binds K d_is_bell ["thing"] []
  g_is_bell : mg "is_bell" = some (.ref a_is_bell)
  a_check_bells : Addr
  d_check_bells : FuncData
  F_check_bells : Fun K "check_bells" "check_bells" s_check_bells a_check_bells d_check_bells
  b_check_bells : Binds K d_check_bells ["bells"] []
  g_check_bells : mg "check_bells" = some (.ref a_check_bells)
  a_is_notch : Addr
  d_is_notch : FuncData
  F_is_notch : Fun K "is_notch" "is_notch" s_is_notch a_is_notch d_is_notch
  b_is_notch : Binds K d_is_notch ["thing", "names"] []
  g_is_notch : mg "is_notch" = some (.ref a_is_notch)
  a_check_notches : Addr
  d_check_notches : FuncData
  F_check_notches : Fun K "check_notches" "check_notches" s_check_notches a_check_notches d_check_notches
  b_check_notches : Binds K d_check_notches ["notches", "names"] []
  g_check_notches : mg "check_notches" = some (.ref a_check_notches)
  a_Peal___init__ : Addr
  d_Peal___init__ : FuncData
  e_Peal___init__ : Addr
  F_Peal___init__ : FunT K "__init__" "Peal.__init__" s_Peal___init__ e_Peal___init__ a_Peal___init__ d_Peal___init__
  b_Peal___init__ : Binds K d_Peal___init__ ["self", "bells", "notches"] []
  bd_Peal___init__ : Binds K d_Peal___init__ ["self", "bells", "notches"] [.ref e_Peal___init__]
  nt_Peal___init__ : NilT K e_Peal___init__
  mk_Peal : Mk K (clsAt K "Peal") a_Peal___init__
  a_check_name : Addr
  d_check_name : FuncData
  F_check_name : Fun K "check_name" "check_name" s_check_name a_check_name d_check_name
  b_check_name : Binds K d_check_name ["peal", "name"] []
  g_check_name : mg "check_name" = some (.ref a_check_name)
  a_check_two : Addr
  d_check_two : FuncData
  F_check_two : Fun K "check_two" "check_two" s_check_two a_check_two d_check_two
  b_check_two : Binds K d_check_two ["peal", "name", "other"] []
  g_check_two : mg "check_two" = some (.ref a_check_two)
  a_Peal_told : Addr
  d_Peal_told : FuncData
  F_Peal_told : Fun K "told" "Peal.told" s_Peal_told a_Peal_told d_Peal_told
  b_Peal_told : Binds K d_Peal_told ["self", "name", "other", "number"] []
  me_Peal_told : Meth K (clsAt K "Peal") "told" a_Peal_told
  a_Peal_hung : Addr
  d_Peal_hung : FuncData
  F_Peal_hung : Fun K "hung" "Peal.hung" s_Peal_hung a_Peal_hung d_Peal_hung
  b_Peal_hung : Binds K d_Peal_hung ["self", "name", "marks"] []
  me_Peal_hung : Meth K (clsAt K "Peal") "hung" a_Peal_hung
  a_Peal_without : Addr
  d_Peal_without : FuncData
  F_Peal_without : Fun K "without" "Peal.without" s_Peal_without a_Peal_without d_Peal_without
  b_Peal_without : Binds K d_Peal_without ["self", "name"] []
  me_Peal_without : Meth K (clsAt K "Peal") "without" a_Peal_without
  a_Peal___eq__ : Addr
  d_Peal___eq__ : FuncData
  F_Peal___eq__ : Fun K "__eq__" "Peal.__eq__" s_Peal___eq__ a_Peal___eq__ d_Peal___eq__
  b_Peal___eq__ : Binds K d_Peal___eq__ ["self", "other"] []
  me_Peal___eq__ : Meth K (clsAt K "Peal") "__eq__" a_Peal___eq__
  a_Peal___len__ : Addr
  d_Peal___len__ : FuncData
  F_Peal___len__ : Fun K "__len__" "Peal.__len__" s_Peal___len__ a_Peal___len__ d_Peal___len__
  b_Peal___len__ : Binds K d_Peal___len__ ["self"] []
  me_Peal___len__ : Meth K (clsAt K "Peal") "__len__" a_Peal___len__
  a_Peal___str__ : Addr
  d_Peal___str__ : FuncData
  F_Peal___str__ : Fun K "__str__" "Peal.__str__" s_Peal___str__ a_Peal___str__ d_Peal___str__
  b_Peal___str__ : Binds K d_Peal___str__ ["self"] []
  me_Peal___str__ : Meth K (clsAt K "Peal") "__str__" a_Peal___str__
  a_Peal___repr__ : Addr
  d_Peal___repr__ : FuncData
  F_Peal___repr__ : Fun K "__repr__" "Peal.__repr__" s_Peal___repr__ a_Peal___repr__ d_Peal___repr__
  b_Peal___repr__ : Binds K d_Peal___repr__ ["self"] []
  me_Peal___repr__ : Meth K (clsAt K "Peal") "__repr__" a_Peal___repr__
  a__law_opened : Addr
  d__law_opened : FuncData
  F__law_opened : Fun K "_law_opened" "_law_opened" s__law_opened a__law_opened d__law_opened
  b__law_opened : Binds K d__law_opened ["_law_script", "_law_k"] []
  g__law_opened : mg "_law_opened" = some (.ref a__law_opened)
  a__law_pull : Addr
  d__law_pull : FuncData
  F__law_pull : Fun K "_law_pull" "_law_pull" s__law_pull a__law_pull d__law_pull
  b__law_pull : Binds K d__law_pull ["_law_store", "_law_many"] []
  g__law_pull : mg "_law_pull" = some (.ref a__law_pull)
  a__law_spelt : Addr
  d__law_spelt : FuncData
  F__law_spelt : Fun K "_law_spelt" "_law_spelt" s__law_spelt a__law_spelt d__law_spelt
  b__law_spelt : Binds K d__law_spelt ["_law_figure_here", "_law_wide"] []
  g__law_spelt : mg "_law_spelt" = some (.ref a__law_spelt)
  a__law_calls : Addr
  d__law_calls : FuncData
  F__law_calls : Fun K "_law_calls" "_law_calls" s__law_calls a__law_calls d__law_calls
  b__law_calls : Binds K d__law_calls ["_law_store", "_law_many"] []
  g__law_calls : mg "_law_calls" = some (.ref a__law_calls)
  a__law_figure : Addr
  d__law_figure : FuncData
  F__law_figure : Fun K "_law_figure" "_law_figure" s__law_figure a__law_figure d__law_figure
  b__law_figure : Binds K d__law_figure ["_law_store", "_law_mode", "_law_size"] []
  g__law_figure : mg "_law_figure" = some (.ref a__law_figure)
  a__law_kit : Addr
  d__law_kit : FuncData
  F__law_kit : Fun K "_law_kit" "_law_kit" s__law_kit a__law_kit d__law_kit
  b__law_kit : Binds K d__law_kit ["_law_store", "_law_upto", "_law_most"] []
  g__law_kit : mg "_law_kit" = some (.ref a__law_kit)
  a__law_far : Addr
  d__law_far : FuncData
  F__law_far : Fun K "_law_far" "_law_far" s__law_far a__law_far d__law_far
  b__law_far : Binds K d__law_far ["_law_calls_here"] []
  g__law_far : mg "_law_far" = some (.ref a__law_far)
  a__law_text : Addr
  d__law_text : FuncData
  F__law_text : Fun K "_law_text" "_law_text" s__law_text a__law_text d__law_text
  b__law_text : Binds K d__law_text ["_law_ringers", "_law_teeth"] []
  g__law_text : mg "_law_text" = some (.ref a__law_text)
  a__law_is : Addr
  d__law_is : FuncData
  F__law_is : Fun K "_law_is" "_law_is" s__law_is a__law_is d__law_is
  b__law_is : Binds K d__law_is ["_law_found", "_law_due"] []
  g__law_is : mg "_law_is" = some (.ref a__law_is)
  a__law_both : Addr
  d__law_both : FuncData
  F__law_both : Fun K "_law_both" "_law_both" s__law_both a__law_both d__law_both
  b__law_both : Binds K d__law_both ["_law_one_here", "_law_mate", "_law_due"] []
  g__law_both : mg "_law_both" = some (.ref a__law_both)
  a__law_anew : Addr
  d__law_anew : FuncData
  F__law_anew : Fun K "_law_anew" "_law_anew" s__law_anew a__law_anew d__law_anew
  b__law_anew : Binds K d__law_anew ["_law_store", "_law_ringers", "_law_teeth"] []
  g__law_anew : mg "_law_anew" = some (.ref a__law_anew)
  a__law_others : Addr
  d__law_others : FuncData
  F__law_others : Fun K "_law_others" "_law_others" s__law_others a__law_others d__law_others
  b__law_others : Binds K d__law_others ["_law_store", "_law_ringers", "_law_teeth"] []
  g__law_others : mg "_law_others" = some (.ref a__law_others)
  a__law_right : Addr
  d__law_right : FuncData
  F__law_right : Fun K "_law_right" "_law_right" s__law_right a__law_right d__law_right
  b__law_right : Binds K d__law_right ["_law_store"] []
  g__law_right : mg "_law_right" = some (.ref a__law_right)
  a_law : Addr
  d_law : FuncData
  F_law : Fun K "law" "law" s_law a_law d_law
  b_law : Binds K d_law ["_law_script"] []
  g_law : mg "law" = some (.ref a_law)
  cl_Peal : Cls K (clsAt K "Peal")
  co_Peal : ClsOk K (clsAt K "Peal")
  cn_Peal : ClsNo K (clsAt K "Peal")
  cx_Peal : ClsNo2 K (clsAt K "Peal")
  nb_Peal : PySem.W.findIn K (.ref (clsAt K "Peal")) "__bool__" = some none
  ki_Peal : PySem.W.kitOne K (.ref (clsAt K "Peal")) (.ref (clsAt K "Peal")) = some true
  mg_Peal : mg "Peal" = some (.ref (clsAt K "Peal"))
  ne_Peal : PySem.W.findIn K (.ref (clsAt K "Peal")) "__ne__" = some (some (.builtin "object.__ne__"))
  na_Peal_bells : NoAttr K (clsAt K "Peal") "bells"
  na_Peal_notches : NoAttr K (clsAt K "Peal") "notches"
  na_Peal_sizes : NoAttr K (clsAt K "Peal") "sizes"
  na_Peal_turning : NoAttr K (clsAt K "Peal") "turning"
  ci_Peal : ClsIs K (clsAt K "Peal")
  n_int : mg "int" = none
  n_isinstance : mg "isinstance" = none
  n_bool : mg "bool" = none
  n_str : mg "str" = none
  n_len : mg "len" = none
  n_all : mg "all" = none
  n_tuple : mg "tuple" = none
  n_enumerate : mg "enumerate" = none
  n_dict : mg "dict" = none
  n_sorted : mg "sorted" = none
  n_abs : mg "abs" = none
  n_divmod : mg "divmod" = none
  n_range : mg "range" = none
  n_list : mg "list" = none
  n_repr : mg "repr" = none
  n_min : mg "min" = none
  n_max : mg "max" = none
  t_MOST_LETTERS : Tok
  c_MOST_LETTERS : mg "MOST_LETTERS" = some (.int 6 t_MOST_LETTERS)
  t_LETTERS : Tok
  c_LETTERS : mg "LETTERS" = some (.str "abcdefghijklmnopqrstuvwxyz" t_LETTERS)
  t_LEAST_MARKS : Tok
  c_LEAST_MARKS : mg "LEAST_MARKS" = some (.int 2 t_LEAST_MARKS)
  t_MOST_MARKS : Tok
  c_MOST_MARKS : mg "MOST_MARKS" = some (.int 24 t_MOST_MARKS)
  t_MOST_BELLS : Tok
  c_MOST_BELLS : mg "MOST_BELLS" = some (.int 8 t_MOST_BELLS)
  t_MOST_NUMBER : Tok
  c_MOST_NUMBER : mg "MOST_NUMBER" = some (.int 99 t_MOST_NUMBER)
/-! ### is_whole -/
theorem sc_is_whole : FnScope ["thing"] ["thing"] (defScope s_is_whole) := ⟨rfl, rfl, rfl, by decide +kernel, rfl, by decide +kernel, by decide +kernel⟩
def a_is_whole (K : PySem.W.Frag) (a : Int) : List V → Hp → Prop := conP (DD K (Dat.int a)) (nilP)
def m_is_whole (a : Int) : Option Bool :=
  some (true && (!false))
abbrev sp_is_whole [Tb] (K : PySem.W.Frag) : Sp := spP (a_is_whole K) (m_is_whole) fun r => DD K (Dat.bool r)
theorem ok_is_whole [Tb] {P : Program} {w : World} {K : PySem.W.Frag} {mg : Str → Option Value} {base : Heap} (T : Txt K mg) : FnOk P w K mg base CX0 (1) T.a_is_whole T.d_is_whole ["thing"] (sp_is_whole K) := by
  refine T.F_is_whole.ok sc_is_whole (fun vs H Q E h => ?_) (fun cdv A outer s0 H vs Q E hr h => ?_)
  · obtain ⟨G, M0, a, r, ok, ⟨v_thing, _, rfl, h_thing, rfl⟩, hm, q⟩ := h
    rfl
  · obtain ⟨G, M0, a, r, ok, ⟨v_thing, _, rfl, h_thing, rfl⟩, hm, q⟩ := h
    unfold m_is_whole at hm
    have sg := Same.refl G
    have hB := Same.refl M0
    refine ⟨_, (pss_cons (ps_ret (pe_and (pe_callB (call_isiKK (K := K)) (by rfl) T.n_isinstance (by decide +kernel) (pa_cons (pv 0) (pa_cons (pe_bltn (v := .ty "int") (by rfl) T.n_int (by decide +kernel) rfl) pa_nil))) (pe_one (pe_not (pe_callB (call_isiKK (K := K)) (by rfl) T.n_isinstance (by decide +kernel) (pa_cons (pv 0) (pa_cons (pe_bltn (v := .ty "bool") (by rfl) T.n_bool (by decide +kernel) rfl) pa_nil))))))) pss_nil), ?_⟩
    cases h_thing
    refine nrm (σ' := [some (.int a)]) rfl ?_
    refine q_ret (ev_and (ev_isi (d := Dat.int a) (n := "int") (b := true) rfl (show kitB "int" "int" = some true by decide +kernel) (ea_d (ev_d (K := K) rfl (.int _)) (ea_cons mo_cls ev_cls ea_nil))) fun _ => (ev_not (ev_isi (d := Dat.int a) (n := "bool") (b := false) rfl (show kitB "int" "bool" = some false by decide +kernel) (ea_d (ev_d (K := K) rfl (.int _)) (ea_cons mo_cls ev_cls ea_nil))))) ok (fun v G H s1 ok hv => ?_)
    have sg := sg.trans s1
    cases hm
    exact q v G H sg (ok.less hB) hv
/-! ### is_within -/
theorem sc_is_within : FnScope ["thing", "low", "high"] ["thing", "low", "high"] (defScope s_is_within) := ⟨rfl, rfl, rfl, by decide +kernel, rfl, by decide +kernel, by decide +kernel⟩
def a_is_within (K : PySem.W.Frag) (a : Int × Int × Int) : List V → Hp → Prop := conP (DD K (Dat.int a.1)) (conP (DD K (Dat.int a.2.1)) (conP (DD K (Dat.int a.2.2)) (nilP)))
def m_is_within (a : Int × Int × Int) : Option Bool :=
  (m_is_whole a.1).bind fun t1 => some (t1 && ((decide (a.2.1 ≤ a.1)) && (decide (a.1 ≤ a.2.2))))
abbrev sp_is_within [Tb] (K : PySem.W.Frag) : Sp := spP (a_is_within K) (m_is_within) fun r => DD K (Dat.bool r)
theorem ok_is_within [Tb] {P : Program} {w : World} {K : PySem.W.Frag} {mg : Str → Option Value} {base : Heap} (T : Txt K mg) (O_is_whole : FnOk P w K mg base CX0 1 T.a_is_whole T.d_is_whole ["thing"] (sp_is_whole K)) : FnOk P w K mg base CX0 (2) T.a_is_within T.d_is_within ["thing", "low", "high"] (sp_is_within K) := by
  refine T.F_is_within.ok sc_is_within (fun vs H Q E h => ?_) (fun cdv A outer s0 H vs Q E hr h => ?_)
  · obtain ⟨G, M0, a, r, ok, ⟨v_thing, _, rfl, h_thing, v_low, _, rfl, h_low, v_high, _, rfl, h_high, rfl⟩, hm, q⟩ := h
    rfl
  · obtain ⟨G, M0, a, r, ok, ⟨v_thing, _, rfl, h_thing, v_low, _, rfl, h_low, v_high, _, rfl, h_high, rfl⟩, hm, q⟩ := h
    unfold m_is_within at hm
    have sg := Same.refl G
    have hB := Same.refl M0
    refine ⟨_, (pss_cons (ps_ret (pe_and (pe_call O_is_whole (hr.mono (by decide)) (by rfl) T.g_is_whole T.F_is_whole.kp T.b_is_whole .nil pass0 (pa_cons (pv 0) pa_nil)) (pe_one (pe_chain op_le op_le (pv 1) (pv 0) (pv 2))))) pss_nil), ?_⟩
    cases h_thing
    cases h_low
    cases h_high
    refine nrm (σ' := [some (.int a.1), some (.int a.2.1), some (.int a.2.2)]) rfl ?_
    obtain ⟨t1, e_t1, hm⟩ := bs hm
    refine q_ret (ev_and (ev_callP (res := fun r => DD K (Dat.bool r)) (a := a.1) e_t1 (ea_d (ev_d (K := K) rfl (.int _)) ea_nil)) fun _ => (ev_chainI (ev_d (K := K) rfl (.int _)) (ev_d (K := K) rfl (.int _)) (ev_d (K := K) rfl (.int _)))) ok (fun v G H s1 ok hv => ?_)
    have sg := sg.trans s1
    cases hm
    exact q v G H sg (ok.less hB) hv
/-! ### is_name -/
theorem sc_is_name : FnScope ["thing", "sign"] ["thing"] (defScope s_is_name) := ⟨rfl, rfl, rfl, by decide +kernel, rfl, by decide +kernel, by decide +kernel⟩
def a_is_name (K : PySem.W.Frag) (a : Str) : List V → Hp → Prop := conP (DD K (Dat.str a)) (nilP)
def m_is_name (a : Str) : Option Bool :=
  (cond (!true) (some true) ((lenS a).bind fun t1 => some (!((decide ((1 : Int) ≤ t1)) && (decide (t1 ≤ (6 : Int))))))).bind fun t2 => cond t2 (some false) ((lcO (fun x3 : Str => (inSign x3 (Str.ofString "abcdefghijklmnopqrstuvwxyz")).bind fun t9 => some t9) (signs a)).bind fun t10 => some (t10.all id))
abbrev sp_is_name [Tb] (K : PySem.W.Frag) : Sp := spP (a_is_name K) (m_is_name) fun r => DD K (Dat.bool r)
theorem ok_is_name [Tb] {P : Program} {w : World} {K : PySem.W.Frag} {mg : Str → Option Value} {base : Heap} (T : Txt K mg) : FnOk P w K mg base CX0 (1) T.a_is_name T.d_is_name ["thing"] (sp_is_name K) := by
  refine T.F_is_name.ok sc_is_name (fun vs H Q E h => ?_) (fun cdv A outer s0 H vs Q E hr h => ?_)
  · obtain ⟨G, M0, a, r, ok, ⟨v_thing, _, rfl, h_thing, rfl⟩, hm, q⟩ := h
    rfl
  · obtain ⟨G, M0, a, r, ok, ⟨v_thing, _, rfl, h_thing, rfl⟩, hm, q⟩ := h
    unfold m_is_name at hm
    have sg := Same.refl G
    have hB := Same.refl M0
    refine ⟨_, (pss_cons (ps_if (PW.pt (pw_or (pt_not (pt_val (pe_callB (call_isiKK (K := K)) (by rfl) T.n_isinstance (by decide +kernel) (pa_cons (pv 0) (pa_cons (pe_bltn (v := .ty "str") (by rfl) T.n_str (by decide +kernel) rfl) pa_nil))))) (pw_or1 (pt_not (pt_chain op_le op_le pe_int (pe_callB cl_lenS (by rfl) T.n_len (by decide +kernel) (pa_cons (pv 0) pa_nil)) (pe_glob (v := .int 6) (by rfl) T.c_MOST_LETTERS ⟨_, rfl⟩)))))) (pss_cons (ps_ret pe_bl) pss_nil) pss_nil) (pss_cons (ps_ret (pe_callB (cr_allK (K := K) rfl) (by rfl) T.n_all (by decide +kernel) (pa_cons (pe_lc (own := [("sign", 1)]) (g := (gName 1)) (tt := tYes) rfl sc_is_name.nd (pi_str (pv 0)) (blkOk_by (own := [("sign", 1)]) (N := ["thing", "sign"]) (sc := defScope s_is_name) (by decide +kernel)) (fun _ _ _ _ _ => (pg_name (i := 1) sc_is_name.nd rfl (by first | exact .inl rfl | exact .inr rfl))) (fun _ _ _ _ _ => pts_nil) (fun _ _ _ _ _ => (pe_cmpR op_in_sign (pv 1) (pe_glob (v := .str "abcdefghijklmnopqrstuvwxyz") (by rfl) T.c_LETTERS ⟨_, rfl⟩) (by rfl)))) pa_nil))) pss_nil)), ?_⟩
    refine nrm (σ' := [some v_thing, none]) rfl ?_
    obtain ⟨t2, e_t2, hm⟩ := bs hm
    refine q_if (et_orG (c := t2) (et_not (et_B (ev_isi (d := Dat.str a) (n := "str") (b := true) rfl (show kitB "str" "str" = some true by decide +kernel) (ea_d (ev_d (K := K) rfl h_thing) (ea_cons mo_cls ev_cls ea_nil))))) (fun eb => by have e1 := cond_f eb e_t2; (obtain ⟨t1, e_t1, e1⟩ := bs e1); (have e1 := Option.some.inj e1); subst e1; exact (et_not (et_test (ev_chainI (ev_int (K := K)) (ev_lenS e_t1 (ea_d (ev_d (K := K) rfl h_thing) ea_nil)) (ev_int (K := K)))))) (fun eb => by have e1 := cond_t eb e_t2; cases e1; exact ⟨rfl, rfl⟩)) ok (fun hb G H s1 ok => ?_) (fun hb G H s1 ok => ?_)
    · have hm := cond_t hb hm
      have h_thing := dp_up s1 _ h_thing
      have sg := sg.trans s1
      refine q_ret (ev_bl (K := K)) ok (fun v G H s1 ok hv => ?_)
      have sg := sg.trans s1
      cases hm
      exact q v G H sg (ok.less hB) hv
    · have hm := cond_f hb hm
      have h_thing := dp_up s1 _ h_thing
      have sg := sg.trans s1
      refine q_nilU ?_
      obtain ⟨t10, e_t10, hm⟩ := bs hm
      refine q_ret (ev_allL (ea_d (EvL.ev (el_lcM (ea := Dat.str) (eb := Dat.bool) (xs := (signs a)) (ys := t10) (hf := e_t10) (Src.is (src_str (ev_d (K := K) rfl h_thing)) signs_map) (fun x3 _ Mx7 _ _ he8 sM6 sG5 hv4 => by (obtain ⟨t9, e_t9, he8⟩ := bs he8); (have he8 := Option.some.inj he8); subst he8; exact (tg_name ⟨rfl, (ev_inSign e_t9 (ev_d (K := K) rfl hv4) (ev_str (K := K) (by decide +kernel)))⟩)))) ea_nil)) ok (fun v G H s1 ok hv => ?_)
      have sg := sg.trans s1
      cases hm
      exact q v G H sg (ok.less hB) hv
/-! ### is_bell -/
theorem sc_is_bell : FnScope ["thing"] ["thing"] (defScope s_is_bell) := ⟨rfl, rfl, rfl, by decide +kernel, rfl, by decide +kernel, by decide +kernel⟩
def a_is_bell (K : PySem.W.Frag) (a : (Str × Int)) : List V → Hp → Prop := conP (DD K ((eP2 Dat.str Dat.int) a)) (nilP)
def m_is_bell (a : (Str × Int)) : Option Bool :=
  cond ((!true) || (!decide ((2 : Int) = (2 : Int)))) (some false) ((m_is_name a.1).bind fun t1 => (cond t1 ((m_is_within (a.2, (2 : Int), (24 : Int))).bind fun t2 => some t2) (some false)).bind fun t3 => some t3)
abbrev sp_is_bell [Tb] (K : PySem.W.Frag) : Sp := spP (a_is_bell K) (m_is_bell) fun r => DD K (Dat.bool r)
theorem ok_is_bell [Tb] {P : Program} {w : World} {K : PySem.W.Frag} {mg : Str → Option Value} {base : Heap} (T : Txt K mg) (O_is_name : FnOk P w K mg base CX0 1 T.a_is_name T.d_is_name ["thing"] (sp_is_name K)) (O_is_within : FnOk P w K mg base CX0 2 T.a_is_within T.d_is_within ["thing", "low", "high"] (sp_is_within K)) : FnOk P w K mg base CX0 (3) T.a_is_bell T.d_is_bell ["thing"] (sp_is_bell K) := by
  refine T.F_is_bell.ok sc_is_bell (fun vs H Q E h => ?_) (fun cdv A outer s0 H vs Q E hr h => ?_)
  · obtain ⟨G, M0, a, r, ok, ⟨v_thing, _, rfl, h_thing, rfl⟩, hm, q⟩ := h
    rfl
  · obtain ⟨G, M0, a, r, ok, ⟨v_thing, _, rfl, h_thing, rfl⟩, hm, q⟩ := h
    unfold m_is_bell at hm
    have sg := Same.refl G
    have hB := Same.refl M0
    refine ⟨_, (pss_cons (ps_if (PW.pt (pw_or (pt_not (pt_val (pe_callB (call_isiKK (K := K)) (by rfl) T.n_isinstance (by decide +kernel) (pa_cons (pv 0) (pa_cons (pe_bltn (v := .ty "tuple") (by rfl) T.n_tuple (by decide +kernel) rfl) pa_nil))))) (pw_or1 (pt_cmpR op_ne (pe_callB (cl_lenK (K := K)) (by rfl) T.n_len (by decide +kernel) (pa_cons (pv 0) pa_nil)) pe_int (nomark _))))) (pss_cons (ps_ret pe_bl) pss_nil) pss_nil) (pss_cons (ps_ret (pe_and (pe_call O_is_name (hr.mono (by decide)) (by rfl) T.g_is_name T.F_is_name.kp T.b_is_name .nil pass0 (pa_cons (pe_ix (ix_tupK (K := K)) (pv 0) pe_int (fun _ _ => rfl)) pa_nil)) (pe_one (pe_call O_is_within (hr.mono (by decide)) (by rfl) T.g_is_within T.F_is_within.kp T.b_is_within .nil pass0 (pa_cons (pe_ix (ix_tupK (K := K)) (pv 0) pe_int (fun _ _ => rfl)) (pa_cons (pe_glob (v := .int 2) (by rfl) T.c_LEAST_MARKS ⟨_, rfl⟩) (pa_cons (pe_glob (v := .int 24) (by rfl) T.c_MOST_MARKS ⟨_, rfl⟩) pa_nil))))))) pss_nil)), ?_⟩
    refine nrm (σ' := [some v_thing]) rfl ?_
    refine q_if (et_or (et_not (et_B (ev_isi (d := (eP2 Dat.str Dat.int) a) (n := "tuple") (b := true) rfl (show kitB "tuple" "tuple" = some true by decide +kernel) (ea_d (ev_d (K := K) rfl h_thing) (ea_cons mo_cls ev_cls ea_nil))))) fun _ => (et_test (ev_neI (ev_lenT (ea_d (ev_d (K := K) rfl h_thing) ea_nil)) (ev_int (K := K))))) ok (fun hb G H s1 ok => ?_) (fun hb G H s1 ok => ?_)
    · have hm := cond_t hb hm
      have h_thing := dp_up s1 _ h_thing
      have sg := sg.trans s1
      refine q_ret (ev_bl (K := K)) ok (fun v G H s1 ok hv => ?_)
      have sg := sg.trans s1
      cases hm
      exact q v G H sg (ok.less hB) hv
    · have hm := cond_f hb hm
      have h_thing := dp_up s1 _ h_thing
      have sg := sg.trans s1
      refine q_nilU ?_
      obtain ⟨t1, e_t1, hm⟩ := bs hm
      obtain ⟨t3, e_t3, hm⟩ := bs hm
      refine q_ret (ev_andG (c := t3) (ev_callP (res := fun r => DD K (Dat.bool r)) (a := a.1) e_t1 (ea_d (ev_ixT (d := Dat.str a.1) rfl (ev_d (K := K) rfl h_thing) ev_int) ea_nil)) (fun eb => by have e1 := cond_t eb e_t3; (obtain ⟨t2, e_t2, e1⟩ := bs e1); (have e1 := Option.some.inj e1); subst e1; exact (ev_callP (res := fun r => DD K (Dat.bool r)) (a := (a.2, (2 : Int), (24 : Int))) e_t2 (ea_d (ev_ixT (d := Dat.int a.2) rfl (ev_d (K := K) rfl h_thing) ev_int) (ea_d (ev_int (K := K)) (ea_d (ev_int (K := K)) ea_nil))))) (fun eb => by have e1 := cond_f eb e_t3; cases e1; exact ⟨rfl, rfl⟩)) ok (fun v G H s1 ok hv => ?_)
      have sg := sg.trans s1
      cases hm
      exact q v G H sg (ok.less hB) hv
/-! ### check_bells -/
theorem sc_check_bells : FnScope ["bells", "place", "bell"] ["bells"] (defScope s_check_bells) := ⟨rfl, rfl, rfl, by decide +kernel, rfl, by decide +kernel, by decide +kernel⟩
def a_check_bells (K : PySem.W.Frag) (a : (List (Str × Int))) : List V → Hp → Prop := conP (DD K ((eT (eP2 Dat.str Dat.int)) a)) (nilP)
def m_check_bells (a : (List (Str × Int))) : Option Unit :=
  cond ((!true) || (!((decide ((1 : Int) ≤ (a.length : Int))) && (decide ((a.length : Int) ≤ (8 : Int)))))) (none) ((forO (fun (st2 : Unit) (x3 : (Int × (Str × Int))) => (m_is_bell x3.2).bind fun t12 => (cond (!t12) (some true) ((cond (decide ((0 : Int) < x3.1)) ((atI a (x3.1 - (1 : Int))).bind fun t13 => some (!sLt t13.1 x3.2.1)) (some false)).bind fun t14 => some t14)).bind fun t15 => cond t15 (none) (some ())) (enum a) ()).bind fun fin1 => some ())
abbrev sp_check_bells [Tb] (K : PySem.W.Frag) : Sp := spP (a_check_bells K) (m_check_bells) fun r => DD K (eN r)
theorem ok_check_bells [Tb] {P : Program} {w : World} {K : PySem.W.Frag} {mg : Str → Option Value} {base : Heap} (T : Txt K mg) (O_is_bell : FnOk P w K mg base CX0 3 T.a_is_bell T.d_is_bell ["thing"] (sp_is_bell K)) : FnOk P w K mg base CX0 (4) T.a_check_bells T.d_check_bells ["bells"] (sp_check_bells K) := by
  refine T.F_check_bells.ok sc_check_bells (fun vs H Q E h => ?_) (fun cdv A outer s0 H vs Q E hr h => ?_)
  · obtain ⟨G, M0, a, r, ok, ⟨v_bells, _, rfl, h_bells, rfl⟩, hm, q⟩ := h
    rfl
  · obtain ⟨G, M0, a, r, ok, ⟨v_bells, _, rfl, h_bells, rfl⟩, hm, q⟩ := h
    unfold m_check_bells at hm
    have sg := Same.refl G
    have hB := Same.refl M0
    refine ⟨_, (pss_cons (ps_if (PW.pt (pw_or (pt_not (pt_val (pe_callB (call_isiKK (K := K)) (by rfl) T.n_isinstance (by decide +kernel) (pa_cons (pv 0) (pa_cons (pe_bltn (v := .ty "tuple") (by rfl) T.n_tuple (by decide +kernel) rfl) pa_nil))))) (pw_or1 (pt_not (pt_chain op_le op_le pe_int (pe_callB (cl_lenK (K := K)) (by rfl) T.n_len (by decide +kernel) (pa_cons (pv 0) pa_nil)) (pe_glob (v := .int 8) (by rfl) T.c_MOST_BELLS ⟨_, rfl⟩)))))) (pss_cons ps_never pss_nil) pss_nil) (pss_cons (ps_for PassesOwn.never rfl (pi_enumTK (K := K) (by rfl) T.n_enumerate (pa_cons (pv 0) pa_nil)) (pg_tup rfl (pgs_cons (pg_name (i := 1) sc_check_bells.nd rfl (.inl rfl)) (pgs_cons (pg_name (i := 2) sc_check_bells.nd rfl (.inl rfl)) pgs_nil))) (pss_cons (ps_if (PW.pt (pw_or (pt_not (pt_val (pe_call O_is_bell (hr.mono (by decide)) (by rfl) T.g_is_bell T.F_is_bell.kp T.b_is_bell .nil pass0 (pa_cons (pv 2) pa_nil)))) (pw_or1 (PW.pt (pw_and (pt_cmpR op_gt (pv 1) pe_int (nomark _)) (pw_and1 (pt_cmpR op_le_str (pe_ix (ix_tupK (K := K)) (pv 2) pe_int (fun _ _ => rfl)) (pe_ix (ix_tupK (K := K)) (pe_ix (ix_tupK (K := K)) (pv 0) (pe_op op_sub (pv 1) pe_int) (fun _ _ => rfl)) pe_int (fun _ _ => rfl)) (nomark _)))))))) (pss_cons ps_never pss_nil) pss_nil) pss_nil)) pss_nil)), ?_⟩
    refine nrm (σ' := [some v_bells, none, none]) rfl ?_
    refine q_if (et_or (et_not (et_B (ev_isi (d := (eT (eP2 Dat.str Dat.int)) a) (n := "tuple") (b := true) rfl (show kitB "tuple" "tuple" = some true by decide +kernel) (ea_d (ev_d (K := K) rfl h_bells) (ea_cons mo_cls ev_cls ea_nil))))) fun _ => (et_not (et_test (ev_chainI (ev_int (K := K)) (ev_lenTM (e := (eP2 Dat.str Dat.int)) (ea_d (ev_d (K := K) rfl h_bells) ea_nil)) (ev_int (K := K)))))) ok (fun hb G H s1 ok => ?_) (fun hb G H s1 ok => ?_)
    · have hm := cond_t hb hm
      have h_bells := dp_up s1 _ h_bells
      have sg := sg.trans s1
      cases hm
    · have hm := cond_f hb hm
      have h_bells := dp_up s1 _ h_bells
      have sg := sg.trans s1
      refine q_nilU ?_
      obtain ⟨fin1, e_fin1, hm⟩ := bs hm
      have hmo4 := hm
      refine q_forO (ea := (eR2 Dat.int (eP2 Dat.str Dat.int))) (Src.is (src_enumT (ea_d (ev_d (K := K) rfl h_bells) ea_nil)) enumD_map) ok (fun (st2 : Unit) σ1 G1 M1 => ∃ (y_place : Option V) (y_bell : Option V), σ1 = [some v_bells, y_place, y_bell] ∧ (Same M0 M1)) e_fin1 (fun G1 s1 => ⟨_, _, rfl, hB⟩) (by rintro _ _ _ _ _ ⟨y_place, y_bell, rfl, hB⟩ s2; exact ⟨_, _, rfl, hB⟩) (fun x3 xv6 st2 st' σ1 G M H N hm hj s1 ok hv hN => ?_) (fun σ1 G M H s1 ok hj => ?_)
      · obtain ⟨y_place, y_bell, rfl, hB⟩ := hj
        have h_bells := dp_up s1 _ h_bells
        have sg := sg.trans s1
        have sl7 := Same.refl G
        refine gr2 hv ok.g (fun w8 w9 hw10 hw11 => ?_)
        refine gn ?_
        have h_place := hw10
        cases h_place
        refine gn ?_
        have h_bell := hw11
        refine nrm (σ' := [some v_bells, some (.int x3.1), some w9]) rfl ?_
        obtain ⟨t12, e_t12, hm⟩ := bs hm
        obtain ⟨t15, e_t15, hm⟩ := bs hm
        refine q_if (et_orG (c := t15) (et_not (et_B (ev_callP (res := fun r => DD K (Dat.bool r)) (a := x3.2) e_t12 (ea_d (ev_d (K := K) rfl h_bell) ea_nil)))) (fun eb => by have e1 := cond_f eb e_t15; (obtain ⟨t14, e_t14, e1⟩ := bs e1); (have e1 := Option.some.inj e1); subst e1; exact (et_andG (c := t14) (et_test (ev_gt (ev_d (K := K) rfl (.int _)) (ev_int (K := K)))) (fun eb => by have e1 := cond_t eb e_t14; (obtain ⟨t13, e_t13, e1⟩ := bs e1); (have e1 := Option.some.inj e1); subst e1; exact (et_test (ev_leS (ev_ixT (d := Dat.str x3.2.1) rfl (ev_d (K := K) rfl h_bell) ev_int) (ev_ixT (d := Dat.str t13.1) rfl (ev_ixTM (e := (eP2 Dat.str Dat.int)) e_t13 (ev_d (K := K) rfl h_bells) (ev_sub (ev_d (K := K) rfl (.int _)) (ev_int (K := K)))) ev_int)))) (fun eb => by have e1 := cond_f eb e_t14; cases e1; exact ⟨rfl, rfl⟩))) (fun eb => by have e1 := cond_t eb e_t15; cases e1; exact ⟨rfl, rfl⟩)) ok (fun hb G H s1 ok => ?_) (fun hb G H s1 ok => ?_)
        · have hm := cond_t hb hm
          have h_bells := dp_up s1 _ h_bells
          have h_bell := dp_up s1 _ h_bell
          have sg := sg.trans s1
          have sl7 := sl7.trans s1
          cases hm
        · have hm := cond_f hb hm
          have h_bells := dp_up s1 _ h_bells
          have h_bell := dp_up s1 _ h_bell
          have sg := sg.trans s1
          have sl7 := sl7.trans s1
          refine q_nilU ?_
          refine q_nil ?_
          cases hm
          exact hN _ _ _ _ sl7 ok ⟨_, _, rfl, hB⟩
      · obtain ⟨y_place, y_bell, rfl, hB⟩ := hj
        have h_bells := dp_up s1 _ h_bells
        have sg := sg.trans s1
        refine q_nil ?_
        cases hm
        exact q _ _ _ sg (ok.less hB) .non
/-! ### is_notch -/
theorem sc_is_notch : FnScope ["thing", "names", "part"] ["thing", "names"] (defScope s_is_notch) := ⟨rfl, rfl, rfl, by decide +kernel, rfl, by decide +kernel, by decide +kernel⟩
def a_is_notch (K : PySem.W.Frag) (a : (Str × Str × Int) × (List Str)) : List V → Hp → Prop := conP (DD K ((eP3 Dat.str Dat.str Dat.int) a.1)) (conP (DD K ((eL Dat.str) a.2)) (nilP))
def m_is_notch (a : (Str × Str × Int) × (List Str)) : Option Bool :=
  cond ((!true) || (!decide ((3 : Int) = (3 : Int)))) (some false) ((lcO (fun x1 : Str => (m_is_name x1).bind fun t7 => some (t7 && (memB x1 a.2))) [(a.1.1, a.1.2.1).1, (a.1.1, a.1.2.1).2]).bind fun t8 => cond (!(t8.all id)) (some false) ((cond (!decide (a.1.1 = a.1.2.1)) ((m_is_within (a.1.2.2, (1 : Int), (99 : Int))).bind fun t9 => some t9) (some false)).bind fun t10 => some t10))
abbrev sp_is_notch [Tb] (K : PySem.W.Frag) : Sp := spP (a_is_notch K) (m_is_notch) fun r => DD K (Dat.bool r)
theorem ok_is_notch [Tb] {P : Program} {w : World} {K : PySem.W.Frag} {mg : Str → Option Value} {base : Heap} (T : Txt K mg) (O_is_name : FnOk P w K mg base CX0 1 T.a_is_name T.d_is_name ["thing"] (sp_is_name K)) (O_is_within : FnOk P w K mg base CX0 2 T.a_is_within T.d_is_within ["thing", "low", "high"] (sp_is_within K)) : FnOk P w K mg base CX0 (3) T.a_is_notch T.d_is_notch ["thing", "names"] (sp_is_notch K) := by
  refine T.F_is_notch.ok sc_is_notch (fun vs H Q E h => ?_) (fun cdv A outer s0 H vs Q E hr h => ?_)
  · obtain ⟨G, M0, a, r, ok, ⟨v_thing, _, rfl, h_thing, v_names, _, rfl, h_names, rfl⟩, hm, q⟩ := h
    rfl
  · obtain ⟨G, M0, a, r, ok, ⟨v_thing, _, rfl, h_thing, v_names, _, rfl, h_names, rfl⟩, hm, q⟩ := h
    unfold m_is_notch at hm
    have sg := Same.refl G
    have hB := Same.refl M0
    refine ⟨_, (pss_cons (ps_if (PW.pt (pw_or (pt_not (pt_val (pe_callB (call_isiKK (K := K)) (by rfl) T.n_isinstance (by decide +kernel) (pa_cons (pv 0) (pa_cons (pe_bltn (v := .ty "tuple") (by rfl) T.n_tuple (by decide +kernel) rfl) pa_nil))))) (pw_or1 (pt_cmpR op_ne (pe_callB (cl_lenK (K := K)) (by rfl) T.n_len (by decide +kernel) (pa_cons (pv 0) pa_nil)) pe_int (nomark _))))) (pss_cons (ps_ret pe_bl) pss_nil) pss_nil) (pss_cons (ps_if (pt_not (pt_val (pe_callB (cr_allK (K := K) rfl) (by rfl) T.n_all (by decide +kernel) (pa_cons (pe_lc (own := [("part", 2)]) (g := (gName 2)) (tt := tYes) rfl sc_is_notch.nd (pi_tupK (K := K) (pe_slice (sl_tupK (K := K)) (pv 0) po_none (po_some pe_int))) (blkOk_by (own := [("part", 2)]) (N := ["thing", "names", "part"]) (sc := defScope s_is_notch) (by decide +kernel)) (fun _ _ _ _ _ => (pg_name (i := 2) sc_is_notch.nd rfl (by first | exact .inl rfl | exact .inr rfl))) (fun _ _ _ _ _ => pts_nil) (fun _ _ _ _ _ => (pe_and (pe_call O_is_name (hr.mono (by decide)) (by rfl) T.g_is_name T.F_is_name.kp T.b_is_name .nil pass0 (pa_cons (pv 2) pa_nil)) (pe_one (pe_cmpR (op_inSK (K := K)) (pv 2) (pv 1) (by rfl)))))) pa_nil)))) (pss_cons (ps_ret pe_bl) pss_nil) pss_nil) (pss_cons (ps_ret (pe_and (pe_cmpR op_ne (pe_ix (ix_tupK (K := K)) (pv 0) pe_int (fun _ _ => rfl)) (pe_ix (ix_tupK (K := K)) (pv 0) pe_int (fun _ _ => rfl)) (nomark _)) (pe_one (pe_call O_is_within (hr.mono (by decide)) (by rfl) T.g_is_within T.F_is_within.kp T.b_is_within .nil pass0 (pa_cons (pe_ix (ix_tupK (K := K)) (pv 0) pe_int (fun _ _ => rfl)) (pa_cons pe_int (pa_cons (pe_glob (v := .int 99) (by rfl) T.c_MOST_NUMBER ⟨_, rfl⟩) pa_nil))))))) pss_nil))), ?_⟩
    refine nrm (σ' := [some v_thing, some v_names, none]) rfl ?_
    refine q_if (et_or (et_not (et_B (ev_isi (d := (eP3 Dat.str Dat.str Dat.int) a.1) (n := "tuple") (b := true) rfl (show kitB "tuple" "tuple" = some true by decide +kernel) (ea_d (ev_d (K := K) rfl h_thing) (ea_cons mo_cls ev_cls ea_nil))))) fun _ => (et_test (ev_neI (ev_lenT (ea_d (ev_d (K := K) rfl h_thing) ea_nil)) (ev_int (K := K))))) ok (fun hb G H s1 ok => ?_) (fun hb G H s1 ok => ?_)
    · have hm := cond_t hb hm
      have h_thing := dp_up s1 _ h_thing
      have h_names := dp_up s1 _ h_names
      have sg := sg.trans s1
      refine q_ret (ev_bl (K := K)) ok (fun v G H s1 ok hv => ?_)
      have sg := sg.trans s1
      cases hm
      exact q v G H sg (ok.less hB) hv
    · have hm := cond_f hb hm
      have h_thing := dp_up s1 _ h_thing
      have h_names := dp_up s1 _ h_names
      have sg := sg.trans s1
      refine q_nilU ?_
      obtain ⟨t8, e_t8, hm⟩ := bs hm
      refine q_if (et_not (et_B (ev_allL (ea_d (EvL.ev (el_lcM (ea := Dat.str) (eb := Dat.bool) (xs := [(a.1.1, a.1.2.1).1, (a.1.1, a.1.2.1).2]) (ys := t8) (hf := e_t8) (Src.is (src_tup (ev_is (ev_slT (ev_d (K := K) rfl h_thing) eo_none (eo_some (ev_int (K := K)))) rfl)) rfl) (fun x1 _ Mx5 _ _ he6 sM4 sG3 hv2 => by (obtain ⟨t7, e_t7, he6⟩ := bs he6); cases he6; exact (tg_name ⟨rfl, (ev_and (ev_callP (res := fun r => DD K (Dat.bool r)) (a := x1) e_t7 (ea_d (ev_d (K := K) rfl hv2) ea_nil)) fun _ => (ev_inS (k := false) (xs := a.2) (ev_d (K := K) rfl hv2) (ev_d (K := K) rfl (dp_up sG3 _ h_names))))⟩)))) ea_nil)))) ok (fun hb G H s1 ok => ?_) (fun hb G H s1 ok => ?_)
      · have hm := cond_t hb hm
        have h_thing := dp_up s1 _ h_thing
        have h_names := dp_up s1 _ h_names
        have sg := sg.trans s1
        refine q_ret (ev_bl (K := K)) ok (fun v G H s1 ok hv => ?_)
        have sg := sg.trans s1
        cases hm
        exact q v G H sg (ok.less hB) hv
      · have hm := cond_f hb hm
        have h_thing := dp_up s1 _ h_thing
        have h_names := dp_up s1 _ h_names
        have sg := sg.trans s1
        refine q_nilU ?_
        obtain ⟨t10, e_t10, hm⟩ := bs hm
        refine q_ret (ev_andG (c := t10) (ev_neS (ev_ixT (d := Dat.str a.1.1) rfl (ev_d (K := K) rfl h_thing) ev_int) (ev_ixT (d := Dat.str a.1.2.1) rfl (ev_d (K := K) rfl h_thing) ev_int)) (fun eb => by have e1 := cond_t eb e_t10; (obtain ⟨t9, e_t9, e1⟩ := bs e1); (have e1 := Option.some.inj e1); subst e1; exact (ev_callP (res := fun r => DD K (Dat.bool r)) (a := (a.1.2.2, (1 : Int), (99 : Int))) e_t9 (ea_d (ev_ixT (d := Dat.int a.1.2.2) rfl (ev_d (K := K) rfl h_thing) ev_int) (ea_d (ev_int (K := K)) (ea_d (ev_int (K := K)) ea_nil))))) (fun eb => by have e1 := cond_f eb e_t10; cases e1; exact ⟨rfl, rfl⟩)) ok (fun v G H s1 ok hv => ?_)
        have sg := sg.trans s1
        cases hm
        exact q v G H sg (ok.less hB) hv
/-! ### check_notches -/
theorem sc_check_notches : FnScope ["notches", "names", "place", "notch"] ["notches", "names"] (defScope s_check_notches) := ⟨rfl, rfl, rfl, by decide +kernel, rfl, by decide +kernel, by decide +kernel⟩
def a_check_notches (K : PySem.W.Frag) (a : (List (Str × Str × Int)) × (List Str)) : List V → Hp → Prop := conP (DD K ((eT (eP3 Dat.str Dat.str Dat.int)) a.1)) (conP (DD K ((eL Dat.str) a.2)) (nilP))
def m_check_notches (a : (List (Str × Str × Int)) × (List Str)) : Option Unit :=
  cond (!true) (none) ((forO (fun (st2 : Unit) (x3 : (Int × (Str × Str × Int))) => (m_is_notch (x3.2, a.2)).bind fun t12 => (cond (!t12) (some true) ((cond (decide ((0 : Int) < x3.1)) ((atI a.1 (x3.1 - (1 : Int))).bind fun t13 => some (!ltP (t13.1, t13.2.1) (x3.2.1, x3.2.2.1))) (some false)).bind fun t14 => some t14)).bind fun t15 => cond t15 (none) (some ())) (enum a.1) ()).bind fun fin1 => some ())
abbrev sp_check_notches [Tb] (K : PySem.W.Frag) : Sp := spP (a_check_notches K) (m_check_notches) fun r => DD K (eN r)
theorem ok_check_notches [Tb] {P : Program} {w : World} {K : PySem.W.Frag} {mg : Str → Option Value} {base : Heap} (T : Txt K mg) (O_is_notch : FnOk P w K mg base CX0 3 T.a_is_notch T.d_is_notch ["thing", "names"] (sp_is_notch K)) : FnOk P w K mg base CX0 (4) T.a_check_notches T.d_check_notches ["notches", "names"] (sp_check_notches K) := by
  refine T.F_check_notches.ok sc_check_notches (fun vs H Q E h => ?_) (fun cdv A outer s0 H vs Q E hr h => ?_)
  · obtain ⟨G, M0, a, r, ok, ⟨v_notches, _, rfl, h_notches, v_names, _, rfl, h_names, rfl⟩, hm, q⟩ := h
    rfl
  · obtain ⟨G, M0, a, r, ok, ⟨v_notches, _, rfl, h_notches, v_names, _, rfl, h_names, rfl⟩, hm, q⟩ := h
    unfold m_check_notches at hm
    have sg := Same.refl G
    have hB := Same.refl M0
    refine ⟨_, (pss_cons (ps_if (pt_not (pt_val (pe_callB (call_isiKK (K := K)) (by rfl) T.n_isinstance (by decide +kernel) (pa_cons (pv 0) (pa_cons (pe_bltn (v := .ty "tuple") (by rfl) T.n_tuple (by decide +kernel) rfl) pa_nil))))) (pss_cons ps_never pss_nil) pss_nil) (pss_cons (ps_for PassesOwn.never rfl (pi_enumTK (K := K) (by rfl) T.n_enumerate (pa_cons (pv 0) pa_nil)) (pg_tup rfl (pgs_cons (pg_name (i := 2) sc_check_notches.nd rfl (.inl rfl)) (pgs_cons (pg_name (i := 3) sc_check_notches.nd rfl (.inl rfl)) pgs_nil))) (pss_cons (ps_if (PW.pt (pw_or (pt_not (pt_val (pe_call O_is_notch (hr.mono (by decide)) (by rfl) T.g_is_notch T.F_is_notch.kp T.b_is_notch .nil pass0 (pa_cons (pv 3) (pa_cons (pv 1) pa_nil))))) (pw_or1 (PW.pt (pw_and (pt_cmpR op_gt (pv 2) pe_int (nomark _)) (pw_and1 (pt_cmpR (op_leD (K := K) hr.units) (pe_slice (sl_tupK (K := K)) (pv 3) po_none (po_some pe_int)) (pe_slice (sl_tupK (K := K)) (pe_ix (ix_tupK (K := K)) (pv 0) (pe_op op_sub (pv 2) pe_int) (fun _ _ => rfl)) po_none (po_some pe_int)) (nomark _)))))))) (pss_cons ps_never pss_nil) pss_nil) pss_nil)) pss_nil)), ?_⟩
    refine nrm (σ' := [some v_notches, some v_names, none, none]) rfl ?_
    refine q_if (et_not (et_B (ev_isi (d := (eT (eP3 Dat.str Dat.str Dat.int)) a.1) (n := "tuple") (b := true) rfl (show kitB "tuple" "tuple" = some true by decide +kernel) (ea_d (ev_d (K := K) rfl h_notches) (ea_cons mo_cls ev_cls ea_nil))))) ok (fun hb G H s1 ok => ?_) (fun hb G H s1 ok => ?_)
    · have hm := cond_t hb hm
      have h_notches := dp_up s1 _ h_notches
      have h_names := dp_up s1 _ h_names
      have sg := sg.trans s1
      cases hm
    · have hm := cond_f hb hm
      have h_notches := dp_up s1 _ h_notches
      have h_names := dp_up s1 _ h_names
      have sg := sg.trans s1
      refine q_nilU ?_
      obtain ⟨fin1, e_fin1, hm⟩ := bs hm
      have hmo4 := hm
      refine q_forO (ea := (eR2 Dat.int (eP3 Dat.str Dat.str Dat.int))) (Src.is (src_enumT (ea_d (ev_d (K := K) rfl h_notches) ea_nil)) enumD_map) ok (fun (st2 : Unit) σ1 G1 M1 => ∃ (y_place : Option V) (y_notch : Option V), σ1 = [some v_notches, some v_names, y_place, y_notch] ∧ (Same M0 M1)) e_fin1 (fun G1 s1 => ⟨_, _, rfl, hB⟩) (by rintro _ _ _ _ _ ⟨y_place, y_notch, rfl, hB⟩ s2; exact ⟨_, _, rfl, hB⟩) (fun x3 xv6 st2 st' σ1 G M H N hm hj s1 ok hv hN => ?_) (fun σ1 G M H s1 ok hj => ?_)
      · obtain ⟨y_place, y_notch, rfl, hB⟩ := hj
        have h_notches := dp_up s1 _ h_notches
        have h_names := dp_up s1 _ h_names
        have sg := sg.trans s1
        have sl7 := Same.refl G
        refine gr2 hv ok.g (fun w8 w9 hw10 hw11 => ?_)
        refine gn ?_
        have h_place := hw10
        cases h_place
        refine gn ?_
        have h_notch := hw11
        refine nrm (σ' := [some v_notches, some v_names, some (.int x3.1), some w9]) rfl ?_
        obtain ⟨t12, e_t12, hm⟩ := bs hm
        obtain ⟨t15, e_t15, hm⟩ := bs hm
        refine q_if (et_orG (c := t15) (et_not (et_B (ev_callP (res := fun r => DD K (Dat.bool r)) (a := (x3.2, a.2)) e_t12 (ea_d (ev_d (K := K) rfl h_notch) (ea_d (ev_d (K := K) rfl h_names) ea_nil))))) (fun eb => by have e1 := cond_f eb e_t15; (obtain ⟨t14, e_t14, e1⟩ := bs e1); (have e1 := Option.some.inj e1); subst e1; exact (et_andG (c := t14) (et_test (ev_gt (ev_d (K := K) rfl (.int _)) (ev_int (K := K)))) (fun eb => by have e1 := cond_t eb e_t14; (obtain ⟨t13, e_t13, e1⟩ := bs e1); (have e1 := Option.some.inj e1); subst e1; exact (et_test (ev_leP (a := (x3.2.1, x3.2.2.1)) (b := (t13.1, t13.2.1)) (ev_is (ev_slT (ev_d (K := K) rfl h_notch) eo_none (eo_some (ev_int (K := K)))) rfl) (ev_is (ev_slT (ev_ixTM (e := (eP3 Dat.str Dat.str Dat.int)) e_t13 (ev_d (K := K) rfl h_notches) (ev_sub (ev_d (K := K) rfl (.int _)) (ev_int (K := K)))) eo_none (eo_some (ev_int (K := K)))) rfl)))) (fun eb => by have e1 := cond_f eb e_t14; cases e1; exact ⟨rfl, rfl⟩))) (fun eb => by have e1 := cond_t eb e_t15; cases e1; exact ⟨rfl, rfl⟩)) ok (fun hb G H s1 ok => ?_) (fun hb G H s1 ok => ?_)
        · have hm := cond_t hb hm
          have h_notches := dp_up s1 _ h_notches
          have h_names := dp_up s1 _ h_names
          have h_notch := dp_up s1 _ h_notch
          have sg := sg.trans s1
          have sl7 := sl7.trans s1
          cases hm
        · have hm := cond_f hb hm
          have h_notches := dp_up s1 _ h_notches
          have h_names := dp_up s1 _ h_names
          have h_notch := dp_up s1 _ h_notch
          have sg := sg.trans s1
          have sl7 := sl7.trans s1
          refine q_nilU ?_
          refine q_nil ?_
          cases hm
          exact hN _ _ _ _ sl7 ok ⟨_, _, rfl, hB⟩
      · obtain ⟨y_place, y_notch, rfl, hB⟩ := hj
        have h_notches := dp_up s1 _ h_notches
        have h_names := dp_up s1 _ h_names
        have sg := sg.trans s1
        refine q_nil ?_
        cases hm
        exact q _ _ _ sg (ok.less hB) .non
/-! ### Peal___init__ -/
theorem sc_Peal___init__ : FnScope ["self", "bells", "notches", "name", "other", "number", "bell"] ["self", "bells", "notches"] (defScope s_Peal___init__) := ⟨rfl, rfl, rfl, by decide +kernel, rfl, by decide +kernel, by decide +kernel⟩
def a_Peal___init__ (K : PySem.W.Frag) (a : (List (Str × Int)) × (List (Str × Str × Int))) : List V → Hp → Prop := conP (DD K ((eT (eP2 Dat.str Dat.int)) a.1)) (conP (DD K ((eT (eP3 Dat.str Dat.str Dat.int)) a.2)) (nilP))
def m_Peal___init__ (a : (List (Str × Int)) × (List (Str × Str × Int))) : Option ((List (Str × Int)) × (List (Str × Str × Int)) × (List (Str × Int)) × (List ((Str × Str) × Int))) :=
  (m_check_bells a.1).bind fun t1 => (lcO (fun x2 : (Str × Int) => some x2.1) a.1).bind fun t8 => (m_check_notches (a.2, t8)).bind fun t9 => (dictO a.1).bind fun t10 => (dcO (fun x11 : (Str × Str × Int) => some ((x11.1, x11.2.1), x11.2.2)) a.2).bind fun t20 => some (a.1, a.2, t10, t20)
abbrev sp_Peal___init__ [Tb] (K : PySem.W.Frag) : Sp := spI K (clsAt K "Peal") ["bells", "notches", "sizes", "turning"] (fun r => [(eT (eP2 Dat.str Dat.int)) r.1, (eT (eP3 Dat.str Dat.str Dat.int)) r.2.1, (eDS Dat.int) r.2.2.1, (eDP Dat.int) r.2.2.2]) (a_Peal___init__ K) m_Peal___init__
theorem ok_Peal___init__ [Tb] {P : Program} {w : World} {K : PySem.W.Frag} {mg : Str → Option Value} {base : Heap} (T : Txt K mg) (O_check_bells : FnOk P w K mg base CX0 4 T.a_check_bells T.d_check_bells ["bells"] (sp_check_bells K)) (O_check_notches : FnOk P w K mg base CX0 4 T.a_check_notches T.d_check_notches ["notches", "names"] (sp_check_notches K)) : FnOk P w K mg base CX0 (5) T.a_Peal___init__ T.d_Peal___init__ ["self", "bells", "notches"] (sp_Peal___init__ K) := by
  refine T.F_Peal___init__.ex.ok sc_Peal___init__ (fun vs H Q E h => ?_) (fun cdv A outer s0 H vs Q E hr h => ?_)
  · obtain ⟨G, M0, x, dx, ws, a, r, rfl, ok, hx0, ⟨v_bells, _, rfl, h_bells, v_notches, _, rfl, h_notches, rfl⟩, hm, q⟩ := h
    rfl
  · obtain ⟨G, M0, x, dx, ws, a, r, rfl, ok, hx0, ⟨v_bells, _, rfl, h_bells, v_notches, _, rfl, h_notches, rfl⟩, hm, q⟩ := h
    unfold m_Peal___init__ at hm
    have sg := Same.refl G
    have hB := Same.refl M0
    refine ⟨_, (pss_cons (ps_expr (pe_call O_check_bells (hr.mono (by decide)) (by rfl) T.g_check_bells T.F_check_bells.kp T.b_check_bells .nil pass0 (pa_cons (pv 1) pa_nil))) (pss_cons (ps_expr (pe_call O_check_notches (hr.mono (by decide)) (by rfl) T.g_check_notches T.F_check_notches.kp T.b_check_notches .nil pass0 (pa_cons (pv 2) (pa_cons (pe_lc (own := [("bell", 6)]) (g := (gName 6)) (tt := tYes) rfl sc_Peal___init__.nd (pi_tupK (K := K) (pv 1)) (blkOk_by (own := [("bell", 6)]) (N := ["self", "bells", "notches", "name", "other", "number", "bell"]) (sc := defScope s_Peal___init__) (by decide +kernel)) (fun _ _ _ _ _ => (pg_name (i := 6) sc_Peal___init__.nd rfl (by first | exact .inl rfl | exact .inr rfl))) (fun _ _ _ _ _ => pts_nil) (fun _ _ _ _ _ => (pe_ix (ix_tupK (K := K)) (pv 6) pe_int (fun _ _ => rfl)))) pa_nil)))) (pss_cons (ps_fld (pv 0) (pv 1) rfl) (pss_cons (ps_fld (pv 0) (pv 2) rfl) (pss_cons (ps_fld (pv 0) (pe_callTy (cl_dictTK (K := K) rfl) (by rfl) T.n_dict (by decide +kernel) (pa_cons (pv 1) pa_nil)) rfl) (pss_cons (ps_fld (pv 0) (pe_dcB true (own := [("name", 3), ("other", 4), ("number", 5)]) (g := (gTup K 3 (gCons (gName 3) (gCons (gName 4) (gCons (gName 5) gNil))))) (tt := tYes) (hu_of hr) rfl sc_Peal___init__.nd (pi_tupK (K := K) (pv 2)) (blkOk_by (own := [("name", 3), ("other", 4), ("number", 5)]) (N := ["self", "bells", "notches", "name", "other", "number", "bell"]) (sc := defScope s_Peal___init__) (by decide +kernel)) (fun _ _ _ _ _ => (pg_tup rfl (pgs_cons (pg_name (i := 3) sc_Peal___init__.nd rfl (by first | exact .inl rfl | exact .inr rfl)) (pgs_cons (pg_name (i := 4) sc_Peal___init__.nd rfl (by first | exact .inl rfl | exact .inr rfl)) (pgs_cons (pg_name (i := 5) sc_Peal___init__.nd rfl (by first | exact .inl rfl | exact .inr rfl)) pgs_nil))))) (fun _ _ _ _ _ => pts_nil) (fun _ _ _ _ _ => (pe_tup (pa_cons (pv 3) (pa_cons (pv 4) pa_nil)))) (fun _ _ _ _ _ => (pv 5))) rfl) pss_nil)))))), ?_⟩
    refine nrm (σ' := [some (.ref x), some v_bells, some v_notches, none, none, none, none]) rfl ?_
    obtain ⟨t1, e_t1, hm⟩ := bs hm
    refine q_expr (ev_callP (res := fun r => DD K (eN r)) (a := a.1) e_t1 (ea_d (ev_d (K := K) rfl h_bells) ea_nil)) ok (fun G H s1 ok => ?_)
    have h_bells := dp_up s1 _ h_bells
    have h_notches := dp_up s1 _ h_notches
    have sg := sg.trans s1
    obtain ⟨t8, e_t8, hm⟩ := bs hm
    obtain ⟨t9, e_t9, hm⟩ := bs hm
    refine q_expr (ev_callP (res := fun r => DD K (eN r)) (a := (a.2, t8)) e_t9 (ea_d (ev_d (K := K) rfl h_notches) (ea_d (EvL.ev (el_lcM (ea := (eP2 Dat.str Dat.int)) (eb := Dat.str) (xs := a.1) (ys := t8) (hf := e_t8) (src_tup (ev_d (K := K) rfl h_bells)) (fun x2 _ Mx6 _ _ he7 sM5 sG4 hv3 => by cases he7; exact (tg_name ⟨rfl, (ev_ixT (d := Dat.str x2.1) rfl (ev_d (K := K) rfl hv3) ev_int)⟩)))) ea_nil))) ok (fun G H s1 ok => ?_)
    have h_bells := dp_up s1 _ h_bells
    have h_notches := dp_up s1 _ h_notches
    have sg := sg.trans s1
    refine q_fld (K := K) (ns := []) T.cl_Peal T.na_Peal_bells (ev_d (K := K) rfl h_bells) (ev_own rfl) rfl (by decide +kernel) (by decide) ok (fun vf_bells G H s1 ok hf_bells => ?_)
    have h_bells := dp_up s1 _ h_bells
    have h_notches := dp_up s1 _ h_notches
    have sg := sg.trans s1
    refine q_fld (K := K) (ns := ["bells"]) T.cl_Peal T.na_Peal_notches (ev_d (K := K) rfl h_notches) (ev_own rfl) rfl (by decide +kernel) (by decide) ok (fun vf_notches G H s1 ok hf_notches => ?_)
    have h_bells := dp_up s1 _ h_bells
    have h_notches := dp_up s1 _ h_notches
    have hf_bells := dp_up s1 _ hf_bells
    have sg := sg.trans s1
    obtain ⟨t10, e_t10, hm⟩ := bs hm
    refine q_fld (K := K) (ns := ["bells", "notches"]) T.cl_Peal T.na_Peal_sizes (ev_dictT (e := Dat.int) e_t10 (ea_d (ev_d (K := K) rfl h_bells) ea_nil)) (ev_own rfl) rfl (by decide +kernel) (by decide) ok (fun vf_sizes G H s1 ok hf_sizes => ?_)
    have h_bells := dp_up s1 _ h_bells
    have h_notches := dp_up s1 _ h_notches
    have hf_bells := dp_up s1 _ hf_bells
    have hf_notches := dp_up s1 _ hf_notches
    have sg := sg.trans s1
    obtain ⟨t20, e_t20, hm⟩ := bs hm
    refine q_fld (K := K) (ns := ["bells", "notches", "sizes"]) T.cl_Peal T.na_Peal_turning (ev_dcP (e := Dat.int) (ea := (eP3 Dat.str Dat.str Dat.int)) (xs := a.2) (hf := e_t20) (src_tup (ev_d (K := K) rfl h_notches)) (fun x11 _ Mx15 _ _ he16 sM14 sG13 hv12 => by cases he16; exact (tg_t3 hv12 fun _ _ _ h17 h18 h19 => (tg_name (tg_name (tg_name ⟨rfl, (ev_rtup (ea_consD (ev_d (K := K) rfl h17) (ea_consD (ev_d (K := K) rfl h18) (ea_nilD (K := K))))), (ev_d (K := K) rfl h19)⟩)))))) (ev_own rfl) rfl (by decide +kernel) (by decide) ok (fun vf_turning G H s1 ok hf_turning => ?_)
    have h_bells := dp_up s1 _ h_bells
    have h_notches := dp_up s1 _ h_notches
    have hf_bells := dp_up s1 _ hf_bells
    have hf_notches := dp_up s1 _ hf_notches
    have hf_sizes := dp_up s1 _ hf_sizes
    have sg := sg.trans s1
    refine q_nil ?_
    cases hm
    exact q _ _ _ sg ok rfl (.cons hf_bells (.cons hf_notches (.cons hf_sizes (.cons hf_turning .nil))))
/-! ### check_name -/
theorem sc_check_name : FnScope ["peal", "name"] ["peal", "name"] (defScope s_check_name) := ⟨rfl, rfl, rfl, by decide +kernel, rfl, by decide +kernel, by decide +kernel⟩
def a_check_name (K : PySem.W.Frag) (a : ((List (Str × Int)) × (List (Str × Str × Int)) × (List (Str × Int)) × (List ((Str × Str) × Int))) × Str) : List V → Hp → Prop := conP (DD K (eX_Peal a.1)) (conP (DD K (Dat.str a.2)) (nilP))
def m_check_name (a : ((List (Str × Int)) × (List (Str × Str × Int)) × (List (Str × Int)) × (List ((Str × Str) × Int))) × Str) : Option Unit :=
  (m_is_name a.2).bind fun t1 => cond ((!t1) || (!hasA a.1.2.2.1 a.2)) (none) (some ())
abbrev sp_check_name [Tb] (K : PySem.W.Frag) : Sp := spP (a_check_name K) (m_check_name) fun r => DD K (eN r)
theorem ok_check_name [Tb] {P : Program} {w : World} {K : PySem.W.Frag} {mg : Str → Option Value} {base : Heap} (T : Txt K mg) (O_is_name : FnOk P w K mg base CX0 1 T.a_is_name T.d_is_name ["thing"] (sp_is_name K)) : FnOk P w K mg base CX0 (2) T.a_check_name T.d_check_name ["peal", "name"] (sp_check_name K) := by
  refine T.F_check_name.ok sc_check_name (fun vs H Q E h => ?_) (fun cdv A outer s0 H vs Q E hr h => ?_)
  · obtain ⟨G, M0, a, r, ok, ⟨v_peal, _, rfl, h_peal, v_name, _, rfl, h_name, rfl⟩, hm, q⟩ := h
    rfl
  · obtain ⟨G, M0, a, r, ok, ⟨v_peal, _, rfl, h_peal, v_name, _, rfl, h_name, rfl⟩, hm, q⟩ := h
    unfold m_check_name at hm
    have sg := Same.refl G
    have hB := Same.refl M0
    refine ⟨_, (pss_cons (ps_if (PW.pt (pw_or (pt_not (pt_val (pe_call O_is_name (hr.mono (by decide)) (by rfl) T.g_is_name T.F_is_name.kp T.b_is_name .nil pass0 (pa_cons (pv 1) pa_nil)))) (pw_or1 (pt_cmp (pc_dnotin (hu_of hr) (pv 1) (pe_fldK (K := K) (pv 0))))))) (pss_cons ps_never pss_nil) pss_nil) pss_nil), ?_⟩
    refine nrm (σ' := [some v_peal, some v_name]) rfl ?_
    obtain ⟨t1, e_t1, hm⟩ := bs hm
    refine q_if (et_or (et_not (et_B (ev_callP (res := fun r => DD K (Dat.bool r)) (a := a.2) e_t1 (ea_d (ev_d (K := K) rfl h_name) ea_nil)))) fun _ => (et_B (ev_dninS (e := Dat.int) (xs := a.1.2.2.1) (ev_d (K := K) rfl h_name) (ev_fld (d := (eDS Dat.int) a.1.2.2.1) (i := 2) T.cl_Peal T.na_Peal_sizes (by decide +kernel) rfl (ev_d (K := K) rfl h_peal))))) ok (fun hb G H s1 ok => ?_) (fun hb G H s1 ok => ?_)
    · have hm := cond_t hb hm
      have h_peal := dp_up s1 _ h_peal
      have h_name := dp_up s1 _ h_name
      have sg := sg.trans s1
      cases hm
    · have hm := cond_f hb hm
      have h_peal := dp_up s1 _ h_peal
      have h_name := dp_up s1 _ h_name
      have sg := sg.trans s1
      refine q_nilU ?_
      refine q_nil ?_
      cases hm
      exact q _ _ _ sg (ok.less hB) .non
/-! ### check_two -/
theorem sc_check_two : FnScope ["peal", "name", "other"] ["peal", "name", "other"] (defScope s_check_two) := ⟨rfl, rfl, rfl, by decide +kernel, rfl, by decide +kernel, by decide +kernel⟩
def a_check_two (K : PySem.W.Frag) (a : ((List (Str × Int)) × (List (Str × Str × Int)) × (List (Str × Int)) × (List ((Str × Str) × Int))) × Str × Str) : List V → Hp → Prop := conP (DD K (eX_Peal a.1)) (conP (DD K (Dat.str a.2.1)) (conP (DD K (Dat.str a.2.2)) (nilP)))
def m_check_two (a : ((List (Str × Int)) × (List (Str × Str × Int)) × (List (Str × Int)) × (List ((Str × Str) × Int))) × Str × Str) : Option Unit :=
  (m_check_name (a.1, a.2.1)).bind fun t1 => (m_check_name (a.1, a.2.2)).bind fun t2 => cond (decide (a.2.2 = a.2.1)) (none) (some ())
abbrev sp_check_two [Tb] (K : PySem.W.Frag) : Sp := spP (a_check_two K) (m_check_two) fun r => DD K (eN r)
theorem ok_check_two [Tb] {P : Program} {w : World} {K : PySem.W.Frag} {mg : Str → Option Value} {base : Heap} (T : Txt K mg) (O_check_name : FnOk P w K mg base CX0 2 T.a_check_name T.d_check_name ["peal", "name"] (sp_check_name K)) : FnOk P w K mg base CX0 (3) T.a_check_two T.d_check_two ["peal", "name", "other"] (sp_check_two K) := by
  refine T.F_check_two.ok sc_check_two (fun vs H Q E h => ?_) (fun cdv A outer s0 H vs Q E hr h => ?_)
  · obtain ⟨G, M0, a, r, ok, ⟨v_peal, _, rfl, h_peal, v_name, _, rfl, h_name, v_other, _, rfl, h_other, rfl⟩, hm, q⟩ := h
    rfl
  · obtain ⟨G, M0, a, r, ok, ⟨v_peal, _, rfl, h_peal, v_name, _, rfl, h_name, v_other, _, rfl, h_other, rfl⟩, hm, q⟩ := h
    unfold m_check_two at hm
    have sg := Same.refl G
    have hB := Same.refl M0
    refine ⟨_, (pss_cons (ps_expr (pe_call O_check_name (hr.mono (by decide)) (by rfl) T.g_check_name T.F_check_name.kp T.b_check_name .nil pass0 (pa_cons (pv 0) (pa_cons (pv 1) pa_nil)))) (pss_cons (ps_expr (pe_call O_check_name (hr.mono (by decide)) (by rfl) T.g_check_name T.F_check_name.kp T.b_check_name .nil pass0 (pa_cons (pv 0) (pa_cons (pv 2) pa_nil)))) (pss_cons (ps_if (pt_cmpR op_eq (pv 2) (pv 1) (nomark _)) (pss_cons ps_never pss_nil) pss_nil) pss_nil))), ?_⟩
    refine nrm (σ' := [some v_peal, some v_name, some v_other]) rfl ?_
    obtain ⟨t1, e_t1, hm⟩ := bs hm
    refine q_expr (ev_callP (res := fun r => DD K (eN r)) (a := (a.1, a.2.1)) e_t1 (ea_d (ev_d (K := K) rfl h_peal) (ea_d (ev_d (K := K) rfl h_name) ea_nil))) ok (fun G H s1 ok => ?_)
    have h_peal := dp_up s1 _ h_peal
    have h_name := dp_up s1 _ h_name
    have h_other := dp_up s1 _ h_other
    have sg := sg.trans s1
    obtain ⟨t2, e_t2, hm⟩ := bs hm
    refine q_expr (ev_callP (res := fun r => DD K (eN r)) (a := (a.1, a.2.2)) e_t2 (ea_d (ev_d (K := K) rfl h_peal) (ea_d (ev_d (K := K) rfl h_other) ea_nil))) ok (fun G H s1 ok => ?_)
    have h_peal := dp_up s1 _ h_peal
    have h_name := dp_up s1 _ h_name
    have h_other := dp_up s1 _ h_other
    have sg := sg.trans s1
    refine q_if (et_test (ev_eqS (ev_d (K := K) rfl h_other) (ev_d (K := K) rfl h_name))) ok (fun hb G H s1 ok => ?_) (fun hb G H s1 ok => ?_)
    · have hm := cond_t hb hm
      have h_peal := dp_up s1 _ h_peal
      have h_name := dp_up s1 _ h_name
      have h_other := dp_up s1 _ h_other
      have sg := sg.trans s1
      cases hm
    · have hm := cond_f hb hm
      have h_peal := dp_up s1 _ h_peal
      have h_name := dp_up s1 _ h_name
      have h_other := dp_up s1 _ h_other
      have sg := sg.trans s1
      refine q_nilU ?_
      refine q_nil ?_
      cases hm
      exact q _ _ _ sg (ok.less hB) .non
/-! ### Peal_told -/
theorem sc_Peal_told : FnScope ["self", "name", "other", "number", "rest", "notch"] ["self", "name", "other", "number"] (defScope s_Peal_told) := ⟨rfl, rfl, rfl, by decide +kernel, rfl, by decide +kernel, by decide +kernel⟩
def a_Peal_told (K : PySem.W.Frag) (a : ((List (Str × Int)) × (List (Str × Str × Int)) × (List (Str × Int)) × (List ((Str × Str) × Int))) × Str × Str × Int) : List V → Hp → Prop := conP (DD K (eX_Peal a.1)) (conP (DD K (Dat.str a.2.1)) (conP (DD K (Dat.str a.2.2.1)) (conP (DD K (Dat.int a.2.2.2)) (nilP))))
def m_Peal_told (a : ((List (Str × Int)) × (List (Str × Str × Int)) × (List (Str × Int)) × (List ((Str × Str) × Int))) × Str × Str × Int) : Option ((List (Str × Int)) × (List (Str × Str × Int)) × (List (Str × Int)) × (List ((Str × Str) × Int))) :=
  (m_check_two (a.1, a.2.1, a.2.2.1)).bind fun t1 => (m_is_within (a.2.2.2, (0 : Int), (99 : Int))).bind fun t2 => cond (!t2) (none) ((lcF (fun x3 : (Str × Str × Int) => cond (!decide ((x3.1, x3.2.1) = (a.2.1, a.2.2.1))) (some (some x3)) (some none)) a.1.2.1).bind fun t9 => (cond (decide ((0 : Int) < a.2.2.2)) ((appO t9 (a.2.1, a.2.2.1, a.2.2.2)).bind fun t12 => some t12) (some t9)).bind fun j10 => (m_Peal___init__ (a.1.1, (srtF fSSI j10))).bind fun t14 => some t14)
abbrev sp_Peal_told [Tb] (K : PySem.W.Frag) : Sp := spP (a_Peal_told K) (m_Peal_told) fun r => DD K (eX_Peal r)
theorem ok_Peal_told [Tb] {P : Program} {w : World} {K : PySem.W.Frag} {mg : Str → Option Value} {base : Heap} (T : Txt K mg) (O_check_two : FnOk P w K mg base CX0 3 T.a_check_two T.d_check_two ["peal", "name", "other"] (sp_check_two K)) (O_is_within : FnOk P w K mg base CX0 2 T.a_is_within T.d_is_within ["thing", "low", "high"] (sp_is_within K)) (O_Peal___init__ : FnOk P w K mg base CX0 5 T.a_Peal___init__ T.d_Peal___init__ ["self", "bells", "notches"] (sp_Peal___init__ K)) : FnOk P w K mg base CX0 (7) T.a_Peal_told T.d_Peal_told ["self", "name", "other", "number"] (sp_Peal_told K) := by
  refine T.F_Peal_told.ok sc_Peal_told (fun vs H Q E h => ?_) (fun cdv A outer s0 H vs Q E hr h => ?_)
  · obtain ⟨G, M0, a, r, ok, ⟨v_self, _, rfl, h_self, v_name, _, rfl, h_name, v_other, _, rfl, h_other, v_number, _, rfl, h_number, rfl⟩, hm, q⟩ := h
    rfl
  · obtain ⟨G, M0, a, r, ok, ⟨v_self, _, rfl, h_self, v_name, _, rfl, h_name, v_other, _, rfl, h_other, v_number, _, rfl, h_number, rfl⟩, hm, q⟩ := h
    unfold m_Peal_told at hm
    have sg := Same.refl G
    have hB := Same.refl M0
    refine ⟨_, (pss_cons (ps_expr (pe_call O_check_two (hr.mono (by decide)) (by rfl) T.g_check_two T.F_check_two.kp T.b_check_two .nil pass0 (pa_cons (pv 0) (pa_cons (pv 1) (pa_cons (pv 2) pa_nil))))) (pss_cons (ps_if (pt_not (pt_val (pe_call O_is_within (hr.mono (by decide)) (by rfl) T.g_is_within T.F_is_within.kp T.b_is_within .nil pass0 (pa_cons (pv 3) (pa_cons pe_int (pa_cons (pe_glob (v := .int 99) (by rfl) T.c_MOST_NUMBER ⟨_, rfl⟩) pa_nil)))))) (pss_cons ps_never pss_nil) pss_nil) (pss_cons (ps_setLc (i := 4) (own := [("notch", 5)]) (g := (gName 5)) rfl sc_Peal_told.nd rfl rfl (sw_true rfl rfl rfl (by decide +kernel)) (pi_tupK (K := K) (pe_fldK (K := K) (pv 0))) (blkOk_by (own := [("notch", 5)]) (N := ["self", "name", "other", "number", "rest", "notch"]) (sc := defScope s_Peal_told) (by decide +kernel)) (fun _ _ _ _ _ => (pg_name (i := 5) sc_Peal_told.nd rfl (by first | exact .inl rfl | exact .inr rfl))) (fun _ _ _ _ _ => (pts_one (pt_cmpR (op_neDK (K := K) hr.units) (pe_slice (sl_tupK (K := K)) (pv 5) po_none (po_some pe_int)) (pe_tupF (pa_cons (pv 1) (pa_cons (pv 2) pa_nil))) (nomark _)))) (fun _ _ _ _ _ => (pv 5))) (pss_cons (ps_if (pt_cmpR op_gt (pv 3) pe_int (nomark _)) (pss_cons (ps_expr (pe_bm PySem.F.plainAttrs_list PySem.F.slot_list_append PySem.F.type_list_append mt_append (pv 4) (pa_cons (pe_tupF (pa_cons (pv 1) (pa_cons (pv 2) (pa_cons (pv 3) pa_nil)))) pa_nil))) pss_nil) pss_nil) (pss_cons (ps_ret (pe_make T.mk_Peal O_Peal___init__ (hr.mono (by decide)) (by rfl) T.mg_Peal T.b_Peal___init__ .nil pass0 (pa_cons (pe_fldK (K := K) (pv 0)) (pa_cons (pe_callTy (cl_tupleK (K := K)) (by rfl) T.n_tuple (by decide +kernel) (pa_cons (pe_callB (cr_sortedF (K := K) (sh := shSSI)) (by rfl) T.n_sorted (by decide +kernel) (pa_cons (pv 4) pa_nil)) pa_nil)) pa_nil)))) pss_nil))))), ?_⟩
    cases h_number
    refine nrm (σ' := [some v_self, some v_name, some v_other, some (.int a.2.2.2), none, none]) rfl ?_
    obtain ⟨t1, e_t1, hm⟩ := bs hm
    refine q_expr (ev_callP (res := fun r => DD K (eN r)) (a := (a.1, a.2.1, a.2.2.1)) e_t1 (ea_d (ev_d (K := K) rfl h_self) (ea_d (ev_d (K := K) rfl h_name) (ea_d (ev_d (K := K) rfl h_other) ea_nil)))) ok (fun G H s1 ok => ?_)
    have h_self := dp_up s1 _ h_self
    have h_name := dp_up s1 _ h_name
    have h_other := dp_up s1 _ h_other
    have sg := sg.trans s1
    obtain ⟨t2, e_t2, hm⟩ := bs hm
    refine q_if (et_not (et_B (ev_callP (res := fun r => DD K (Dat.bool r)) (a := (a.2.2.2, (0 : Int), (99 : Int))) e_t2 (ea_d (ev_d (K := K) rfl (.int _)) (ea_d (ev_int (K := K)) (ea_d (ev_int (K := K)) ea_nil)))))) ok (fun hb G H s1 ok => ?_) (fun hb G H s1 ok => ?_)
    · have hm := cond_t hb hm
      have h_self := dp_up s1 _ h_self
      have h_name := dp_up s1 _ h_name
      have h_other := dp_up s1 _ h_other
      have sg := sg.trans s1
      cases hm
    · have hm := cond_f hb hm
      have h_self := dp_up s1 _ h_self
      have h_name := dp_up s1 _ h_name
      have h_other := dp_up s1 _ h_other
      have sg := sg.trans s1
      refine q_nilU ?_
      obtain ⟨t9, e_t9, hm⟩ := bs hm
      refine q_setL (σ' := fun v => [some v_self, some v_name, some v_other, some (.int a.2.2.2), some v, none]) (el_lcMF (ea := (eP3 Dat.str Dat.str Dat.int)) (eb := (eP3 Dat.str Dat.str Dat.int)) (xs := a.1.2.1) (ys := t9) (hf := e_t9) (src_tup (ev_fld (d := (eT (eP3 Dat.str Dat.str Dat.int)) a.1.2.1) (i := 1) T.cl_Peal T.na_Peal_notches (by decide +kernel) rfl (ev_d (K := K) rfl h_self))) (fun x3 _ Mx7 _ _ he8 sM6 sG5 hv4 => by exact (tg_name ⟨rfl, lcb_if (et_test (ev_neE (e := (eP2 Dat.str Dat.str)) (x := (x3.1, x3.2.1)) (y := (a.2.1, a.2.2.1)) (eqe_P2 eqe_str eqe_str) (by decide) (ev_is (ev_slT (ev_d (K := K) rfl hv4) eo_none (eo_some (ev_int (K := K)))) rfl) (ev_tup (ea_consD (ev_d (K := K) rfl (dp_up sG5 _ h_name)) (ea_consD (ev_d (K := K) rfl (dp_up sG5 _ h_other)) (ea_nilD (K := K))))))) (fun eb => by have e1 := cond_t eb he8; cases e1; exact ⟨_, rfl, (ev_d (K := K) rfl hv4)⟩) (fun eb => by have e1 := cond_f eb he8; cases e1; exact ⟨rfl, rfl⟩)⟩))) ok (fun _ => rfl) (fun p_rest vs_rest G H s1 ok hn hd_rest => ?_)
      have h_self := dp_up s1 _ h_self
      have h_name := dp_up s1 _ h_name
      have h_other := dp_up s1 _ h_other
      have sg := sg.trans s1
      have h0_rest : M0 p_rest = none := sB_none (M := M0) hB hn
      have hd_rest : DqAll K G vs_rest (t9.map (eP3 Dat.str Dat.str Dat.int)) := hd_rest
      have ok : Ok _ (upd M0 p_rest (.lst vs_rest)) _ := ok
      have hB : Same M0 (upd M0 p_rest (.lst vs_rest)) := (sB_own hB h0_rest)
      have hp_rest : (upd M0 p_rest (.lst vs_rest)) p_rest = some (.lst vs_rest) := upd_same
      obtain ⟨M, eM⟩ : ∃ m, m = (upd M0 p_rest (.lst vs_rest)) := ⟨_, rfl⟩
      rw [← eM] at ok hB hp_rest
      clear eM
      obtain ⟨j10, e_j10, hm⟩ := bs hm
      refine q_ifJ (fun σ1 G1 M1 => ∃ (vs_rest : List V), σ1 = [some v_self, some v_name, some v_other, some (.int a.2.2.2), some (.ref p_rest), none] ∧ (DqAll K G1 vs_rest (j10.map (eP3 Dat.str Dat.str Dat.int))) ∧ (M1 p_rest = some (.lst vs_rest)) ∧ (Same M0 M1)) (et_test (ev_gt (ev_d (K := K) rfl (.int _)) (ev_int (K := K)))) ok (fun hb G H D1 s1 ok _ _ _ kD => ?_) (fun hb G H D1 s1 ok _ _ _ kD => ?_) (fun σ1 G M H s1 ok hj => ?_)
      · have hm := cond_t hb e_j10
        have h_self := dp_up s1 _ h_self
        have h_name := dp_up s1 _ h_name
        have h_other := dp_up s1 _ h_other
        have hd_rest := dpAll_up s1 _ hd_rest
        have sg := sg.trans s1
        have sl11 := Same.refl G
        obtain ⟨t12, e_t12, hm⟩ := bs hm
        obtain ⟨hl_t12, ea_t12⟩ := appO_of e_t12
        refine q_append (ev_own rfl) (ea_d (ev_tup (ea_consD (ev_d (K := K) rfl h_name) (ea_consD (ev_d (K := K) rfl h_other) (ea_consD (ev_d (K := K) rfl (.int _)) (ea_nilD (K := K)))))) ea_nil) hp_rest hp_rest (by rw [dpAll_len hd_rest, List.length_map]; exact szlt hl_t12) ok (fun v G H s1 ok hv => ?_)
        have h_self := dp_up s1 _ h_self
        have h_name := dp_up s1 _ h_name
        have h_other := dp_up s1 _ h_other
        have hd_rest := dpAll_up s1 _ hd_rest
        have sg := sg.trans s1
        have sl11 := sl11.trans s1
        have hd_rest : DqAll K G (vs_rest ++ [v]) (t12.map (eP3 Dat.str Dat.str Dat.int)) := by rw [ea_t12, List.map_append]; exact dpAll_app hd_rest (.cons hv .nil)
        have ok : Ok _ (upd M p_rest (.lst (vs_rest ++ [v]))) _ := ok
        have hB : Same M0 (upd M p_rest (.lst (vs_rest ++ [v]))) := (sB_own hB h0_rest)
        have hp_rest : (upd M p_rest (.lst (vs_rest ++ [v]))) p_rest = some (.lst (vs_rest ++ [v])) := upd_same
        obtain ⟨M, eM⟩ : ∃ m, m = (upd M p_rest (.lst (vs_rest ++ [v]))) := ⟨_, rfl⟩
        rw [← eM] at ok hB hp_rest
        clear eM
        obtain ⟨vs_rest, e_vs⟩ : ∃ m, m = (vs_rest ++ [v]) := ⟨_, rfl⟩
        rw [← e_vs] at hp_rest hd_rest
        clear e_vs
        refine q_nil ?_
        cases hm
        exact kD _ _ _ _ sl11 ok ⟨_, rfl, hd_rest, hp_rest, hB⟩
      · have hm := cond_f hb e_j10
        have h_self := dp_up s1 _ h_self
        have h_name := dp_up s1 _ h_name
        have h_other := dp_up s1 _ h_other
        have hd_rest := dpAll_up s1 _ hd_rest
        have sg := sg.trans s1
        have sl13 := Same.refl G
        refine q_nil ?_
        cases hm
        exact kD _ _ _ _ sl13 ok ⟨_, rfl, hd_rest, hp_rest, hB⟩
      · obtain ⟨vs_rest, rfl, hd_rest, hp_rest, hB⟩ := hj
        have h_self := dp_up s1 _ h_self
        have h_name := dp_up s1 _ h_name
        have h_other := dp_up s1 _ h_other
        have sg := sg.trans s1
        refine k_frz ok hp_rest h0_rest hB (fun G s1 hg ok => ?_)
        have h_self := dp_up s1 _ h_self
        have h_name := dp_up s1 _ h_name
        have h_other := dp_up s1 _ h_other
        have hd_rest := dpAll_up s1 _ hd_rest
        have sg := sg.trans s1
        have h_rest : Dq K G (.ref p_rest) ((eL (eP3 Dat.str Dat.str Dat.int)) j10) := .lst hg hd_rest
        have hB : Same M0 M0 := Same.refl _
        obtain ⟨t14, e_t14, hm⟩ := bs hm
        refine q_ret (ev_make (a := (a.1.1, (srtF fSSI j10))) e_t14 (ea_d (ev_fld (d := (eT (eP2 Dat.str Dat.int)) a.1.1) (i := 0) T.cl_Peal T.na_Peal_bells (by decide +kernel) rfl (ev_d (K := K) rfl h_self)) (ea_d (ev_tupL (ea_d (EvL.ev (el_sortedF flatSSI (ea_d (ev_d (K := K) rfl h_rest) ea_nil))) ea_nil)) ea_nil))) ok (fun v G H s1 ok hv => ?_)
        have sg := sg.trans s1
        cases hm
        exact q v G H sg (ok.less hB) hv
/-! ### Peal_hung -/
theorem sc_Peal_hung : FnScope ["self", "name", "marks"] ["self", "name", "marks"] (defScope s_Peal_hung) := ⟨rfl, rfl, rfl, by decide +kernel, rfl, by decide +kernel, by decide +kernel⟩
def a_Peal_hung (K : PySem.W.Frag) (a : ((List (Str × Int)) × (List (Str × Str × Int)) × (List (Str × Int)) × (List ((Str × Str) × Int))) × Str × Int) : List V → Hp → Prop := conP (DD K (eX_Peal a.1)) (conP (DD K (Dat.str a.2.1)) (conP (DD K (Dat.int a.2.2)) (nilP)))
def m_Peal_hung (a : ((List (Str × Int)) × (List (Str × Str × Int)) × (List (Str × Int)) × (List ((Str × Str) × Int))) × Str × Int) : Option ((List (Str × Int)) × (List (Str × Str × Int)) × (List (Str × Int)) × (List ((Str × Str) × Int))) :=
  (m_is_name a.2.1).bind fun t1 => cond ((!t1) || (hasA a.1.2.2.1 a.2.1)) (none) ((m_is_within (a.2.2, (2 : Int), (24 : Int))).bind fun t2 => cond (!t2) (none) (cond (decide ((a.1.1.length : Int) = (8 : Int))) (none) ((catO a.1.1 ([(a.2.1, a.2.2)] : (List (Str × Int)))).bind fun t3 => (m_Peal___init__ ((srtF fSI t3), a.1.2.1)).bind fun t4 => some t4)))
abbrev sp_Peal_hung [Tb] (K : PySem.W.Frag) : Sp := spP (a_Peal_hung K) (m_Peal_hung) fun r => DD K (eX_Peal r)
theorem ok_Peal_hung [Tb] {P : Program} {w : World} {K : PySem.W.Frag} {mg : Str → Option Value} {base : Heap} (T : Txt K mg) (O_is_name : FnOk P w K mg base CX0 1 T.a_is_name T.d_is_name ["thing"] (sp_is_name K)) (O_is_within : FnOk P w K mg base CX0 2 T.a_is_within T.d_is_within ["thing", "low", "high"] (sp_is_within K)) (O_Peal___init__ : FnOk P w K mg base CX0 5 T.a_Peal___init__ T.d_Peal___init__ ["self", "bells", "notches"] (sp_Peal___init__ K)) : FnOk P w K mg base CX0 (7) T.a_Peal_hung T.d_Peal_hung ["self", "name", "marks"] (sp_Peal_hung K) := by
  refine T.F_Peal_hung.ok sc_Peal_hung (fun vs H Q E h => ?_) (fun cdv A outer s0 H vs Q E hr h => ?_)
  · obtain ⟨G, M0, a, r, ok, ⟨v_self, _, rfl, h_self, v_name, _, rfl, h_name, v_marks, _, rfl, h_marks, rfl⟩, hm, q⟩ := h
    rfl
  · obtain ⟨G, M0, a, r, ok, ⟨v_self, _, rfl, h_self, v_name, _, rfl, h_name, v_marks, _, rfl, h_marks, rfl⟩, hm, q⟩ := h
    unfold m_Peal_hung at hm
    have sg := Same.refl G
    have hB := Same.refl M0
    refine ⟨_, (pss_cons (ps_if (PW.pt (pw_or (pt_not (pt_val (pe_call O_is_name (hr.mono (by decide)) (by rfl) T.g_is_name T.F_is_name.kp T.b_is_name .nil pass0 (pa_cons (pv 1) pa_nil)))) (pw_or1 (pt_cmp (pc_din (hu_of hr) (pv 1) (pe_fldK (K := K) (pv 0))))))) (pss_cons ps_never pss_nil) pss_nil) (pss_cons (ps_if (pt_not (pt_val (pe_call O_is_within (hr.mono (by decide)) (by rfl) T.g_is_within T.F_is_within.kp T.b_is_within .nil pass0 (pa_cons (pv 2) (pa_cons (pe_glob (v := .int 2) (by rfl) T.c_LEAST_MARKS ⟨_, rfl⟩) (pa_cons (pe_glob (v := .int 24) (by rfl) T.c_MOST_MARKS ⟨_, rfl⟩) pa_nil)))))) (pss_cons ps_never pss_nil) pss_nil) (pss_cons (ps_if (pt_cmpR op_eq (pe_callB (cl_lenK (K := K)) (by rfl) T.n_len (by decide +kernel) (pa_cons (pe_fldK (K := K) (pv 0)) pa_nil)) (pe_glob (v := .int 8) (by rfl) T.c_MOST_BELLS ⟨_, rfl⟩) (nomark _)) (pss_cons ps_never pss_nil) pss_nil) (pss_cons (ps_ret (pe_make T.mk_Peal O_Peal___init__ (hr.mono (by decide)) (by rfl) T.mg_Peal T.b_Peal___init__ .nil pass0 (pa_cons (pe_callTy (cl_tupleK (K := K)) (by rfl) T.n_tuple (by decide +kernel) (pa_cons (pe_callB (cr_sortedF (K := K) (sh := shSI)) (by rfl) T.n_sorted (by decide +kernel) (pa_cons (pe_op (op_catAK (K := K)) (pe_fldK (K := K) (pv 0)) (pe_tupF (pa_cons (pe_tupF (pa_cons (pv 1) (pa_cons (pv 2) pa_nil))) pa_nil))) pa_nil)) pa_nil)) (pa_cons (pe_fldK (K := K) (pv 0)) pa_nil)))) pss_nil)))), ?_⟩
    cases h_marks
    refine nrm (σ' := [some v_self, some v_name, some (.int a.2.2)]) rfl ?_
    obtain ⟨t1, e_t1, hm⟩ := bs hm
    refine q_if (et_or (et_not (et_B (ev_callP (res := fun r => DD K (Dat.bool r)) (a := a.2.1) e_t1 (ea_d (ev_d (K := K) rfl h_name) ea_nil)))) fun _ => (et_B (ev_dinS (e := Dat.int) (xs := a.1.2.2.1) (ev_d (K := K) rfl h_name) (ev_fld (d := (eDS Dat.int) a.1.2.2.1) (i := 2) T.cl_Peal T.na_Peal_sizes (by decide +kernel) rfl (ev_d (K := K) rfl h_self))))) ok (fun hb G H s1 ok => ?_) (fun hb G H s1 ok => ?_)
    · have hm := cond_t hb hm
      have h_self := dp_up s1 _ h_self
      have h_name := dp_up s1 _ h_name
      have sg := sg.trans s1
      cases hm
    · have hm := cond_f hb hm
      have h_self := dp_up s1 _ h_self
      have h_name := dp_up s1 _ h_name
      have sg := sg.trans s1
      refine q_nilU ?_
      obtain ⟨t2, e_t2, hm⟩ := bs hm
      refine q_if (et_not (et_B (ev_callP (res := fun r => DD K (Dat.bool r)) (a := (a.2.2, (2 : Int), (24 : Int))) e_t2 (ea_d (ev_d (K := K) rfl (.int _)) (ea_d (ev_int (K := K)) (ea_d (ev_int (K := K)) ea_nil)))))) ok (fun hb G H s1 ok => ?_) (fun hb G H s1 ok => ?_)
      · have hm := cond_t hb hm
        have h_self := dp_up s1 _ h_self
        have h_name := dp_up s1 _ h_name
        have sg := sg.trans s1
        cases hm
      · have hm := cond_f hb hm
        have h_self := dp_up s1 _ h_self
        have h_name := dp_up s1 _ h_name
        have sg := sg.trans s1
        refine q_nilU ?_
        refine q_if (et_test (ev_eqI (ev_lenTM (e := (eP2 Dat.str Dat.int)) (ea_d (ev_fld (d := (eT (eP2 Dat.str Dat.int)) a.1.1) (i := 0) T.cl_Peal T.na_Peal_bells (by decide +kernel) rfl (ev_d (K := K) rfl h_self)) ea_nil)) (ev_int (K := K)))) ok (fun hb G H s1 ok => ?_) (fun hb G H s1 ok => ?_)
        · have hm := cond_t hb hm
          have h_self := dp_up s1 _ h_self
          have h_name := dp_up s1 _ h_name
          have sg := sg.trans s1
          cases hm
        · have hm := cond_f hb hm
          have h_self := dp_up s1 _ h_self
          have h_name := dp_up s1 _ h_name
          have sg := sg.trans s1
          refine q_nilU ?_
          obtain ⟨t3, e_t3, hm⟩ := bs hm
          obtain ⟨t4, e_t4, hm⟩ := bs hm
          refine q_ret (ev_make (a := ((srtF fSI t3), a.1.2.1)) e_t4 (ea_d (ev_tupL (ea_d (EvL.ev (el_sortedFT flatSI (ea_d (ev_catTO (e := (eP2 Dat.str Dat.int)) e_t3 (ev_fld (d := (eT (eP2 Dat.str Dat.int)) a.1.1) (i := 0) T.cl_Peal T.na_Peal_bells (by decide +kernel) rfl (ev_d (K := K) rfl h_self)) (ev_tup (ea_consD (ev_tup (ea_consD (ev_d (K := K) rfl h_name) (ea_consD (ev_d (K := K) rfl (.int _)) (ea_nilD (K := K))))) (ea_nilD (K := K))))) ea_nil))) ea_nil)) (ea_d (ev_fld (d := (eT (eP3 Dat.str Dat.str Dat.int)) a.1.2.1) (i := 1) T.cl_Peal T.na_Peal_notches (by decide +kernel) rfl (ev_d (K := K) rfl h_self)) ea_nil))) ok (fun v G H s1 ok hv => ?_)
          have sg := sg.trans s1
          cases hm
          exact q v G H sg (ok.less hB) hv
/-! ### Peal_without -/
theorem sc_Peal_without : FnScope ["self", "name", "rest", "notch", "bell"] ["self", "name"] (defScope s_Peal_without) := ⟨rfl, rfl, rfl, by decide +kernel, rfl, by decide +kernel, by decide +kernel⟩
def a_Peal_without (K : PySem.W.Frag) (a : ((List (Str × Int)) × (List (Str × Str × Int)) × (List (Str × Int)) × (List ((Str × Str) × Int))) × Str) : List V → Hp → Prop := conP (DD K (eX_Peal a.1)) (conP (DD K (Dat.str a.2)) (nilP))
def m_Peal_without (a : ((List (Str × Int)) × (List (Str × Str × Int)) × (List (Str × Int)) × (List ((Str × Str) × Int))) × Str) : Option ((List (Str × Int)) × (List (Str × Str × Int)) × (List (Str × Int)) × (List ((Str × Str) × Int))) :=
  (m_check_name (a.1, a.2)).bind fun t1 => cond (decide ((a.1.1.length : Int) = (1 : Int))) (none) ((lcF (fun x2 : (Str × Str × Int) => cond (!memB a.2 [(x2.1, x2.2.1).1, (x2.1, x2.2.1).2]) (some (some x2)) (some none)) a.1.2.1).bind fun t8 => (lcF (fun x9 : (Str × Int) => cond (!decide (x9.1 = a.2)) (some (some x9)) (some none)) a.1.1).bind fun t15 => (m_Peal___init__ (t15, t8)).bind fun t16 => some t16)
abbrev sp_Peal_without [Tb] (K : PySem.W.Frag) : Sp := spP (a_Peal_without K) (m_Peal_without) fun r => DD K (eX_Peal r)
theorem ok_Peal_without [Tb] {P : Program} {w : World} {K : PySem.W.Frag} {mg : Str → Option Value} {base : Heap} (T : Txt K mg) (O_check_name : FnOk P w K mg base CX0 2 T.a_check_name T.d_check_name ["peal", "name"] (sp_check_name K)) (O_Peal___init__ : FnOk P w K mg base CX0 5 T.a_Peal___init__ T.d_Peal___init__ ["self", "bells", "notches"] (sp_Peal___init__ K)) : FnOk P w K mg base CX0 (7) T.a_Peal_without T.d_Peal_without ["self", "name"] (sp_Peal_without K) := by
  refine T.F_Peal_without.ok sc_Peal_without (fun vs H Q E h => ?_) (fun cdv A outer s0 H vs Q E hr h => ?_)
  · obtain ⟨G, M0, a, r, ok, ⟨v_self, _, rfl, h_self, v_name, _, rfl, h_name, rfl⟩, hm, q⟩ := h
    rfl
  · obtain ⟨G, M0, a, r, ok, ⟨v_self, _, rfl, h_self, v_name, _, rfl, h_name, rfl⟩, hm, q⟩ := h
    unfold m_Peal_without at hm
    have sg := Same.refl G
    have hB := Same.refl M0
    refine ⟨_, (pss_cons (ps_expr (pe_call O_check_name (hr.mono (by decide)) (by rfl) T.g_check_name T.F_check_name.kp T.b_check_name .nil pass0 (pa_cons (pv 0) (pa_cons (pv 1) pa_nil)))) (pss_cons (ps_if (pt_cmpR op_eq (pe_callB (cl_lenK (K := K)) (by rfl) T.n_len (by decide +kernel) (pa_cons (pe_fldK (K := K) (pv 0)) pa_nil)) pe_int (nomark _)) (pss_cons ps_never pss_nil) pss_nil) (pss_cons (ps_setLc (i := 2) (own := [("notch", 3)]) (g := (gName 3)) rfl sc_Peal_without.nd rfl rfl (sw_true rfl rfl rfl (by decide +kernel)) (pi_tupK (K := K) (pe_fldK (K := K) (pv 0))) (blkOk_by (own := [("notch", 3)]) (N := ["self", "name", "rest", "notch", "bell"]) (sc := defScope s_Peal_without) (by decide +kernel)) (fun _ _ _ _ _ => (pg_name (i := 3) sc_Peal_without.nd rfl (by first | exact .inl rfl | exact .inr rfl))) (fun _ _ _ _ _ => (pts_one (pt_cmpR (op_notInSK (K := K)) (pv 1) (pe_slice (sl_tupK (K := K)) (pv 3) po_none (po_some pe_int)) (by rfl)))) (fun _ _ _ _ _ => (pv 3))) (pss_cons (ps_ret (pe_make T.mk_Peal O_Peal___init__ (hr.mono (by decide)) (by rfl) T.mg_Peal T.b_Peal___init__ .nil pass0 (pa_cons (pe_callTy (cl_tupleK (K := K)) (by rfl) T.n_tuple (by decide +kernel) (pa_cons (pe_lc (own := [("bell", 4)]) (g := (gName 4)) rfl sc_Peal_without.nd (pi_tupK (K := K) (pe_fldK (K := K) (pv 0))) (blkOk_by (own := [("bell", 4)]) (N := ["self", "name", "rest", "notch", "bell"]) (sc := defScope s_Peal_without) (by decide +kernel)) (fun _ _ _ _ _ => (pg_name (i := 4) sc_Peal_without.nd rfl (by first | exact .inl rfl | exact .inr rfl))) (fun _ _ _ _ _ => (pts_one (pt_cmpR op_ne (pe_ix (ix_tupK (K := K)) (pv 4) pe_int (fun _ _ => rfl)) (pv 1) (nomark _)))) (fun _ _ _ _ _ => (pv 4))) pa_nil)) (pa_cons (pe_callTy (cl_tupleK (K := K)) (by rfl) T.n_tuple (by decide +kernel) (pa_cons (pv 2) pa_nil)) pa_nil)))) pss_nil)))), ?_⟩
    refine nrm (σ' := [some v_self, some v_name, none, none, none]) rfl ?_
    obtain ⟨t1, e_t1, hm⟩ := bs hm
    refine q_expr (ev_callP (res := fun r => DD K (eN r)) (a := (a.1, a.2)) e_t1 (ea_d (ev_d (K := K) rfl h_self) (ea_d (ev_d (K := K) rfl h_name) ea_nil))) ok (fun G H s1 ok => ?_)
    have h_self := dp_up s1 _ h_self
    have h_name := dp_up s1 _ h_name
    have sg := sg.trans s1
    refine q_if (et_test (ev_eqI (ev_lenTM (e := (eP2 Dat.str Dat.int)) (ea_d (ev_fld (d := (eT (eP2 Dat.str Dat.int)) a.1.1) (i := 0) T.cl_Peal T.na_Peal_bells (by decide +kernel) rfl (ev_d (K := K) rfl h_self)) ea_nil)) (ev_int (K := K)))) ok (fun hb G H s1 ok => ?_) (fun hb G H s1 ok => ?_)
    · have hm := cond_t hb hm
      have h_self := dp_up s1 _ h_self
      have h_name := dp_up s1 _ h_name
      have sg := sg.trans s1
      cases hm
    · have hm := cond_f hb hm
      have h_self := dp_up s1 _ h_self
      have h_name := dp_up s1 _ h_name
      have sg := sg.trans s1
      refine q_nilU ?_
      obtain ⟨t8, e_t8, hm⟩ := bs hm
      refine q_set (σ' := fun v => [some v_self, some v_name, some v, none, none]) (EvL.ev (el_lcMF (ea := (eP3 Dat.str Dat.str Dat.int)) (eb := (eP3 Dat.str Dat.str Dat.int)) (xs := a.1.2.1) (ys := t8) (hf := e_t8) (src_tup (ev_fld (d := (eT (eP3 Dat.str Dat.str Dat.int)) a.1.2.1) (i := 1) T.cl_Peal T.na_Peal_notches (by decide +kernel) rfl (ev_d (K := K) rfl h_self))) (fun x2 _ Mx6 _ _ he7 sM5 sG4 hv3 => by exact (tg_name ⟨rfl, lcb_if (et_test (ev_notInS (k := true) (xs := [(x2.1, x2.2.1).1, (x2.1, x2.2.1).2]) (ev_d (K := K) rfl (dp_up sG4 _ h_name)) (ev_is (d' := eT Dat.str [(x2.1, x2.2.1).1, (x2.1, x2.2.1).2]) (ev_is (ev_slT (ev_d (K := K) rfl hv3) eo_none (eo_some (ev_int (K := K)))) rfl) rfl))) (fun eb => by have e1 := cond_t eb he7; cases e1; exact ⟨_, rfl, (ev_d (K := K) rfl hv3)⟩) (fun eb => by have e1 := cond_f eb he7; cases e1; exact ⟨rfl, rfl⟩)⟩)))) ok (fun _ => rfl) (fun v_rest G H s1 ok h_rest => ?_)
      have h_self := dp_up s1 _ h_self
      have h_name := dp_up s1 _ h_name
      have sg := sg.trans s1
      obtain ⟨t15, e_t15, hm⟩ := bs hm
      obtain ⟨t16, e_t16, hm⟩ := bs hm
      refine q_ret (ev_make (a := (t15, t8)) e_t16 (ea_d (ev_tupL (ea_d (EvL.ev (el_lcMF (ea := (eP2 Dat.str Dat.int)) (eb := (eP2 Dat.str Dat.int)) (xs := a.1.1) (ys := t15) (hf := e_t15) (src_tup (ev_fld (d := (eT (eP2 Dat.str Dat.int)) a.1.1) (i := 0) T.cl_Peal T.na_Peal_bells (by decide +kernel) rfl (ev_d (K := K) rfl h_self))) (fun x9 _ Mx13 _ _ he14 sM12 sG11 hv10 => by exact (tg_name ⟨rfl, lcb_if (et_test (ev_neS (ev_ixT (d := Dat.str x9.1) rfl (ev_d (K := K) rfl hv10) ev_int) (ev_d (K := K) rfl (dp_up sG11 _ h_name)))) (fun eb => by have e1 := cond_t eb he14; cases e1; exact ⟨_, rfl, (ev_d (K := K) rfl hv10)⟩) (fun eb => by have e1 := cond_f eb he14; cases e1; exact ⟨rfl, rfl⟩)⟩)))) ea_nil)) (ea_d (ev_tupL (ea_d (ev_d (K := K) rfl h_rest) ea_nil)) ea_nil))) ok (fun v G H s1 ok hv => ?_)
      have sg := sg.trans s1
      cases hm
      exact q v G H sg (ok.less hB) hv
/-! ### Peal___eq__ -/
theorem sc_Peal___eq__ : FnScope ["self", "other"] ["self", "other"] (defScope s_Peal___eq__) := ⟨rfl, rfl, rfl, by decide +kernel, rfl, by decide +kernel, by decide +kernel⟩
def a_Peal___eq__ (K : PySem.W.Frag) (a : ((List (Str × Int)) × (List (Str × Str × Int)) × (List (Str × Int)) × (List ((Str × Str) × Int))) × ((List (Str × Int)) × (List (Str × Str × Int)) × (List (Str × Int)) × (List ((Str × Str) × Int)))) : List V → Hp → Prop := conP (DD K (eX_Peal a.1)) (conP (DD K (eX_Peal a.2)) (nilP))
def m_Peal___eq__ (a : ((List (Str × Int)) × (List (Str × Str × Int)) × (List (Str × Int)) × (List ((Str × Str) × Int))) × ((List (Str × Int)) × (List (Str × Str × Int)) × (List (Str × Int)) × (List ((Str × Str) × Int)))) : Option Bool :=
  some (true && (decide ((a.1.1, a.1.2.1) = (a.2.1, a.2.2.1))))
abbrev sp_Peal___eq__ [Tb] (K : PySem.W.Frag) : Sp := spP (a_Peal___eq__ K) (m_Peal___eq__) fun r => DD K (Dat.bool r)
theorem ok_Peal___eq__ [Tb] {P : Program} {w : World} {K : PySem.W.Frag} {mg : Str → Option Value} {base : Heap} (T : Txt K mg) : FnOk P w K mg base CX0 (1) T.a_Peal___eq__ T.d_Peal___eq__ ["self", "other"] (sp_Peal___eq__ K) := by
  refine T.F_Peal___eq__.ok sc_Peal___eq__ (fun vs H Q E h => ?_) (fun cdv A outer s0 H vs Q E hr h => ?_)
  · obtain ⟨G, M0, a, r, ok, ⟨v_self, _, rfl, h_self, v_other, _, rfl, h_other, rfl⟩, hm, q⟩ := h
    rfl
  · obtain ⟨G, M0, a, r, ok, ⟨v_self, _, rfl, h_self, v_other, _, rfl, h_other, rfl⟩, hm, q⟩ := h
    unfold m_Peal___eq__ at hm
    have sg := Same.refl G
    have hB := Same.refl M0
    refine ⟨_, (pss_cons (ps_ret (pe_and (pe_callB (call_isiKK (K := K)) (by rfl) T.n_isinstance (by decide +kernel) (pa_cons (pv 1) (pa_cons (pe_glob (v := .ref (clsAt K "Peal")) (by rfl) T.mg_Peal rfl) pa_nil))) (pe_one (pe_cmpR (op_eqDK (K := K) hr.units) (pe_tupF (pa_cons (pe_fldK (K := K) (pv 0)) (pa_cons (pe_fldK (K := K) (pv 0)) pa_nil))) (pe_tupF (pa_cons (pe_fldK (K := K) (pv 1)) (pa_cons (pe_fldK (K := K) (pv 1)) pa_nil))) (nomark _))))) pss_nil), ?_⟩
    refine nrm (σ' := [some v_self, some v_other]) rfl ?_
    refine q_ret (ev_and (ev_isiX (b := true) T.co_Peal T.ki_Peal (ea_d (ev_d (K := K) rfl h_other) (ea_cons mo_clx ev_clx ea_nil))) fun _ => (ev_eqE (e := (eP2 (eT (eP2 Dat.str Dat.int)) (eT (eP3 Dat.str Dat.str Dat.int)))) (x := (a.1.1, a.1.2.1)) (y := (a.2.1, a.2.2.1)) (eqe_P2 (eqe_T (eqe_P2 eqe_str eqe_int)) (eqe_T (eqe_P3 eqe_str eqe_str eqe_int))) (by decide) (ev_tup (ea_consD (ev_fld (d := (eT (eP2 Dat.str Dat.int)) a.1.1) (i := 0) T.cl_Peal T.na_Peal_bells (by decide +kernel) rfl (ev_d (K := K) rfl h_self)) (ea_consD (ev_fld (d := (eT (eP3 Dat.str Dat.str Dat.int)) a.1.2.1) (i := 1) T.cl_Peal T.na_Peal_notches (by decide +kernel) rfl (ev_d (K := K) rfl h_self)) (ea_nilD (K := K))))) (ev_tup (ea_consD (ev_fld (d := (eT (eP2 Dat.str Dat.int)) a.2.1) (i := 0) T.cl_Peal T.na_Peal_bells (by decide +kernel) rfl (ev_d (K := K) rfl h_other)) (ea_consD (ev_fld (d := (eT (eP3 Dat.str Dat.str Dat.int)) a.2.2.1) (i := 1) T.cl_Peal T.na_Peal_notches (by decide +kernel) rfl (ev_d (K := K) rfl h_other)) (ea_nilD (K := K))))))) ok (fun v G H s1 ok hv => ?_)
    have sg := sg.trans s1
    cases hm
    exact q v G H sg (ok.less hB) hv
/-! ### Peal___eq___2 -/
def a_Peal___eq___2 (K : PySem.W.Frag) (a : ((List (Str × Int)) × (List (Str × Str × Int)) × (List (Str × Int)) × (List ((Str × Str) × Int))) × Dat) : List V → Hp → Prop := conP (DD K (eX_Peal a.1)) (conP (DD K (id a.2)) (nilP))
def m_Peal___eq___2 (a : ((List (Str × Int)) × (List (Str × Str × Int)) × (List (Str × Int)) × (List ((Str × Str) × Int))) × Dat) : Option Bool :=
  (isP "Peal" a.2).bind fun t1 => (cond t1 ((pealD a.2).bind fun t2 => (pealD a.2).bind fun t3 => some (decide ((a.1.1, a.1.2.1) = (t2.1, t3.2.1)))) (some false)).bind fun t4 => some t4
abbrev sp_Peal___eq___2 [Tb] (K : PySem.W.Frag) : Sp := spP (a_Peal___eq___2 K) (m_Peal___eq___2) fun r => DD K (Dat.bool r)
theorem ok_Peal___eq___2 [Tb] {P : Program} {w : World} {K : PySem.W.Frag} {mg : Str → Option Value} {base : Heap} (T : Txt K mg) : FnOk P w K mg base CX0 (1) T.a_Peal___eq__ T.d_Peal___eq__ ["self", "other"] (sp_Peal___eq___2 K) := by
  refine T.F_Peal___eq__.ok sc_Peal___eq__ (fun vs H Q E h => ?_) (fun cdv A outer s0 H vs Q E hr h => ?_)
  · obtain ⟨G, M0, a, r, ok, ⟨v_self, _, rfl, h_self, v_other, _, rfl, h_other, rfl⟩, hm, q⟩ := h
    rfl
  · obtain ⟨G, M0, a, r, ok, ⟨v_self, _, rfl, h_self, v_other, _, rfl, h_other, rfl⟩, hm, q⟩ := h
    unfold m_Peal___eq___2 at hm
    have sg := Same.refl G
    have hB := Same.refl M0
    refine ⟨_, (pss_cons (ps_ret (pe_and (pe_callB (call_isiKK (K := K)) (by rfl) T.n_isinstance (by decide +kernel) (pa_cons (pv 1) (pa_cons (pe_glob (v := .ref (clsAt K "Peal")) (by rfl) T.mg_Peal rfl) pa_nil))) (pe_one (pe_cmpR (op_eqDK (K := K) hr.units) (pe_tupF (pa_cons (pe_fldK (K := K) (pv 0)) (pa_cons (pe_fldK (K := K) (pv 0)) pa_nil))) (pe_tupF (pa_cons (pe_fldK (K := K) (pv 1)) (pa_cons (pe_fldK (K := K) (pv 1)) pa_nil))) (nomark _))))) pss_nil), ?_⟩
    refine nrm (σ' := [some v_self, some v_other]) rfl ?_
    obtain ⟨t1, e_t1, hm⟩ := bs hm
    obtain ⟨t4, e_t4, hm⟩ := bs hm
    refine q_ret (ev_andG (c := t4) (ev_isiP T.co_Peal T.ci_Peal T.ki_Peal e_t1 (ea_d (ev_d (K := K) rfl h_other) (ea_cons mo_clx ev_clx ea_nil))) (fun eb => by have e1 := cond_t eb e_t4; (obtain ⟨t2, e_t2, e1⟩ := bs e1); (obtain ⟨t3, e_t3, e1⟩ := bs e1); (have e1 := Option.some.inj e1); subst e1; exact (ev_eqE (e := (eP2 (eT (eP2 Dat.str Dat.int)) (eT (eP3 Dat.str Dat.str Dat.int)))) (x := (a.1.1, a.1.2.1)) (y := (t2.1, t3.2.1)) (eqe_P2 (eqe_T (eqe_P2 eqe_str eqe_int)) (eqe_T (eqe_P3 eqe_str eqe_str eqe_int))) (by decide) (ev_tup (ea_consD (ev_fld (d := (eT (eP2 Dat.str Dat.int)) a.1.1) (i := 0) T.cl_Peal T.na_Peal_bells (by decide +kernel) rfl (ev_d (K := K) rfl h_self)) (ea_consD (ev_fld (d := (eT (eP3 Dat.str Dat.str Dat.int)) a.1.2.1) (i := 1) T.cl_Peal T.na_Peal_notches (by decide +kernel) rfl (ev_d (K := K) rfl h_self)) (ea_nilD (K := K))))) (ev_tup (ea_consD (ev_fld (d := (eT (eP2 Dat.str Dat.int)) t2.1) (i := 0) T.cl_Peal T.na_Peal_bells (by decide +kernel) rfl (ev_pealD e_t2 (ev_d (K := K) rfl h_other))) (ea_consD (ev_fld (d := (eT (eP3 Dat.str Dat.str Dat.int)) t3.2.1) (i := 1) T.cl_Peal T.na_Peal_notches (by decide +kernel) rfl (ev_pealD e_t3 (ev_d (K := K) rfl h_other))) (ea_nilD (K := K))))))) (fun eb => by have e1 := cond_f eb e_t4; cases e1; exact ⟨rfl, rfl⟩)) ok (fun v G H s1 ok hv => ?_)
    have sg := sg.trans s1
    cases hm
    exact q v G H sg (ok.less hB) hv
/-! ### Peal___len__ -/
theorem sc_Peal___len__ : FnScope ["self"] ["self"] (defScope s_Peal___len__) := ⟨rfl, rfl, rfl, by decide +kernel, rfl, by decide +kernel, by decide +kernel⟩
def a_Peal___len__ (K : PySem.W.Frag) (a : ((List (Str × Int)) × (List (Str × Str × Int)) × (List (Str × Int)) × (List ((Str × Str) × Int)))) : List V → Hp → Prop := conP (DD K (eX_Peal a)) (nilP)
def m_Peal___len__ (a : ((List (Str × Int)) × (List (Str × Str × Int)) × (List (Str × Int)) × (List ((Str × Str) × Int)))) : Option Int :=
  some (a.1.length : Int)
abbrev sp_Peal___len__ [Tb] (K : PySem.W.Frag) : Sp := spP (a_Peal___len__ K) (m_Peal___len__) fun r => DD K (Dat.int r)
theorem ok_Peal___len__ [Tb] {P : Program} {w : World} {K : PySem.W.Frag} {mg : Str → Option Value} {base : Heap} (T : Txt K mg) : FnOk P w K mg base CX0 (1) T.a_Peal___len__ T.d_Peal___len__ ["self"] (sp_Peal___len__ K) := by
  refine T.F_Peal___len__.ok sc_Peal___len__ (fun vs H Q E h => ?_) (fun cdv A outer s0 H vs Q E hr h => ?_)
  · obtain ⟨G, M0, a, r, ok, ⟨v_self, _, rfl, h_self, rfl⟩, hm, q⟩ := h
    rfl
  · obtain ⟨G, M0, a, r, ok, ⟨v_self, _, rfl, h_self, rfl⟩, hm, q⟩ := h
    unfold m_Peal___len__ at hm
    have sg := Same.refl G
    have hB := Same.refl M0
    refine ⟨_, (pss_cons (ps_ret (pe_callB (cl_lenK (K := K)) (by rfl) T.n_len (by decide +kernel) (pa_cons (pe_fldK (K := K) (pv 0)) pa_nil))) pss_nil), ?_⟩
    refine nrm (σ' := [some v_self]) rfl ?_
    refine q_ret (ev_lenTM (e := (eP2 Dat.str Dat.int)) (ea_d (ev_fld (d := (eT (eP2 Dat.str Dat.int)) a.1) (i := 0) T.cl_Peal T.na_Peal_bells (by decide +kernel) rfl (ev_d (K := K) rfl h_self)) ea_nil)) ok (fun v G H s1 ok hv => ?_)
    have sg := sg.trans s1
    cases hm
    exact q v G H sg (ok.less hB) hv
/-! ### Peal___str__ -/
theorem sc_Peal___str__ : FnScope ["self", "rows", "name", "marks", "other", "number"] ["self"] (defScope s_Peal___str__) := ⟨rfl, rfl, rfl, by decide +kernel, rfl, by decide +kernel, by decide +kernel⟩
def a_Peal___str__ (K : PySem.W.Frag) (a : ((List (Str × Int)) × (List (Str × Str × Int)) × (List (Str × Int)) × (List ((Str × Str) × Int)))) : List V → Hp → Prop := conP (DD K (eX_Peal a)) (nilP)
def m_Peal___str__ (a : ((List (Str × Int)) × (List (Str × Str × Int)) × (List (Str × Int)) × (List ((Str × Str) × Int)))) : Option Str :=
  (lcO (fun x1 : (Str × Int) => (fitO x1.1).bind fun t9 => (strIO x1.2).bind fun t10 => (fmtO [(Str.ofString "bell "), t9, (Str.ofString " "), t10]).bind fun t11 => some t11) a.1).bind fun t12 => (lcO (fun x13 : (Str × Str × Int) => (fitO x13.1).bind fun t22 => (fitO x13.2.1).bind fun t23 => (strIO x13.2.2).bind fun t24 => (fmtO [t22, (Str.ofString " turns "), t23, (Str.ofString " "), t24]).bind fun t25 => some t25) a.2.1).bind fun t26 => (catO t12 t26).bind fun t27 => (joinO (Str.ofString "
") t27).bind fun t28 => some t28
abbrev sp_Peal___str__ [Tb] (K : PySem.W.Frag) : Sp := spP (a_Peal___str__ K) (m_Peal___str__) fun r => DD K (Dat.str r)
theorem ok_Peal___str__ [Tb] {P : Program} {w : World} {K : PySem.W.Frag} {mg : Str → Option Value} {base : Heap} (T : Txt K mg) : FnOk P w K mg base CX0 (1) T.a_Peal___str__ T.d_Peal___str__ ["self"] (sp_Peal___str__ K) := by
  refine T.F_Peal___str__.ok sc_Peal___str__ (fun vs H Q E h => ?_) (fun cdv A outer s0 H vs Q E hr h => ?_)
  · obtain ⟨G, M0, a, r, ok, ⟨v_self, _, rfl, h_self, rfl⟩, hm, q⟩ := h
    rfl
  · obtain ⟨G, M0, a, r, ok, ⟨v_self, _, rfl, h_self, rfl⟩, hm, q⟩ := h
    unfold m_Peal___str__ at hm
    have sg := Same.refl G
    have hB := Same.refl M0
    refine ⟨_, (pss_cons (ps_setLc (i := 1) (own := [("name", 2), ("marks", 3)]) (g := (gTup K 2 (gCons (gName 2) (gCons (gName 3) gNil)))) (tt := tYes) rfl sc_Peal___str__.nd rfl rfl (sw_true rfl rfl rfl (by decide +kernel)) (pi_tupK (K := K) (pe_fldK (K := K) (pv 0))) (blkOk_by (own := [("name", 2), ("marks", 3)]) (N := ["self", "rows", "name", "marks", "other", "number"]) (sc := defScope s_Peal___str__) (by decide +kernel)) (fun _ _ _ _ _ => (pg_tup rfl (pgs_cons (pg_name (i := 2) sc_Peal___str__.nd rfl (by first | exact .inl rfl | exact .inr rfl)) (pgs_cons (pg_name (i := 3) sc_Peal___str__.nd rfl (by first | exact .inl rfl | exact .inr rfl)) pgs_nil)))) (fun _ _ _ _ _ => pts_nil) (fun _ _ _ _ _ => (pe_joined (PJ.cons pe_str (PJ.cons (pe_fmt (pv 2)) (PJ.cons pe_str (PJ.cons (pe_fmt (pv 3)) PJ.nil))))))) (pss_cons (ps_aug (i := 1) sc_Peal___str__.nd rfl (.inl rfl) (pe_lc (own := [("name", 2), ("other", 4), ("number", 5)]) (g := (gTup K 3 (gCons (gName 2) (gCons (gName 4) (gCons (gName 5) gNil))))) (tt := tYes) rfl sc_Peal___str__.nd (pi_tupK (K := K) (pe_fldK (K := K) (pv 0))) (blkOk_by (own := [("name", 2), ("other", 4), ("number", 5)]) (N := ["self", "rows", "name", "marks", "other", "number"]) (sc := defScope s_Peal___str__) (by decide +kernel)) (fun _ _ _ _ _ => (pg_tup rfl (pgs_cons (pg_name (i := 2) sc_Peal___str__.nd rfl (by first | exact .inl rfl | exact .inr rfl)) (pgs_cons (pg_name (i := 4) sc_Peal___str__.nd rfl (by first | exact .inl rfl | exact .inr rfl)) (pgs_cons (pg_name (i := 5) sc_Peal___str__.nd rfl (by first | exact .inl rfl | exact .inr rfl)) pgs_nil))))) (fun _ _ _ _ _ => pts_nil) (fun _ _ _ _ _ => (pe_joined (PJ.cons (pe_fmt (pv 2)) (PJ.cons pe_str (PJ.cons (pe_fmt (pv 4)) (PJ.cons pe_str (PJ.cons (pe_fmt (pv 5)) PJ.nil)))))))) ip_ext) (pss_cons (ps_ret (pe_m1 PySem.F.slot_str_join PySem.F.type_str_join (mt_joinK (K := K) rfl) pe_str (pv 1))) pss_nil))), ?_⟩
    refine nrm (σ' := [some v_self, none, none, none, none, none]) rfl ?_
    obtain ⟨t12, e_t12, hm⟩ := bs hm
    refine q_setL (σ' := fun v => [some v_self, some v, none, none, none, none]) (el_lcM (ea := (eP2 Dat.str Dat.int)) (eb := Dat.str) (xs := a.1) (ys := t12) (hf := e_t12) (src_tup (ev_fld (d := (eT (eP2 Dat.str Dat.int)) a.1) (i := 0) T.cl_Peal T.na_Peal_bells (by decide +kernel) rfl (ev_d (K := K) rfl h_self))) (fun x1 _ Mx5 _ _ he6 sM4 sG3 hv2 => by (obtain ⟨t9, e_t9, he6⟩ := bs he6); (obtain ⟨t10, e_t10, he6⟩ := bs he6); (obtain ⟨t11, e_t11, he6⟩ := bs he6); (have he6 := Option.some.inj he6); subst he6; exact (tg_t2 hv2 fun _ _ h7 h8 => (tg_name (tg_name ⟨rfl, (ev_joined e_t11 (ej_cons (ev_str (K := K) (by decide +kernel)) (ej_cons (ev_fmtSO e_t9 (ev_d (K := K) rfl h7)) (ej_cons (ev_str (K := K) (by decide +kernel)) (ej_cons (ev_fmtI e_t10 (ev_d (K := K) rfl h8)) (ej_nil (K := K)))))))⟩))))) ok (fun _ => rfl) (fun p_rows vs_rows G H s1 ok hn hd_rows => ?_)
    have h_self := dp_up s1 _ h_self
    have sg := sg.trans s1
    have h0_rows : M0 p_rows = none := sB_none (M := M0) hB hn
    have hd_rows : DqAll K G vs_rows (t12.map Dat.str) := hd_rows
    have ok : Ok _ (upd M0 p_rows (.lst vs_rows)) _ := ok
    have hB : Same M0 (upd M0 p_rows (.lst vs_rows)) := (sB_own hB h0_rows)
    have hp_rows : (upd M0 p_rows (.lst vs_rows)) p_rows = some (.lst vs_rows) := upd_same
    obtain ⟨M, eM⟩ : ∃ m, m = (upd M0 p_rows (.lst vs_rows)) := ⟨_, rfl⟩
    rw [← eM] at ok hB hp_rows
    clear eM
    obtain ⟨t26, e_t26, hm⟩ := bs hm
    obtain ⟨t27, e_t27, hm⟩ := bs hm
    obtain ⟨hl_t27, ea_t27⟩ := catO_of e_t27
    refine q_augExt (ds := t26.map Dat.str) rfl (EvL.ev (el_lcM (ea := (eP3 Dat.str Dat.str Dat.int)) (eb := Dat.str) (xs := a.2.1) (ys := t26) (hf := e_t26) (src_tup (ev_fld (d := (eT (eP3 Dat.str Dat.str Dat.int)) a.2.1) (i := 1) T.cl_Peal T.na_Peal_notches (by decide +kernel) rfl (ev_d (K := K) rfl h_self))) (fun x13 _ Mx17 _ _ he18 sM16 sG15 hv14 => by (obtain ⟨t22, e_t22, he18⟩ := bs he18); (obtain ⟨t23, e_t23, he18⟩ := bs he18); (obtain ⟨t24, e_t24, he18⟩ := bs he18); (obtain ⟨t25, e_t25, he18⟩ := bs he18); (have he18 := Option.some.inj he18); subst he18; exact (tg_t3 hv14 fun _ _ _ h19 h20 h21 => (tg_name (tg_name (tg_name ⟨rfl, (ev_joined e_t25 (ej_cons (ev_fmtSO e_t22 (ev_d (K := K) rfl h19)) (ej_cons (ev_str (K := K) (by decide +kernel)) (ej_cons (ev_fmtSO e_t23 (ev_d (K := K) rfl h20)) (ej_cons (ev_str (K := K) (by decide +kernel)) (ej_cons (ev_fmtI e_t24 (ev_d (K := K) rfl h21)) (ej_nil (K := K))))))))⟩))))))) hp_rows (by rw [dpAll_len hd_rows, List.length_map, List.length_map]; exact szl hl_t27) rfl ok (fun ws G H s1 ok hv => ?_)
    have h_self := dp_up s1 _ h_self
    have hd_rows := dpAll_up s1 _ hd_rows
    have sg := sg.trans s1
    have hd_rows : DqAll K G (vs_rows ++ ws) (t27.map Dat.str) := by rw [ea_t27, List.map_append]; exact dpAll_app hd_rows hv
    have ok : Ok _ (upd M p_rows (.lst (vs_rows ++ ws))) _ := ok
    have hB : Same M0 (upd M p_rows (.lst (vs_rows ++ ws))) := (sB_own hB h0_rows)
    have hp_rows : (upd M p_rows (.lst (vs_rows ++ ws))) p_rows = some (.lst (vs_rows ++ ws)) := upd_same
    obtain ⟨M, eM⟩ : ∃ m, m = (upd M p_rows (.lst (vs_rows ++ ws))) := ⟨_, rfl⟩
    rw [← eM] at ok hB hp_rows
    clear eM
    obtain ⟨vs_rows, e_vs⟩ : ∃ m, m = (vs_rows ++ ws) := ⟨_, rfl⟩
    rw [← e_vs] at hp_rows hd_rows
    clear e_vs
    refine k_frz ok hp_rows h0_rows hB (fun G s1 hg ok => ?_)
    have h_self := dp_up s1 _ h_self
    have hd_rows := dpAll_up s1 _ hd_rows
    have sg := sg.trans s1
    have h_rows : Dq K G (.ref p_rows) ((eL Dat.str) t27) := .lst hg hd_rows
    have hB : Same M0 M0 := Same.refl _
    obtain ⟨t28, e_t28, hm⟩ := bs hm
    refine q_ret (ev_joinL e_t28 (ev_str (K := K) (by decide +kernel)) (ev_d (K := K) rfl h_rows)) ok (fun v G H s1 ok hv => ?_)
    have sg := sg.trans s1
    cases hm
    exact q v G H sg (ok.less hB) hv
/-! ### Peal___repr__ -/
theorem sc_Peal___repr__ : FnScope ["self"] ["self"] (defScope s_Peal___repr__) := ⟨rfl, rfl, rfl, by decide +kernel, rfl, by decide +kernel, by decide +kernel⟩
def a_Peal___repr__ (K : PySem.W.Frag) (a : ((List (Str × Int)) × (List (Str × Str × Int)) × (List (Str × Int)) × (List ((Str × Str) × Int)))) : List V → Hp → Prop := conP (DD K (eX_Peal a)) (nilP)
def m_Peal___repr__ (a : ((List (Str × Int)) × (List (Str × Str × Int)) × (List (Str × Int)) × (List ((Str × Str) × Int)))) : Option Str :=
  (strIO (a.1.length : Int)).bind fun t1 => (strIO (a.2.1.length : Int)).bind fun t2 => (fmtO [(Str.ofString "Peal("), t1, (Str.ofString " bells, "), t2, (Str.ofString " notches)")]).bind fun t3 => some t3
abbrev sp_Peal___repr__ [Tb] (K : PySem.W.Frag) : Sp := spP (a_Peal___repr__ K) (m_Peal___repr__) fun r => DD K (Dat.str r)
theorem ok_Peal___repr__ [Tb] {P : Program} {w : World} {K : PySem.W.Frag} {mg : Str → Option Value} {base : Heap} (T : Txt K mg) : FnOk P w K mg base CX0 (1) T.a_Peal___repr__ T.d_Peal___repr__ ["self"] (sp_Peal___repr__ K) := by
  refine T.F_Peal___repr__.ok sc_Peal___repr__ (fun vs H Q E h => ?_) (fun cdv A outer s0 H vs Q E hr h => ?_)
  · obtain ⟨G, M0, a, r, ok, ⟨v_self, _, rfl, h_self, rfl⟩, hm, q⟩ := h
    rfl
  · obtain ⟨G, M0, a, r, ok, ⟨v_self, _, rfl, h_self, rfl⟩, hm, q⟩ := h
    unfold m_Peal___repr__ at hm
    have sg := Same.refl G
    have hB := Same.refl M0
    refine ⟨_, (pss_cons (ps_ret (pe_joined (PJ.cons pe_str (PJ.cons (pe_fmt (pe_callB (cl_lenK (K := K)) (by rfl) T.n_len (by decide +kernel) (pa_cons (pe_fldK (K := K) (pv 0)) pa_nil))) (PJ.cons pe_str (PJ.cons (pe_fmt (pe_callB (cl_lenK (K := K)) (by rfl) T.n_len (by decide +kernel) (pa_cons (pe_fldK (K := K) (pv 0)) pa_nil))) (PJ.cons pe_str PJ.nil))))))) pss_nil), ?_⟩
    refine nrm (σ' := [some v_self]) rfl ?_
    obtain ⟨t1, e_t1, hm⟩ := bs hm
    obtain ⟨t2, e_t2, hm⟩ := bs hm
    obtain ⟨t3, e_t3, hm⟩ := bs hm
    refine q_ret (ev_joined e_t3 (ej_cons (ev_str (K := K) (by decide +kernel)) (ej_cons (ev_fmtI e_t1 (ev_lenTM (e := (eP2 Dat.str Dat.int)) (ea_d (ev_fld (d := (eT (eP2 Dat.str Dat.int)) a.1) (i := 0) T.cl_Peal T.na_Peal_bells (by decide +kernel) rfl (ev_d (K := K) rfl h_self)) ea_nil))) (ej_cons (ev_str (K := K) (by decide +kernel)) (ej_cons (ev_fmtI e_t2 (ev_lenTM (e := (eP3 Dat.str Dat.str Dat.int)) (ea_d (ev_fld (d := (eT (eP3 Dat.str Dat.str Dat.int)) a.2.1) (i := 1) T.cl_Peal T.na_Peal_notches (by decide +kernel) rfl (ev_d (K := K) rfl h_self)) ea_nil))) (ej_cons (ev_str (K := K) (by decide +kernel)) (ej_nil (K := K)))))))) ok (fun v G H s1 ok hv => ?_)
    have sg := sg.trans s1
    cases hm
    exact q v G H sg (ok.less hB) hv
/-! ### _law_opened -/
theorem sc__law_opened : FnScope ["_law_script", "_law_k", "_law_cell", "_law_great"] ["_law_script", "_law_k"] (defScope s__law_opened) := ⟨rfl, rfl, rfl, by decide +kernel, rfl, by decide +kernel, by decide +kernel⟩
def a__law_opened (K : PySem.W.Frag) (a : (List Int) × Int) : List V → Hp → Prop := conP (SCP K a.1) (conP (DD K (Dat.int a.2)) (nilP))
def m__law_opened (a : (List Int) × Int) : Option Sto :=
  (mulO (90901 : Int) a.2).bind fun t1 => (cond (decide (a.2 < (a.1.length : Int))) ((atI a.1 a.2).bind fun t4 => some t4) (some (t1 + (433 : Int)))).bind fun j2 => (cond (decide (j2 < (0 : Int))) (some true) ((powO (10 : Int) (17 : Int)).bind fun t6 => some (decide (t6 < j2)))).bind fun t7 => (mulO (if j2 < 0 then -j2 else j2) (if t7 then 1 else 0 : Int)).bind fun t8 => (mulO (2 : Int) (if j2 < 0 then -j2 else j2)).bind fun t9 => (mulO (7919 : Int) a.2).bind fun t10 => (modO (((t9 + (if t7 then 1 else 0 : Int)) + t10) + (13 : Int)) (998244353 : Int)).bind fun t11 => some (t8, (t11 + (1 : Int)), (0 : Int))
abbrev sp__law_opened [Tb] (K : PySem.W.Frag) : Sp := spO (a__law_opened K) m__law_opened
theorem ok__law_opened [Tb] {P : Program} {w : World} {K : PySem.W.Frag} {mg : Str → Option Value} {base : Heap} (T : Txt K mg) : FnOk P w K mg base CX0 (1) T.a__law_opened T.d__law_opened ["_law_script", "_law_k"] (sp__law_opened K) := by
  refine T.F__law_opened.ok sc__law_opened (fun vs H Q E h => ?_) (fun cdv A outer s0 H vs Q E hr h => ?_)
  · obtain ⟨G, M0, a, r, ok, ⟨v_l_script, _, rfl, h_l_script, v_l_k, _, rfl, h_l_k, rfl⟩, hm, q⟩ := h
    rfl
  · obtain ⟨G, M0, a, r, ok, ⟨v_l_script, _, rfl, h_l_script, v_l_k, _, rfl, h_l_k, rfl⟩, hm, q⟩ := h
    unfold m__law_opened at hm
    have sg := Same.refl G
    have hB := Same.refl M0
    refine ⟨_, (pss_cons (ps_set (i := 2) sc__law_opened.nd rfl (.inl rfl) (pe_op op_add (pe_op op_mulO pe_int (pv 1)) pe_int)) (pss_cons (ps_if (pt_cmpR op_lt (pv 1) (pe_callB (cl_lenK (K := K)) (by rfl) T.n_len (by decide +kernel) (pa_cons (pv 0) pa_nil)) (nomark _)) (pss_cons (ps_set (i := 2) sc__law_opened.nd rfl (.inl rfl) (pe_ix (ix_listK (K := K)) (pv 0) (pv 1) (fun _ _ => rfl))) pss_nil) pss_nil) (pss_cons (ps_set (i := 3) sc__law_opened.nd rfl (.inl rfl) (pe_callTy cl_int (by rfl) T.n_int (by decide +kernel) (pa_cons (pe_or (pe_cmpR op_lt (pv 2) pe_int (nomark _)) (pe_one (pe_cmpR op_gt (pv 2) (pe_op op_pow pe_int pe_int) (nomark _)))) pa_nil))) (pss_cons (ps_ret (pe_lst (pa_cons (pe_op op_mulO (pe_callB cl_abs (by rfl) T.n_abs (by decide +kernel) (pa_cons (pv 2) pa_nil)) (pv 3)) (pa_cons (pe_op op_add (pe_op op_modN (pe_op op_add (pe_op op_add (pe_op op_add (pe_op op_mulO pe_int (pe_callB cl_abs (by rfl) T.n_abs (by decide +kernel) (pa_cons (pv 2) pa_nil))) (pv 3)) (pe_op op_mulO pe_int (pv 1))) pe_int) pe_int) pe_int) (pa_cons pe_int pa_nil))))) pss_nil)))), ?_⟩
    cases h_l_k
    refine nrm (σ' := [some v_l_script, some (.int a.2), none, none]) rfl ?_
    obtain ⟨t1, e_t1, hm⟩ := bs hm
    refine q_set (σ' := fun v => [some v_l_script, some (.int a.2), some v, none]) (ev_add (ev_mulO e_t1 (ev_int (K := K)) (ev_d (K := K) rfl (.int _))) (ev_int (K := K))) ok (fun _ => rfl) (fun v_l_cell G H s1 ok h_l_cell => ?_)
    have h_l_script := mo_scp _ _ _ s1 h_l_script
    have sg := sg.trans s1
    cases h_l_cell
    obtain ⟨j2, e_j2, hm⟩ := bs hm
    refine q_ifJ (fun σ1 G1 M1 => σ1 = [some v_l_script, some (.int a.2), some (.int j2), none] ∧ (Same M0 M1)) (et_test (ev_lt (ev_d (K := K) rfl (.int _)) (ev_lenScr (ea_cons mo_scp (ev_var rfl mo_scp h_l_script) ea_nil)))) ok (fun hb G H D1 s1 ok _ _ _ kD => ?_) (fun hb G H D1 s1 ok _ _ _ kD => ?_) (fun σ1 G M H s1 ok hj => ?_)
    · have hm := cond_t hb e_j2
      have h_l_script := mo_scp _ _ _ s1 h_l_script
      have sg := sg.trans s1
      have sl3 := Same.refl G
      obtain ⟨t4, e_t4, hm⟩ := bs hm
      refine q_set (σ' := fun v => [some v_l_script, some (.int a.2), some v, none]) (ev_ixScr e_t4 (ev_var rfl mo_scp h_l_script) (ev_d (K := K) rfl (.int _))) ok (fun _ => rfl) (fun v_l_cell G H s1 ok h_l_cell => ?_)
      have h_l_script := mo_scp _ _ _ s1 h_l_script
      have sg := sg.trans s1
      have sl3 := sl3.trans s1
      cases h_l_cell
      refine q_nil ?_
      cases hm
      exact kD _ _ _ _ sl3 ok ⟨rfl, hB⟩
    · have hm := cond_f hb e_j2
      have h_l_script := mo_scp _ _ _ s1 h_l_script
      have sg := sg.trans s1
      have sl5 := Same.refl G
      refine q_nil ?_
      cases hm
      exact kD _ _ _ _ sl5 ok ⟨rfl, hB⟩
    · obtain ⟨rfl, hB⟩ := hj
      have h_l_script := mo_scp _ _ _ s1 h_l_script
      have sg := sg.trans s1
      obtain ⟨t7, e_t7, hm⟩ := bs hm
      refine q_set (σ' := fun v => [some v_l_script, some (.int a.2), some (.int j2), some v]) (ev_intB (ea_d (ev_orG (c := t7) (ev_lt (ev_d (K := K) rfl (.int _)) (ev_int (K := K))) (fun eb => by have e1 := cond_f eb e_t7; (obtain ⟨t6, e_t6, e1⟩ := bs e1); (have e1 := Option.some.inj e1); subst e1; exact (ev_gt (ev_d (K := K) rfl (.int _)) (ev_powO e_t6 (ev_int (K := K)) (ev_int (K := K))))) (fun eb => by have e1 := cond_t eb e_t7; cases e1; exact ⟨rfl, rfl⟩)) ea_nil)) ok (fun _ => rfl) (fun v_l_great G H s1 ok h_l_great => ?_)
      have h_l_script := mo_scp _ _ _ s1 h_l_script
      have sg := sg.trans s1
      cases h_l_great
      obtain ⟨t8, e_t8, hm⟩ := bs hm
      obtain ⟨t9, e_t9, hm⟩ := bs hm
      obtain ⟨t10, e_t10, hm⟩ := bs hm
      obtain ⟨t11, e_t11, hm⟩ := bs hm
      cases hm
      refine q_retL (el_lst (ea_consD (ev_mulO e_t8 (ev_abs (ea_d (ev_d (K := K) rfl (.int _)) ea_nil)) (ev_d (K := K) rfl (.int _))) (ea_consD (ev_add (ev_modO e_t11 (ev_add (ev_add (ev_add (ev_mulO e_t9 (ev_int (K := K)) (ev_abs (ea_d (ev_d (K := K) rfl (.int _)) ea_nil))) (ev_d (K := K) rfl (.int _))) (ev_mulO e_t10 (ev_int (K := K)) (ev_d (K := K) rfl (.int _)))) (ev_int (K := K))) (ev_int (K := K))) (ev_int (K := K))) (ea_consD (ev_int (K := K)) (ea_nilD (K := K)))))) ok (fun p vs G H s1 ok hp hd => ?_)
      have sg := sg.trans s1
      cases vs_sto hd
      exact q _ _ _ sg (ok.less (same_upd2 hB)) (hB.free hp)
/-! ### _law_pull -/
theorem sc__law_pull : FnScope ["_law_store", "_law_many", "_law_found", "_law_state"] ["_law_store", "_law_many"] (defScope s__law_pull) := ⟨rfl, rfl, rfl, by decide +kernel, rfl, by decide +kernel, by decide +kernel⟩
def a__law_pull (K : PySem.W.Frag) (a : Int) : List V → Hp → Prop := conP (DD K (Dat.int a)) (nilP)
def m__law_pull (a : Int) (z : Sto) : Option (Int × Sto) := pullM a z
abbrev sp__law_pull [Tb] (K : PySem.W.Frag) : Sp := spD (a__law_pull K) m__law_pull fun r => DD K (Dat.int r)
theorem ok__law_pull [Tb] {P : Program} {w : World} {K : PySem.W.Frag} {mg : Str → Option Value} {base : Heap} (T : Txt K mg) : FnOk P w K mg base CX0 1 T.a__law_pull T.d__law_pull ["_law_store", "_law_many"] (sp__law_pull K) := by
  refine T.F__law_pull.ok sc__law_pull (fun vs H Q E h => ?_) (fun cdv A outer s0 H vs Q E hr h => ?_)
  · obtain ⟨G, M0, s, z, z1, a, r, ws, rfl, ok, hs, ⟨v_m, _, rfl, h_m, rfl⟩, hm, q⟩ := h
    rfl
  · obtain ⟨G, M0, s, z, z1, a, r, ws, rfl, ok, hs, ⟨v_m, _, rfl, h_m, rfl⟩, hm, q⟩ := h
    cases h_m
    unfold m__law_pull pullM at hm
    refine ⟨_, (pss_cons (ps_asg (pe_op op_add (pe_ix (ix_listK (K := K)) (pv 0) pe_int (fun _ _ => rfl)) pe_int) (pg_sub (pv 0) pe_int set_list))
      (pss_cons (ps_if (pt_cmpR op_gt (pe_ix (ix_listK (K := K)) (pv 0) pe_int (fun _ _ => rfl)) pe_int (nomark _))
        (pss_cons (ps_asg (pe_callB cl_divmod (by rfl) T.n_divmod (by decide +kernel) (pa_cons (pe_ix (ix_listK (K := K)) (pv 0) pe_int (fun _ _ => rfl)) (pa_cons (pv 1) pa_nil))) (pg_tup rfl (pgs_cons (pg_sub (pv 0) pe_int set_list) (pgs_cons (pg_name (i := 2) sc__law_pull.nd rfl (.inl rfl)) pgs_nil))))
          (pss_cons (ps_ret (pv 2)) pss_nil)) pss_nil)
      (pss_cons (ps_set (i := 3) sc__law_pull.nd rfl (.inl rfl) (pe_ix (ix_listK (K := K)) (pv 0) pe_int (fun _ _ => rfl)))
      (pss_cons (ps_asg (pe_op op_modN (pe_op op_add (pe_op op_add (pe_op op_mulO (pv 3) (pe_op op_add (pe_op op_modN (pv 3) pe_int) pe_int)) (pe_op op_mulO pe_int (pe_ix (ix_listK (K := K)) (pv 0) pe_int (fun _ _ => rfl)))) pe_int) pe_int) (pg_sub (pv 0) pe_int set_list))
      (pss_cons (ps_ret (pe_op op_modN (pe_op op_fdivO (pe_ix (ix_listK (K := K)) (pv 0) pe_int (fun _ _ => rfl)) pe_int) (pv 1))) pss_nil))))), ?_⟩
    refine nrm (σ' := [some (.ref s), some (.int a), none, none]) rfl ?_
    have d3 : ∀ (x y z : Int) (G : Hp), DqAll K G [.int x, .int y, .int z] [.int x, .int y, .int z] := fun x y z G => .cons (.int x) (.cons (.int y) (.cons (.int z) .nil))
    refine q_setItem (K := K) (d := .int (z.2.2 + 1)) (ev_add (ev_ixO (ds := [.int z.1, .int z.2.1, .int z.2.2]) (d := .int z.2.2) (ev_own rfl) (ev_int (K := K)) hs (d3 _ _ _ _) rfl) (ev_int (K := K))) (ev_own rfl) (ev_int (K := K)) hs rfl ok (fun v G H s1 ok hv => ?_)
    cases hv
    have sg := s1
    have hs1 : (upd M0 s (.lst [.int z.1, .int z.2.1, .int (z.2.2 + 1)])) s = some (.lst [.int z.1, .int z.2.1, .int (z.2.2 + 1)]) := upd_same
    refine q_if (et_test (ev_gt (ev_ixO (ds := [.int z.1, .int z.2.1, .int (z.2.2 + 1)]) (d := .int z.1) (ev_own rfl) (ev_int (K := K)) hs1 (d3 _ _ _ _) rfl) (ev_int (K := K)))) ok (fun hb G H s1 ok => ?_) (fun hb G H s1 ok => ?_)
    · have hm := cond_t hb hm
      have sg := sg.trans s1
      obtain ⟨t1, e_t1, hm⟩ := bs hm
      refine q_asgG (ev_dmO e_t1 (ea_d (ev_ixO (ds := [.int z.1, .int z.2.1, .int (z.2.2 + 1)]) (d := .int z.1) (ev_own rfl) (ev_int (K := K)) hs1 (d3 _ _ _ _) rfl) (ea_d (ev_d (K := K) rfl (.int _)) ea_nil))) ok (fun v G H s1 ok hv => ?_)
      have sg := sg.trans s1
      refine gr2 hv ok.g (fun w1 w2 hw1 hw2 => ?_)
      cases hw1
      refine gs_list (K := K) (ev_own rfl) (ev_int (K := K)) hs1 rfl ok (fun G H s1 ok => ?_)
      have sg := sg.trans s1
      cases hw2
      refine gn ?_
      refine nrm (σ' := [some (.ref s), some (.int a), some (.int t1.2), none]) rfl ?_
      refine q_ret (ev_d (K := K) rfl (.int _)) ok (fun v G H s1 ok hv => ?_)
      cases hm
      rw [upd_upd] at ok
      exact q v G H (sg.trans s1) ok hv
    · have hm := cond_f hb hm
      have sg := sg.trans s1
      refine q_nilU ?_
      refine q_set (σ' := fun v => [some (.ref s), some (.int a), none, some v]) (ev_ixO (K := K) (ds := [.int z.1, .int z.2.1, .int (z.2.2 + 1)]) (d := .int z.2.1) (ev_own rfl) (ev_int (K := K)) hs1 (d3 _ _ _ _) rfl) ok (fun _ => rfl) (fun v G H s1 ok hv => ?_)
      cases hv
      have sg := sg.trans s1
      obtain ⟨t1, e_t1, hm⟩ := bs hm
      obtain ⟨t2, e_t2, hm⟩ := bs hm
      obtain ⟨t3, e_t3, hm⟩ := bs hm
      obtain ⟨t4, e_t4, hm⟩ := bs hm
      obtain ⟨t5, e_t5, hm⟩ := bs hm
      obtain ⟨t6, e_t6, hm⟩ := bs hm
      refine q_setItem (K := K) (ev_modO e_t4 (ev_add (ev_add (ev_mulO e_t2 (ev_d (K := K) rfl (.int _)) (ev_add (ev_modO e_t1 (ev_d (K := K) rfl (.int _)) (ev_int (K := K))) (ev_int (K := K)))) (ev_mulO e_t3 (ev_int (K := K)) (ev_ixO (ds := [.int z.1, .int z.2.1, .int (z.2.2 + 1)]) (d := .int (z.2.2 + 1)) (ev_own rfl) (ev_int (K := K)) hs1 (d3 _ _ _ _) rfl))) (ev_int (K := K))) (ev_int (K := K))) (ev_own rfl) (ev_int (K := K)) hs1 rfl ok (fun v G H s1 ok hv => ?_)
      cases hv
      have sg := sg.trans s1
      rw [upd_upd] at ok
      have hs2 : (upd M0 s (.lst [.int z.1, .int t4, .int (z.2.2 + 1)])) s = some (.lst [.int z.1, .int t4, .int (z.2.2 + 1)]) := upd_same
      refine q_ret (ev_modO e_t6 (ev_fdivO e_t5 (ev_ixO (K := K) (ds := [.int z.1, .int t4, .int (z.2.2 + 1)]) (d := .int t4) (ev_own rfl) (ev_int (K := K)) hs2 (d3 _ _ _ _) rfl) (ev_int (K := K))) (ev_d (K := K) rfl (.int _))) ok (fun v G H s1 ok hv => ?_)
      cases hm
      exact q v G H (sg.trans s1) ok hv
/-! ### _law_spelt -/
theorem sc__law_spelt : FnScope ["_law_figure_here", "_law_wide", "_law_word", "_law_turn"] ["_law_figure_here", "_law_wide"] (defScope s__law_spelt) := ⟨rfl, rfl, rfl, by decide +kernel, rfl, by decide +kernel, by decide +kernel⟩
def a__law_spelt (K : PySem.W.Frag) (a : Int × Int) : List V → Hp → Prop := conP (DD K (Dat.int a.1)) (conP (DD K (Dat.int a.2)) (nilP))
def m__law_spelt (a : Int × Int) : Option Str :=
  (rngO a.2).bind fun t1 => (forO (fun (st3 : Str × Int) (x4 : Int) => (modO st3.2 (26 : Int)).bind fun t9 => (atS (Str.ofString "abcdefghijklmnopqrstuvwxyz") t9).bind fun t10 => (addS t10 st3.1).bind fun t11 => (fdivO st3.2 (26 : Int)).bind fun t12 => some (t11, t12)) t1 ((Str.ofString ""), a.1)).bind fun fin2 => some fin2.1
abbrev sp__law_spelt [Tb] (K : PySem.W.Frag) : Sp := spP (a__law_spelt K) (m__law_spelt) fun r => DD K (Dat.str r)
theorem ok__law_spelt [Tb] {P : Program} {w : World} {K : PySem.W.Frag} {mg : Str → Option Value} {base : Heap} (T : Txt K mg) : FnOk P w K mg base CX0 (1) T.a__law_spelt T.d__law_spelt ["_law_figure_here", "_law_wide"] (sp__law_spelt K) := by
  refine T.F__law_spelt.ok sc__law_spelt (fun vs H Q E h => ?_) (fun cdv A outer s0 H vs Q E hr h => ?_)
  · obtain ⟨G, M0, a, r, ok, ⟨v_l_figure_here, _, rfl, h_l_figure_here, v_l_wide, _, rfl, h_l_wide, rfl⟩, hm, q⟩ := h
    rfl
  · obtain ⟨G, M0, a, r, ok, ⟨v_l_figure_here, _, rfl, h_l_figure_here, v_l_wide, _, rfl, h_l_wide, rfl⟩, hm, q⟩ := h
    unfold m__law_spelt at hm
    have sg := Same.refl G
    have hB := Same.refl M0
    refine ⟨_, (pss_cons (ps_set (i := 2) sc__law_spelt.nd rfl (.inl rfl) pe_str) (pss_cons (ps_for PassesOwn.never rfl (pi_range1 (by rfl) T.n_range (pa_cons (pv 1) pa_nil)) (pg_name (i := 3) sc__law_spelt.nd rfl (.inl rfl)) (pss_cons (ps_set (i := 2) sc__law_spelt.nd rfl (.inl rfl) (pe_op op_add_str (pe_ix ix_str pe_str (pe_op op_modN (pv 0) pe_int) (fun _ _ => rfl)) (pv 2))) (pss_cons (ps_set (i := 0) sc__law_spelt.nd rfl (.inl rfl) (pe_op op_fdivO (pv 0) pe_int)) pss_nil))) (pss_cons (ps_ret (pv 2)) pss_nil))), ?_⟩
    cases h_l_figure_here
    cases h_l_wide
    refine nrm (σ' := [some (.int a.1), some (.int a.2), none, none]) rfl ?_
    refine q_set (σ' := fun v => [some (.int a.1), some (.int a.2), some v, none]) (ev_str (K := K) (by decide +kernel)) ok (fun _ => rfl) (fun v_l_word G H s1 ok h_l_word => ?_)
    have sg := sg.trans s1
    obtain ⟨t1, e_t1, hm⟩ := bs hm
    obtain ⟨fin2, e_fin2, hm⟩ := bs hm
    have hmo5 := hm
    refine q_forO (ea := Dat.int) (src_rngO e_t1 (ea_d (ev_d (K := K) rfl (.int _)) ea_nil)) ok (fun (st3 : Str × Int) σ1 G1 M1 => ∃ (y_l_turn : Option V) (v_l_word : V), σ1 = [some (.int st3.2), some (.int a.2), some v_l_word, y_l_turn] ∧ (Dq K G1 v_l_word (Dat.str st3.1)) ∧ (Same M0 M1)) e_fin2 (fun G1 s1 => ⟨_, _, rfl, dp_up s1 _ h_l_word, hB⟩) (by rintro _ _ _ _ _ ⟨y_l_turn, v_l_word, rfl, h_l_word, hB⟩ s2; exact ⟨_, _, rfl, dp_up s2 _ h_l_word, hB⟩) (fun x4 xv7 st3 st' σ1 G M H N hm hj s1 ok hv hN => ?_) (fun σ1 G M H s1 ok hj => ?_)
    · obtain ⟨y_l_turn, v_l_word, rfl, h_l_word, hB⟩ := hj
      have sg := sg.trans s1
      have sl8 := Same.refl G
      refine gn ?_
      have h_l_turn := hv
      cases h_l_turn
      refine nrm (σ' := [some (.int st3.2), some (.int a.2), some v_l_word, some (.int x4)]) rfl ?_
      obtain ⟨t9, e_t9, hm⟩ := bs hm
      obtain ⟨t10, e_t10, hm⟩ := bs hm
      obtain ⟨t11, e_t11, hm⟩ := bs hm
      refine q_set (σ' := fun v => [some (.int st3.2), some (.int a.2), some v, some (.int x4)]) (ev_addS e_t11 (ev_ixS e_t10 (ev_str (K := K) (by decide +kernel)) (ev_modO e_t9 (ev_d (K := K) rfl (.int _)) (ev_int (K := K)))) (ev_d (K := K) rfl h_l_word)) ok (fun _ => rfl) (fun v_l_word G H s1 ok h_l_word => ?_)
      have sg := sg.trans s1
      have sl8 := sl8.trans s1
      obtain ⟨t12, e_t12, hm⟩ := bs hm
      refine q_set (σ' := fun v => [some v, some (.int a.2), some v_l_word, some (.int x4)]) (ev_fdivO e_t12 (ev_d (K := K) rfl (.int _)) (ev_int (K := K))) ok (fun _ => rfl) (fun v_l_figure_here G H s1 ok h_l_figure_here => ?_)
      have h_l_word := dp_up s1 _ h_l_word
      have sg := sg.trans s1
      have sl8 := sl8.trans s1
      cases h_l_figure_here
      refine q_nil ?_
      cases hm
      exact hN _ _ _ _ sl8 ok ⟨_, _, rfl, h_l_word, hB⟩
    · obtain ⟨y_l_turn, v_l_word, rfl, h_l_word, hB⟩ := hj
      have sg := sg.trans s1
      refine q_ret (ev_d (K := K) rfl h_l_word) ok (fun v G H s1 ok hv => ?_)
      have sg := sg.trans s1
      cases hm
      exact q v G H sg (ok.less hB) hv
/-! ### _law_calls -/
theorem sc__law_calls : FnScope ["_law_store", "_law_many", "_law_words", "_law_first", "_law_leap", "_law_wide", "_law_most", "_law_k"] ["_law_store", "_law_many"] (defScope s__law_calls) := ⟨rfl, rfl, rfl, by decide +kernel, rfl, by decide +kernel, by decide +kernel⟩
def a__law_calls (K : PySem.W.Frag) (a : Int) : List V → Hp → Prop := conP (DD K (Dat.int a)) (nilP)
def m__law_calls (a : Int) (z : Sto) : Option ((List Str) × Sto) :=
  (m__law_pull (5 : Int) z).bind fun t1 => cond (decide (t1.1 = (1 : Int))) ((m__law_pull (12 : Int) t1.2).bind fun t2 => (m__law_pull (4 : Int) t2.2).bind fun t3 => (atI ([(1 : Int), (5 : Int), (7 : Int), (11 : Int)] : (List Int)) t3.1).bind fun t4 => (rngO a).bind fun t5 => (lcO (fun x6 : Int => (mulO t4 x6).bind fun t12 => (modO (t2.1 + t12) (12 : Int)).bind fun t13 => (atI ([(Str.ofString "bell"), (Str.ofString "turns"), (Str.ofString "ring"), (Str.ofString "go"), (Str.ofString "tell"), (Str.ofString "hang"), (Str.ofString "down"), (Str.ofString "put"), (Str.ofString "strike"), (Str.ofString "back"), (Str.ofString "lots"), (Str.ofString "home")] : (List Str)) t13).bind fun t14 => some t14) t5).bind fun t15 => (sortS t15).bind fun t16 => some (t16, t3.2)) ((m__law_pull (6 : Int) t1.2).bind fun t17 => (m__law_pull (4 : Int) t17.2).bind fun t18 => (atI ([(1 : Int), (3 : Int), (7 : Int), (25 : Int)] : (List Int)) t18.1).bind fun t19 => (atI ([(26 : Int), (676 : Int), (17576 : Int), (456976 : Int), (11881376 : Int), (308915776 : Int)] : (List Int)) (((1 : Int) + t17.1) - (1 : Int))).bind fun t20 => (m__law_pull t20 t18.2).bind fun t21 => (rngO a).bind fun t22 => (lcO (fun x23 : Int => (mulO t19 x23).bind fun t29 => (modO (t21.1 + t29) t20).bind fun t30 => (m__law_spelt (t30, ((1 : Int) + t17.1))).bind fun t31 => some t31) t22).bind fun t32 => (sortS t32).bind fun t33 => some (t33, t21.2))
abbrev sp__law_calls [Tb] (K : PySem.W.Frag) : Sp := spD (a__law_calls K) (m__law_calls) fun r => DD K ((eL Dat.str) r)
theorem ok__law_calls [Tb] {P : Program} {w : World} {K : PySem.W.Frag} {mg : Str → Option Value} {base : Heap} (T : Txt K mg) (O__law_pull : FnOk P w K mg base CX0 1 T.a__law_pull T.d__law_pull ["_law_store", "_law_many"] (sp__law_pull K)) (O__law_spelt : FnOk P w K mg base CX0 1 T.a__law_spelt T.d__law_spelt ["_law_figure_here", "_law_wide"] (sp__law_spelt K)) : FnOk P w K mg base CX0 (2) T.a__law_calls T.d__law_calls ["_law_store", "_law_many"] (sp__law_calls K) := by
  refine T.F__law_calls.ok sc__law_calls (fun vs H Q E h => ?_) (fun cdv A outer s0 H vs Q E hr h => ?_)
  · obtain ⟨G, M0, s, z, z1, a, r, ws, rfl, ok, hs, ⟨v_l_many, _, rfl, h_l_many, rfl⟩, hm, q⟩ := h
    rfl
  · obtain ⟨G, M0, s, z, z1, a, r, ws, rfl, ok, hs, ⟨v_l_many, _, rfl, h_l_many, rfl⟩, hm, q⟩ := h
    unfold m__law_calls at hm
    have sg := Same.refl G
    have hB : ∀ a u, a ≠ s → M0 a = some u → M0 a = some u := fun _ _ _ h => h
    refine ⟨_, (pss_cons (ps_set (i := 2) sc__law_calls.nd rfl (.inr rfl) (pe_lst (pa_cons pe_str (pa_cons pe_str (pa_cons pe_str (pa_cons pe_str (pa_cons pe_str (pa_cons pe_str (pa_cons pe_str (pa_cons pe_str (pa_cons pe_str (pa_cons pe_str (pa_cons pe_str (pa_cons pe_str pa_nil)))))))))))))) (pss_cons (ps_if (pt_cmpR op_eq (pe_call O__law_pull (hr.mono (by decide)) (by rfl) T.g__law_pull T.F__law_pull.kp T.b__law_pull .nil pass0 (pa_cons (pv 0) (pa_cons pe_int pa_nil))) pe_int (nomark _)) (pss_cons (ps_asg (pe_tup (pa_cons (pe_call O__law_pull (hr.mono (by decide)) (by rfl) T.g__law_pull T.F__law_pull.kp T.b__law_pull .nil pass0 (pa_cons (pv 0) (pa_cons pe_int pa_nil))) (pa_cons (pe_ix (ix_listK (K := K)) (pe_lst (pa_cons pe_int (pa_cons pe_int (pa_cons pe_int (pa_cons pe_int pa_nil))))) (pe_call O__law_pull (hr.mono (by decide)) (by rfl) T.g__law_pull T.F__law_pull.kp T.b__law_pull .nil pass0 (pa_cons (pv 0) (pa_cons pe_int pa_nil))) (fun _ _ => rfl)) pa_nil))) (pg_tup rfl (pgs_cons (pg_name (i := 3) sc__law_calls.nd rfl (.inr rfl)) (pgs_cons (pg_name (i := 4) sc__law_calls.nd rfl (.inr rfl)) pgs_nil)))) (pss_cons (ps_ret (pe_callB (cr_sortedSK (K := K)) (by rfl) T.n_sorted (by decide +kernel) (pa_cons (pe_lc (own := [("_law_k", 7)]) (g := (gName 7)) (tt := tYes) rfl sc__law_calls.nd (pi_range1 (by rfl) T.n_range (pa_cons (pv 1) pa_nil)) (blkOk_by (own := [("_law_k", 7)]) (N := ["_law_store", "_law_many", "_law_words", "_law_first", "_law_leap", "_law_wide", "_law_most", "_law_k"]) (sc := defScope s__law_calls) (by decide +kernel)) (fun _ _ _ _ _ => (pg_name (i := 7) sc__law_calls.nd rfl (by first | exact .inl rfl | exact .inr rfl))) (fun _ _ _ _ _ => pts_nil) (fun _ _ _ _ _ => (pe_ix (ix_listK (K := K)) (pv 2) (pe_op op_modN (pe_op op_add (pv 3) (pe_op op_mulO (pv 4) (pv 7))) pe_int) (fun _ _ => rfl)))) pa_nil))) pss_nil)) pss_nil) (pss_cons (ps_asg (pe_tup (pa_cons (pe_op op_add pe_int (pe_call O__law_pull (hr.mono (by decide)) (by rfl) T.g__law_pull T.F__law_pull.kp T.b__law_pull .nil pass0 (pa_cons (pv 0) (pa_cons pe_int pa_nil)))) (pa_cons (pe_ix (ix_listK (K := K)) (pe_lst (pa_cons pe_int (pa_cons pe_int (pa_cons pe_int (pa_cons pe_int pa_nil))))) (pe_call O__law_pull (hr.mono (by decide)) (by rfl) T.g__law_pull T.F__law_pull.kp T.b__law_pull .nil pass0 (pa_cons (pv 0) (pa_cons pe_int pa_nil))) (fun _ _ => rfl)) pa_nil))) (pg_tup rfl (pgs_cons (pg_name (i := 5) sc__law_calls.nd rfl (.inr rfl)) (pgs_cons (pg_name (i := 4) sc__law_calls.nd rfl (.inr rfl)) pgs_nil)))) (pss_cons (ps_set (i := 6) sc__law_calls.nd rfl (.inr rfl) (pe_ix (ix_listK (K := K)) (pe_lst (pa_cons pe_int (pa_cons pe_int (pa_cons pe_int (pa_cons pe_int (pa_cons pe_int (pa_cons pe_int pa_nil))))))) (pe_op op_sub (pv 5) pe_int) (fun _ _ => rfl))) (pss_cons (ps_set (i := 3) sc__law_calls.nd rfl (.inr rfl) (pe_call O__law_pull (hr.mono (by decide)) (by rfl) T.g__law_pull T.F__law_pull.kp T.b__law_pull .nil pass0 (pa_cons (pv 0) (pa_cons (pv 6) pa_nil)))) (pss_cons (ps_ret (pe_callB (cr_sortedSK (K := K)) (by rfl) T.n_sorted (by decide +kernel) (pa_cons (pe_lc (own := [("_law_k", 7)]) (g := (gName 7)) (tt := tYes) rfl sc__law_calls.nd (pi_range1 (by rfl) T.n_range (pa_cons (pv 1) pa_nil)) (blkOk_by (own := [("_law_k", 7)]) (N := ["_law_store", "_law_many", "_law_words", "_law_first", "_law_leap", "_law_wide", "_law_most", "_law_k"]) (sc := defScope s__law_calls) (by decide +kernel)) (fun _ _ _ _ _ => (pg_name (i := 7) sc__law_calls.nd rfl (by first | exact .inl rfl | exact .inr rfl))) (fun _ _ _ _ _ => pts_nil) (fun _ _ _ _ _ => (pe_call O__law_spelt (hr.mono (by decide)) (by rfl) T.g__law_spelt T.F__law_spelt.kp T.b__law_spelt .nil pass0 (pa_cons (pe_op op_modN (pe_op op_add (pv 3) (pe_op op_mulO (pv 4) (pv 7))) (pv 6)) (pa_cons (pv 5) pa_nil))))) pa_nil))) pss_nil)))))), ?_⟩
    cases h_l_many
    refine nrm (σ' := [some (.ref s), some (.int a), none, none, none, none, none, none]) rfl ?_
    refine q_set (σ' := fun v => [some (.ref s), some (.int a), some v, none, none, none, none, none]) (EvL.ev (el_lst (ea_consD (ev_str (K := K) (by decide +kernel)) (ea_consD (ev_str (K := K) (by decide +kernel)) (ea_consD (ev_str (K := K) (by decide +kernel)) (ea_consD (ev_str (K := K) (by decide +kernel)) (ea_consD (ev_str (K := K) (by decide +kernel)) (ea_consD (ev_str (K := K) (by decide +kernel)) (ea_consD (ev_str (K := K) (by decide +kernel)) (ea_consD (ev_str (K := K) (by decide +kernel)) (ea_consD (ev_str (K := K) (by decide +kernel)) (ea_consD (ev_str (K := K) (by decide +kernel)) (ea_consD (ev_str (K := K) (by decide +kernel)) (ea_consD (ev_str (K := K) (by decide +kernel)) (ea_nilD (K := K)))))))))))))))) ok (fun _ => rfl) (fun v_l_words G H s1 ok h_l_words => ?_)
    have sg := sg.trans s1
    obtain ⟨t1, e_t1, hm⟩ := bs hm
    refine q_if (et_test (ev_eqI (ev_callD (a := (5 : Int)) (r := t1.1) (z' := t1.2) hs e_t1 (ea_cons mo_ow (ev_own rfl) (ea_d (ev_int (K := K)) ea_nil))) (ev_int (K := K)))) ok (fun hb G H s1 ok => ?_) (fun hb G H s1 ok => ?_)
    · have hm := cond_t hb hm
      have h_l_words := dp_up s1 _ h_l_words
      have sg := sg.trans s1
      have ok : Ok _ (upd M0 s (sto t1.2)) _ := ok
      have hs : (upd M0 s (sto t1.2)) s = some (sto t1.2) := upd_same
      have hB : ∀ a u, a ≠ s → M0 a = some u → (upd M0 s (sto t1.2)) a = some u := (hB_draw hB)
      obtain ⟨M, eM⟩ : ∃ m, m = (upd M0 s (sto t1.2)) := ⟨_, rfl⟩
      rw [← eM] at ok hs hB
      clear eM
      obtain ⟨t2, e_t2, hm⟩ := bs hm
      obtain ⟨t3, e_t3, hm⟩ := bs hm
      obtain ⟨t4, e_t4, hm⟩ := bs hm
      refine q_tupDD (σ' := fun v w => [some (.ref s), some (.int a), some v_l_words, some v, some w, none, none, none]) (ev_callD (a := (12 : Int)) (r := t2.1) (z' := t2.2) hs e_t2 (ea_cons mo_ow (ev_own rfl) (ea_d (ev_int (K := K)) ea_nil))) mo_dd (ev_ixLM (e := Dat.int) e_t4 (EvL.ev (el_lst (ea_consD (ev_int (K := K)) (ea_consD (ev_int (K := K)) (ea_consD (ev_int (K := K)) (ea_consD (ev_int (K := K)) (ea_nilD (K := K)))))))) (ev_callD (a := (4 : Int)) (r := t3.1) (z' := t3.2) upd_same e_t3 (ea_cons mo_ow (ev_own rfl) (ea_d (ev_int (K := K)) ea_nil)))) mo_dd ok (fun _ _ => rfl) (fun v_l_first v_l_leap G H s1 ok h_l_first h_l_leap => ?_)
      have h_l_words := dp_up s1 _ h_l_words
      have sg := sg.trans s1
      cases h_l_first
      cases h_l_leap
      have ok : Ok _ (upd (upd M s (sto t2.2)) s (sto t3.2)) _ := ok
      have hs : (upd (upd M s (sto t2.2)) s (sto t3.2)) s = some (sto t3.2) := upd_same
      have hB : ∀ a u, a ≠ s → M0 a = some u → (upd (upd M s (sto t2.2)) s (sto t3.2)) a = some u := (hB_draw (hB_draw hB))
      obtain ⟨M, eM⟩ : ∃ m, m = (upd (upd M s (sto t2.2)) s (sto t3.2)) := ⟨_, rfl⟩
      rw [← eM] at ok hs hB
      clear eM
      obtain ⟨t5, e_t5, hm⟩ := bs hm
      obtain ⟨t15, e_t15, hm⟩ := bs hm
      obtain ⟨t16, e_t16, hm⟩ := bs hm
      refine q_ret (EvL.ev (el_sortedS e_t16 (ea_d (EvL.ev (el_lcM (ea := Dat.int) (eb := Dat.str) (xs := t5) (ys := t15) (hf := e_t15) (src_rngO e_t5 (ea_d (ev_d (K := K) rfl (.int _)) ea_nil)) (fun x6 _ Mx10 _ _ he11 sM9 sG8 hv7 => by (obtain ⟨t12, e_t12, he11⟩ := bs he11); (obtain ⟨t13, e_t13, he11⟩ := bs he11); (obtain ⟨t14, e_t14, he11⟩ := bs he11); (have he11 := Option.some.inj he11); subst he11; exact (tg_name ⟨rfl, (ev_ixLM (e := Dat.str) e_t14 (ev_d (K := K) rfl (dp_up sG8 _ h_l_words)) (ev_modO e_t13 (ev_add (ev_d (K := K) rfl (.int _)) (ev_mulO e_t12 (ev_d (K := K) rfl (.int _)) (ev_d (K := K) rfl hv7))) (ev_int (K := K))))⟩)))) ea_nil))) ok (fun v G H s1 ok hv => ?_)
      have sg := sg.trans s1
      cases hm
      exact q v G H sg (ok.less (same_fin hB hs)) hv
    · have hm := cond_f hb hm
      have h_l_words := dp_up s1 _ h_l_words
      have sg := sg.trans s1
      have ok : Ok _ (upd M0 s (sto t1.2)) _ := ok
      have hs : (upd M0 s (sto t1.2)) s = some (sto t1.2) := upd_same
      have hB : ∀ a u, a ≠ s → M0 a = some u → (upd M0 s (sto t1.2)) a = some u := (hB_draw hB)
      obtain ⟨M, eM⟩ : ∃ m, m = (upd M0 s (sto t1.2)) := ⟨_, rfl⟩
      rw [← eM] at ok hs hB
      clear eM
      refine q_nilU ?_
      obtain ⟨t17, e_t17, hm⟩ := bs hm
      obtain ⟨t18, e_t18, hm⟩ := bs hm
      obtain ⟨t19, e_t19, hm⟩ := bs hm
      refine q_tupDD (σ' := fun v w => [some (.ref s), some (.int a), some v_l_words, none, some w, some v, none, none]) (ev_add (ev_int (K := K)) (ev_callD (a := (6 : Int)) (r := t17.1) (z' := t17.2) hs e_t17 (ea_cons mo_ow (ev_own rfl) (ea_d (ev_int (K := K)) ea_nil)))) mo_dd (ev_ixLM (e := Dat.int) e_t19 (EvL.ev (el_lst (ea_consD (ev_int (K := K)) (ea_consD (ev_int (K := K)) (ea_consD (ev_int (K := K)) (ea_consD (ev_int (K := K)) (ea_nilD (K := K)))))))) (ev_callD (a := (4 : Int)) (r := t18.1) (z' := t18.2) upd_same e_t18 (ea_cons mo_ow (ev_own rfl) (ea_d (ev_int (K := K)) ea_nil)))) mo_dd ok (fun _ _ => rfl) (fun v_l_wide v_l_leap G H s1 ok h_l_wide h_l_leap => ?_)
      have h_l_words := dp_up s1 _ h_l_words
      have sg := sg.trans s1
      cases h_l_wide
      cases h_l_leap
      have ok : Ok _ (upd (upd M s (sto t17.2)) s (sto t18.2)) _ := ok
      have hs : (upd (upd M s (sto t17.2)) s (sto t18.2)) s = some (sto t18.2) := upd_same
      have hB : ∀ a u, a ≠ s → M0 a = some u → (upd (upd M s (sto t17.2)) s (sto t18.2)) a = some u := (hB_draw (hB_draw hB))
      obtain ⟨M, eM⟩ : ∃ m, m = (upd (upd M s (sto t17.2)) s (sto t18.2)) := ⟨_, rfl⟩
      rw [← eM] at ok hs hB
      clear eM
      obtain ⟨t20, e_t20, hm⟩ := bs hm
      refine q_set (σ' := fun v => [some (.ref s), some (.int a), some v_l_words, none, some (.int t19), some (.int ((1 : Int) + t17.1)), some v, none]) (ev_ixLM (e := Dat.int) e_t20 (EvL.ev (el_lst (ea_consD (ev_int (K := K)) (ea_consD (ev_int (K := K)) (ea_consD (ev_int (K := K)) (ea_consD (ev_int (K := K)) (ea_consD (ev_int (K := K)) (ea_consD (ev_int (K := K)) (ea_nilD (K := K)))))))))) (ev_sub (ev_d (K := K) rfl (.int _)) (ev_int (K := K)))) ok (fun _ => rfl) (fun v_l_most G H s1 ok h_l_most => ?_)
      have h_l_words := dp_up s1 _ h_l_words
      have sg := sg.trans s1
      cases h_l_most
      obtain ⟨t21, e_t21, hm⟩ := bs hm
      refine q_set (σ' := fun v => [some (.ref s), some (.int a), some v_l_words, some v, some (.int t19), some (.int ((1 : Int) + t17.1)), some (.int t20), none]) (ev_callD (a := t20) (r := t21.1) (z' := t21.2) hs e_t21 (ea_cons mo_ow (ev_own rfl) (ea_d (ev_d (K := K) rfl (.int _)) ea_nil))) ok (fun _ => rfl) (fun v_l_first G H s1 ok h_l_first => ?_)
      have h_l_words := dp_up s1 _ h_l_words
      have sg := sg.trans s1
      cases h_l_first
      have ok : Ok _ (upd M s (sto t21.2)) _ := ok
      have hs : (upd M s (sto t21.2)) s = some (sto t21.2) := upd_same
      have hB : ∀ a u, a ≠ s → M0 a = some u → (upd M s (sto t21.2)) a = some u := (hB_draw hB)
      obtain ⟨M, eM⟩ : ∃ m, m = (upd M s (sto t21.2)) := ⟨_, rfl⟩
      rw [← eM] at ok hs hB
      clear eM
      obtain ⟨t22, e_t22, hm⟩ := bs hm
      obtain ⟨t32, e_t32, hm⟩ := bs hm
      obtain ⟨t33, e_t33, hm⟩ := bs hm
      refine q_ret (EvL.ev (el_sortedS e_t33 (ea_d (EvL.ev (el_lcM (ea := Dat.int) (eb := Dat.str) (xs := t22) (ys := t32) (hf := e_t32) (src_rngO e_t22 (ea_d (ev_d (K := K) rfl (.int _)) ea_nil)) (fun x23 _ Mx27 _ _ he28 sM26 sG25 hv24 => by (obtain ⟨t29, e_t29, he28⟩ := bs he28); (obtain ⟨t30, e_t30, he28⟩ := bs he28); (obtain ⟨t31, e_t31, he28⟩ := bs he28); (have he28 := Option.some.inj he28); subst he28; exact (tg_name ⟨rfl, (ev_callP (res := fun r => DD K (Dat.str r)) (a := (t30, ((1 : Int) + t17.1))) e_t31 (ea_d (ev_modO e_t30 (ev_add (ev_d (K := K) rfl (.int _)) (ev_mulO e_t29 (ev_d (K := K) rfl (.int _)) (ev_d (K := K) rfl hv24))) (ev_d (K := K) rfl (.int _))) (ea_d (ev_d (K := K) rfl (.int _)) ea_nil)))⟩)))) ea_nil))) ok (fun v G H s1 ok hv => ?_)
      have sg := sg.trans s1
      cases hm
      exact q v G H sg (ok.less (same_fin hB hs)) hv
/-! ### _law_figure -/
theorem sc__law_figure : FnScope ["_law_store", "_law_mode", "_law_size", "_law_some"] ["_law_store", "_law_mode", "_law_size"] (defScope s__law_figure) := ⟨rfl, rfl, rfl, by decide +kernel, rfl, by decide +kernel, by decide +kernel⟩
def a__law_figure (K : PySem.W.Frag) (a : Int × Int) : List V → Hp → Prop := conP (DD K (Dat.int a.1)) (conP (DD K (Dat.int a.2)) (nilP))
def m__law_figure (a : Int × Int) (z : Sto) : Option (Int × Sto) :=
  (m__law_pull a.2 z).bind fun t1 => (m__law_pull (99 : Int) t1.2).bind fun t2 => (mulO (2 : Int) a.2).bind fun t3 => (fdivO a.2 (2 : Int)).bind fun t4 => (m__law_pull (4 : Int) t2.2).bind fun t5 => (atI ([(0 : Int), a.2, t3, t4] : (List Int)) t5.1).bind fun t6 => (appO ([(1 : Int), ((1 : Int) + t1.1), ((1 : Int) + t2.1)] : (List Int)) t6).bind fun t7 => cond (decide (a.1 < (4 : Int))) ((atI t7 a.1).bind fun t8 => some (t8, t5.2)) ((atI t7 (1 : Int)).bind fun t9 => (m__law_pull (a.1 - (2 : Int)) t5.2).bind fun t10 => (mulO t9 (if (decide (t10.1 = (0 : Int))) then 1 else 0 : Int)).bind fun t11 => some (t11, t10.2))
abbrev sp__law_figure [Tb] (K : PySem.W.Frag) : Sp := spD (a__law_figure K) (m__law_figure) fun r => DD K (Dat.int r)
theorem ok__law_figure [Tb] {P : Program} {w : World} {K : PySem.W.Frag} {mg : Str → Option Value} {base : Heap} (T : Txt K mg) (O__law_pull : FnOk P w K mg base CX0 1 T.a__law_pull T.d__law_pull ["_law_store", "_law_many"] (sp__law_pull K)) : FnOk P w K mg base CX0 (2) T.a__law_figure T.d__law_figure ["_law_store", "_law_mode", "_law_size"] (sp__law_figure K) := by
  refine T.F__law_figure.ok sc__law_figure (fun vs H Q E h => ?_) (fun cdv A outer s0 H vs Q E hr h => ?_)
  · obtain ⟨G, M0, s, z, z1, a, r, ws, rfl, ok, hs, ⟨v_l_mode, _, rfl, h_l_mode, v_l_size, _, rfl, h_l_size, rfl⟩, hm, q⟩ := h
    rfl
  · obtain ⟨G, M0, s, z, z1, a, r, ws, rfl, ok, hs, ⟨v_l_mode, _, rfl, h_l_mode, v_l_size, _, rfl, h_l_size, rfl⟩, hm, q⟩ := h
    unfold m__law_figure at hm
    have sg := Same.refl G
    have hB : ∀ a u, a ≠ s → M0 a = some u → M0 a = some u := fun _ _ _ h => h
    refine ⟨_, (pss_cons (ps_set (i := 3) sc__law_figure.nd rfl (.inl rfl) (pe_lst (pa_cons pe_int (pa_cons (pe_op op_add pe_int (pe_call O__law_pull (hr.mono (by decide)) (by rfl) T.g__law_pull T.F__law_pull.kp T.b__law_pull .nil pass0 (pa_cons (pv 0) (pa_cons (pv 2) pa_nil)))) (pa_cons (pe_op op_add pe_int (pe_call O__law_pull (hr.mono (by decide)) (by rfl) T.g__law_pull T.F__law_pull.kp T.b__law_pull .nil pass0 (pa_cons (pv 0) (pa_cons pe_int pa_nil)))) pa_nil))))) (pss_cons (ps_expr (pe_bm PySem.F.plainAttrs_list PySem.F.slot_list_append PySem.F.type_list_append mt_append (pv 3) (pa_cons (pe_ix (ix_listK (K := K)) (pe_lst (pa_cons pe_int (pa_cons (pv 2) (pa_cons (pe_op op_mulO pe_int (pv 2)) (pa_cons (pe_op op_fdivO (pv 2) pe_int) pa_nil))))) (pe_call O__law_pull (hr.mono (by decide)) (by rfl) T.g__law_pull T.F__law_pull.kp T.b__law_pull .nil pass0 (pa_cons (pv 0) (pa_cons pe_int pa_nil))) (fun _ _ => rfl)) pa_nil))) (pss_cons (ps_if (pt_cmpR op_lt (pv 1) pe_int (nomark _)) (pss_cons (ps_ret (pe_ix (ix_listK (K := K)) (pv 3) (pv 1) (fun _ _ => rfl))) pss_nil) pss_nil) (pss_cons (ps_ret (pe_op op_mulO (pe_ix (ix_listK (K := K)) (pv 3) pe_int (fun _ _ => rfl)) (pe_callTy cl_int (by rfl) T.n_int (by decide +kernel) (pa_cons (pe_cmpR op_eq (pe_call O__law_pull (hr.mono (by decide)) (by rfl) T.g__law_pull T.F__law_pull.kp T.b__law_pull .nil pass0 (pa_cons (pv 0) (pa_cons (pe_op op_sub (pv 1) pe_int) pa_nil))) pe_int (nomark _)) pa_nil)))) pss_nil)))), ?_⟩
    cases h_l_mode
    cases h_l_size
    refine nrm (σ' := [some (.ref s), some (.int a.1), some (.int a.2), none]) rfl ?_
    obtain ⟨t1, e_t1, hm⟩ := bs hm
    obtain ⟨t2, e_t2, hm⟩ := bs hm
    refine q_setL (σ' := fun v => [some (.ref s), some (.int a.1), some (.int a.2), some v]) (el_lst (ea_consD (ev_int (K := K)) (ea_consD (ev_add (ev_int (K := K)) (ev_callD (a := a.2) (r := t1.1) (z' := t1.2) hs e_t1 (ea_cons mo_ow (ev_own rfl) (ea_d (ev_d (K := K) rfl (.int _)) ea_nil)))) (ea_consD (ev_add (ev_int (K := K)) (ev_callD (a := (99 : Int)) (r := t2.1) (z' := t2.2) upd_same e_t2 (ea_cons mo_ow (ev_own rfl) (ea_d (ev_int (K := K)) ea_nil)))) (ea_nilD (K := K)))))) ok (fun _ => rfl) (fun p_l_some vs_l_some G H s1 ok hn hd_l_some => ?_)
    have sg := sg.trans s1
    have n_l_store_l_some : s ≠ p_l_some := ne_of_none upd_same hn
    have n_l_some_l_store := n_l_store_l_some.symm
    have h0_l_some : M0 p_l_some = none := hB_none (M := (upd (upd M0 s (sto t1.2)) s (sto t2.2))) (hB_draw (hB_draw hB)) upd_same hn
    have hd_l_some : DqAll K G vs_l_some (([(1 : Int), ((1 : Int) + t1.1), ((1 : Int) + t2.1)] : (List Int)).map Dat.int) := hd_l_some
    have ok : Ok _ (upd (upd (upd M0 s (sto t1.2)) s (sto t2.2)) p_l_some (.lst vs_l_some)) _ := ok
    have hs : (upd (upd (upd M0 s (sto t1.2)) s (sto t2.2)) p_l_some (.lst vs_l_some)) s = some (sto t2.2) := (up_ne n_l_store_l_some upd_same)
    have hB : ∀ a u, a ≠ s → M0 a = some u → (upd (upd (upd M0 s (sto t1.2)) s (sto t2.2)) p_l_some (.lst vs_l_some)) a = some u := (hB_own (hB_draw (hB_draw hB)) h0_l_some)
    have hp_l_some : (upd (upd (upd M0 s (sto t1.2)) s (sto t2.2)) p_l_some (.lst vs_l_some)) p_l_some = some (.lst vs_l_some) := upd_same
    obtain ⟨M, eM⟩ : ∃ m, m = (upd (upd (upd M0 s (sto t1.2)) s (sto t2.2)) p_l_some (.lst vs_l_some)) := ⟨_, rfl⟩
    rw [← eM] at ok hs hB hp_l_some
    clear eM
    obtain ⟨t3, e_t3, hm⟩ := bs hm
    obtain ⟨t4, e_t4, hm⟩ := bs hm
    obtain ⟨t5, e_t5, hm⟩ := bs hm
    obtain ⟨t6, e_t6, hm⟩ := bs hm
    obtain ⟨t7, e_t7, hm⟩ := bs hm
    obtain ⟨hl_t7, ea_t7⟩ := appO_of e_t7
    refine q_append (ev_own rfl) (ea_d (ev_ixLM (e := Dat.int) e_t6 (EvL.ev (el_lst (ea_consD (ev_int (K := K)) (ea_consD (ev_d (K := K) rfl (.int _)) (ea_consD (ev_mulO e_t3 (ev_int (K := K)) (ev_d (K := K) rfl (.int _))) (ea_consD (ev_fdivO e_t4 (ev_d (K := K) rfl (.int _)) (ev_int (K := K))) (ea_nilD (K := K)))))))) (ev_callD (a := (4 : Int)) (r := t5.1) (z' := t5.2) hs e_t5 (ea_cons mo_ow (ev_own rfl) (ea_d (ev_int (K := K)) ea_nil)))) ea_nil) hp_l_some (up_ne n_l_some_l_store hp_l_some) (by rw [dpAll_len hd_l_some, List.length_map]; exact szlt hl_t7) ok (fun v G H s1 ok hv => ?_)
    have hd_l_some := dpAll_up s1 _ hd_l_some
    have sg := sg.trans s1
    have hd_l_some : DqAll K G (vs_l_some ++ [v]) (t7.map Dat.int) := by rw [ea_t7, List.map_append]; exact dpAll_app hd_l_some (.cons hv .nil)
    have ok : Ok _ (upd (upd M s (sto t5.2)) p_l_some (.lst (vs_l_some ++ [v]))) _ := ok
    have hs : (upd (upd M s (sto t5.2)) p_l_some (.lst (vs_l_some ++ [v]))) s = some (sto t5.2) := (up_ne n_l_store_l_some upd_same)
    have hB : ∀ a u, a ≠ s → M0 a = some u → (upd (upd M s (sto t5.2)) p_l_some (.lst (vs_l_some ++ [v]))) a = some u := (hB_own (hB_draw hB) h0_l_some)
    have hp_l_some : (upd (upd M s (sto t5.2)) p_l_some (.lst (vs_l_some ++ [v]))) p_l_some = some (.lst (vs_l_some ++ [v])) := upd_same
    obtain ⟨M, eM⟩ : ∃ m, m = (upd (upd M s (sto t5.2)) p_l_some (.lst (vs_l_some ++ [v]))) := ⟨_, rfl⟩
    rw [← eM] at ok hs hB hp_l_some
    clear eM
    obtain ⟨vs_l_some, e_vs⟩ : ∃ m, m = (vs_l_some ++ [v]) := ⟨_, rfl⟩
    rw [← e_vs] at hp_l_some hd_l_some
    clear e_vs
    refine q_if (et_test (ev_lt (ev_d (K := K) rfl (.int _)) (ev_int (K := K)))) ok (fun hb G H s1 ok => ?_) (fun hb G H s1 ok => ?_)
    · have hm := cond_t hb hm
      have hd_l_some := dpAll_up s1 _ hd_l_some
      have sg := sg.trans s1
      obtain ⟨t8, e_t8, hm⟩ := bs hm
      refine q_ret (ev_ixOM (e := Dat.int) e_t8 hp_l_some hd_l_some (ev_own rfl) (ev_d (K := K) rfl (.int _))) ok (fun v G H s1 ok hv => ?_)
      have sg := sg.trans s1
      cases hm
      exact q v G H sg (ok.less (same_fin hB hs)) hv
    · have hm := cond_f hb hm
      have hd_l_some := dpAll_up s1 _ hd_l_some
      have sg := sg.trans s1
      refine q_nilU ?_
      obtain ⟨t9, e_t9, hm⟩ := bs hm
      obtain ⟨t10, e_t10, hm⟩ := bs hm
      obtain ⟨t11, e_t11, hm⟩ := bs hm
      refine q_ret (ev_mulO e_t11 (ev_ixOM (e := Dat.int) e_t9 hp_l_some hd_l_some (ev_own rfl) (ev_int (K := K))) (ev_intB (ea_d (ev_eqI (ev_callD (a := (a.1 - (2 : Int))) (r := t10.1) (z' := t10.2) hs e_t10 (ea_cons mo_ow (ev_own rfl) (ea_d (ev_sub (ev_d (K := K) rfl (.int _)) (ev_int (K := K))) ea_nil))) (ev_int (K := K))) ea_nil))) ok (fun v G H s1 ok hv => ?_)
      have sg := sg.trans s1
      have ok : Ok _ (upd M s (sto t10.2)) _ := ok
      have hs : (upd M s (sto t10.2)) s = some (sto t10.2) := upd_same
      have hB : ∀ a u, a ≠ s → M0 a = some u → (upd M s (sto t10.2)) a = some u := (hB_draw hB)
      have hp_l_some : (upd M s (sto t10.2)) p_l_some = some (.lst vs_l_some) := (up_ne n_l_some_l_store hp_l_some)
      obtain ⟨M, eM⟩ : ∃ m, m = (upd M s (sto t10.2)) := ⟨_, rfl⟩
      rw [← eM] at ok hs hB hp_l_some
      clear eM
      cases hm
      exact q v G H sg (ok.less (same_fin hB hs)) hv
/-! ### _law_kit -/
theorem sc__law_kit : FnScope ["_law_store", "_law_upto", "_law_most", "_law_calls_here", "_law_alike", "_law_same", "_law_mode", "_law_sizes", "_law_found", "_law_call", "_law_k", "_law_figure_here"] ["_law_store", "_law_upto", "_law_most"] (defScope s__law_kit) := ⟨rfl, rfl, rfl, by decide +kernel, rfl, by decide +kernel, by decide +kernel⟩
def a__law_kit (K : PySem.W.Frag) (a : Int × Int) : List V → Hp → Prop := conP (DD K (Dat.int a.1)) (conP (DD K (Dat.int a.2)) (nilP))
def m__law_kit (a : Int × Int) (z : Sto) : Option (((List (Str × Int)) × (List (Str × Str × Int))) × Sto) :=
  (m__law_pull a.1 z).bind fun t1 => (m__law_calls ((1 : Int) + t1.1) t1.2).bind fun t2 => (m__law_pull (a.2 - (1 : Int)) t2.2).bind fun t3 => (m__law_pull (4 : Int) t3.2).bind fun t4 => (m__law_pull (6 : Int) t4.2).bind fun t5 => (lcS (fun (x6 : Str) (x6z : Sto) => (cond (decide (t4.1 = (0 : Int))) (some (((2 : Int) + t3.1), x6z)) ((m__law_pull (a.2 - (1 : Int)) x6z).bind fun t12 => some (((2 : Int) + t12.1), t12.2))).bind fun t13 => some (t13.1, t13.2)) t2.1 t5.2).bind fun t14 => (forO (fun (st16 : (List (Str × Str × Int)) × Sto) (x17 : Str) => (rngO (t2.1.length : Int)).bind fun t22 => (forO (fun (st24 : (List (Str × Str × Int)) × Sto) (x25 : Int) => (atI t14.1 x25).bind fun t30 => (m__law_figure (t5.1, t30) st24.2).bind fun t31 => (atI t2.1 x25).bind fun t32 => cond ((!decide (t32 = x17)) && (decide ((0 : Int) < t31.1))) ((atI t2.1 x25).bind fun t33 => (appO st24.1 (x17, t33, t31.1)).bind fun t34 => some (t34, t31.2)) (some (st24.1, t31.2))) t22 (st16.1, st16.2)).bind fun fin23 => some (fin23.1, fin23.2)) t2.1 (([] : (List (Str × Str × Int))), t14.2)).bind fun fin15 => (rngO (t2.1.length : Int)).bind fun t35 => (lcO (fun x36 : Int => (atI t2.1 x36).bind fun t42 => (atI t14.1 x36).bind fun t43 => some (t42, t43)) t35).bind fun t44 => some ((t44, fin15.1), fin15.2)
abbrev sp__law_kit [Tb] (K : PySem.W.Frag) : Sp := spD (a__law_kit K) (m__law_kit) fun r => DD K ((eP2 (eT (eP2 Dat.str Dat.int)) (eT (eP3 Dat.str Dat.str Dat.int))) r)
theorem ok__law_kit [Tb] {P : Program} {w : World} {K : PySem.W.Frag} {mg : Str → Option Value} {base : Heap} (T : Txt K mg) (O__law_calls : FnOk P w K mg base CX0 2 T.a__law_calls T.d__law_calls ["_law_store", "_law_many"] (sp__law_calls K)) (O__law_pull : FnOk P w K mg base CX0 1 T.a__law_pull T.d__law_pull ["_law_store", "_law_many"] (sp__law_pull K)) (O__law_figure : FnOk P w K mg base CX0 2 T.a__law_figure T.d__law_figure ["_law_store", "_law_mode", "_law_size"] (sp__law_figure K)) : FnOk P w K mg base CX0 (3) T.a__law_kit T.d__law_kit ["_law_store", "_law_upto", "_law_most"] (sp__law_kit K) := by
  refine T.F__law_kit.ok sc__law_kit (fun vs H Q E h => ?_) (fun cdv A outer s0 H vs Q E hr h => ?_)
  · obtain ⟨G, M0, s, z, z1, a, r, ws, rfl, ok, hs, ⟨v_l_upto, _, rfl, h_l_upto, v_l_most, _, rfl, h_l_most, rfl⟩, hm, q⟩ := h
    rfl
  · obtain ⟨G, M0, s, z, z1, a, r, ws, rfl, ok, hs, ⟨v_l_upto, _, rfl, h_l_upto, v_l_most, _, rfl, h_l_most, rfl⟩, hm, q⟩ := h
    unfold m__law_kit at hm
    have sg := Same.refl G
    have hB : ∀ a u, a ≠ s → M0 a = some u → M0 a = some u := fun _ _ _ h => h
    refine ⟨_, (pss_cons (ps_asg (pe_tup (pa_cons (pe_call O__law_calls (hr.mono (by decide)) (by rfl) T.g__law_calls T.F__law_calls.kp T.b__law_calls .nil pass0 (pa_cons (pv 0) (pa_cons (pe_op op_add pe_int (pe_call O__law_pull (hr.mono (by decide)) (by rfl) T.g__law_pull T.F__law_pull.kp T.b__law_pull .nil pass0 (pa_cons (pv 0) (pa_cons (pv 1) pa_nil)))) pa_nil))) (pa_cons (pe_op op_add pe_int (pe_call O__law_pull (hr.mono (by decide)) (by rfl) T.g__law_pull T.F__law_pull.kp T.b__law_pull .nil pass0 (pa_cons (pv 0) (pa_cons (pe_op op_sub (pv 2) pe_int) pa_nil)))) pa_nil))) (pg_tup rfl (pgs_cons (pg_name (i := 3) sc__law_kit.nd rfl (.inr rfl)) (pgs_cons (pg_name (i := 4) sc__law_kit.nd rfl (.inr rfl)) pgs_nil)))) (pss_cons (ps_asg (pe_tup (pa_cons (pe_cmpR op_eq (pe_call O__law_pull (hr.mono (by decide)) (by rfl) T.g__law_pull T.F__law_pull.kp T.b__law_pull .nil pass0 (pa_cons (pv 0) (pa_cons pe_int pa_nil))) pe_int (nomark _)) (pa_cons (pe_call O__law_pull (hr.mono (by decide)) (by rfl) T.g__law_pull T.F__law_pull.kp T.b__law_pull .nil pass0 (pa_cons (pv 0) (pa_cons pe_int pa_nil))) pa_nil))) (pg_tup rfl (pgs_cons (pg_name (i := 5) sc__law_kit.nd rfl (.inr rfl)) (pgs_cons (pg_name (i := 6) sc__law_kit.nd rfl (.inl rfl)) pgs_nil)))) (pss_cons (ps_set (i := 7) sc__law_kit.nd rfl (.inr rfl) (pe_lc (own := [("_law_call", 9)]) (g := (gName 9)) (tt := tYes) rfl sc__law_kit.nd (pi_listK (K := K) (pv 3)) (blkOk_by (own := [("_law_call", 9)]) (N := ["_law_store", "_law_upto", "_law_most", "_law_calls_here", "_law_alike", "_law_same", "_law_mode", "_law_sizes", "_law_found", "_law_call", "_law_k", "_law_figure_here"]) (sc := defScope s__law_kit) (by decide +kernel)) (fun _ _ _ _ _ => (pg_name (i := 9) sc__law_kit.nd rfl (by first | exact .inl rfl | exact .inr rfl))) (fun _ _ _ _ _ => pts_nil) (fun _ _ _ _ _ => (pe_ifExp (pt_val (pv 5)) (pv 4) (pe_op op_add pe_int (pe_call O__law_pull (hr.mono (by decide)) (by rfl) T.g__law_pull T.F__law_pull.kp T.b__law_pull .nil pass0 (pa_cons (pv 0) (pa_cons (pe_op op_sub (pv 2) pe_int) pa_nil)))))))) (pss_cons (ps_set (i := 8) sc__law_kit.nd rfl (.inl rfl) (pe_lst pa_nil)) (pss_cons (ps_for PassesOwn.never rfl (pi_listK (K := K) (pv 3)) (pg_name (i := 9) sc__law_kit.nd rfl (.inl rfl)) (pss_cons (ps_for PassesOwn.never rfl (pi_range1 (by rfl) T.n_range (pa_cons (pe_callB (cl_lenK (K := K)) (by rfl) T.n_len (by decide +kernel) (pa_cons (pv 3) pa_nil)) pa_nil)) (pg_name (i := 10) sc__law_kit.nd rfl (.inl rfl)) (pss_cons (ps_set (i := 11) sc__law_kit.nd rfl (.inl rfl) (pe_call O__law_figure (hr.mono (by decide)) (by rfl) T.g__law_figure T.F__law_figure.kp T.b__law_figure .nil pass0 (pa_cons (pv 0) (pa_cons (pv 6) (pa_cons (pe_ix (ix_listK (K := K)) (pv 7) (pv 10) (fun _ _ => rfl)) pa_nil))))) (pss_cons (ps_if (PW.pt (pw_and (pt_cmpR op_ne (pe_ix (ix_listK (K := K)) (pv 3) (pv 10) (fun _ _ => rfl)) (pv 9) (nomark _)) (pw_and1 (pt_cmpR op_gt (pv 11) pe_int (nomark _))))) (pss_cons (ps_expr (pe_bm PySem.F.plainAttrs_list PySem.F.slot_list_append PySem.F.type_list_append mt_append (pv 8) (pa_cons (pe_tupF (pa_cons (pv 9) (pa_cons (pe_ix (ix_listK (K := K)) (pv 3) (pv 10) (fun _ _ => rfl)) (pa_cons (pv 11) pa_nil)))) pa_nil))) pss_nil) pss_nil) pss_nil))) pss_nil)) (pss_cons (ps_ret (pe_tupF (pa_cons (pe_callTy (cl_tupleK (K := K)) (by rfl) T.n_tuple (by decide +kernel) (pa_cons (pe_lc (own := [("_law_k", 10)]) (g := (gName 10)) (tt := tYes) rfl sc__law_kit.nd (pi_range1 (by rfl) T.n_range (pa_cons (pe_callB (cl_lenK (K := K)) (by rfl) T.n_len (by decide +kernel) (pa_cons (pv 3) pa_nil)) pa_nil)) (blkOk_by (own := [("_law_k", 10)]) (N := ["_law_store", "_law_upto", "_law_most", "_law_calls_here", "_law_alike", "_law_same", "_law_mode", "_law_sizes", "_law_found", "_law_call", "_law_k", "_law_figure_here"]) (sc := defScope s__law_kit) (by decide +kernel)) (fun _ _ _ _ _ => (pg_name (i := 10) sc__law_kit.nd rfl (by first | exact .inl rfl | exact .inr rfl))) (fun _ _ _ _ _ => pts_nil) (fun _ _ _ _ _ => (pe_tupF (pa_cons (pe_ix (ix_listK (K := K)) (pv 3) (pv 10) (fun _ _ => rfl)) (pa_cons (pe_ix (ix_listK (K := K)) (pv 7) (pv 10) (fun _ _ => rfl)) pa_nil))))) pa_nil)) (pa_cons (pe_callTy (cl_tupleK (K := K)) (by rfl) T.n_tuple (by decide +kernel) (pa_cons (pv 8) pa_nil)) pa_nil)))) pss_nil)))))), ?_⟩
    cases h_l_upto
    cases h_l_most
    refine nrm (σ' := [some (.ref s), some (.int a.1), some (.int a.2), none, none, none, none, none, none, none, none, none]) rfl ?_
    obtain ⟨t1, e_t1, hm⟩ := bs hm
    obtain ⟨t2, e_t2, hm⟩ := bs hm
    obtain ⟨t3, e_t3, hm⟩ := bs hm
    refine q_tupDD (σ' := fun v w => [some (.ref s), some (.int a.1), some (.int a.2), some v, some w, none, none, none, none, none, none, none]) (ev_callD (a := ((1 : Int) + t1.1)) (r := t2.1) (z' := t2.2) upd_same e_t2 (ea_cons mo_ow (ev_own rfl) (ea_d (ev_add (ev_int (K := K)) (ev_callD (a := a.1) (r := t1.1) (z' := t1.2) hs e_t1 (ea_cons mo_ow (ev_own rfl) (ea_d (ev_d (K := K) rfl (.int _)) ea_nil)))) ea_nil))) mo_dd (ev_add (ev_int (K := K)) (ev_callD (a := (a.2 - (1 : Int))) (r := t3.1) (z' := t3.2) upd_same e_t3 (ea_cons mo_ow (ev_own rfl) (ea_d (ev_sub (ev_d (K := K) rfl (.int _)) (ev_int (K := K))) ea_nil)))) mo_dd ok (fun _ _ => rfl) (fun v_l_calls_here v_l_alike G H s1 ok h_l_calls_here h_l_alike => ?_)
    have sg := sg.trans s1
    cases h_l_alike
    have ok : Ok _ (upd (upd (upd M0 s (sto t1.2)) s (sto t2.2)) s (sto t3.2)) _ := ok
    have hs : (upd (upd (upd M0 s (sto t1.2)) s (sto t2.2)) s (sto t3.2)) s = some (sto t3.2) := upd_same
    have hB : ∀ a u, a ≠ s → M0 a = some u → (upd (upd (upd M0 s (sto t1.2)) s (sto t2.2)) s (sto t3.2)) a = some u := (hB_draw (hB_draw (hB_draw hB)))
    obtain ⟨M, eM⟩ : ∃ m, m = (upd (upd (upd M0 s (sto t1.2)) s (sto t2.2)) s (sto t3.2)) := ⟨_, rfl⟩
    rw [← eM] at ok hs hB
    clear eM
    obtain ⟨t4, e_t4, hm⟩ := bs hm
    obtain ⟨t5, e_t5, hm⟩ := bs hm
    refine q_tupDD (σ' := fun v w => [some (.ref s), some (.int a.1), some (.int a.2), some v_l_calls_here, some (.int ((2 : Int) + t3.1)), some v, some w, none, none, none, none, none]) (ev_eqI (ev_callD (a := (4 : Int)) (r := t4.1) (z' := t4.2) hs e_t4 (ea_cons mo_ow (ev_own rfl) (ea_d (ev_int (K := K)) ea_nil))) (ev_int (K := K))) mo_dd (ev_callD (a := (6 : Int)) (r := t5.1) (z' := t5.2) upd_same e_t5 (ea_cons mo_ow (ev_own rfl) (ea_d (ev_int (K := K)) ea_nil))) mo_dd ok (fun _ _ => rfl) (fun v_l_same v_l_mode G H s1 ok h_l_same h_l_mode => ?_)
    have h_l_calls_here := dp_up s1 _ h_l_calls_here
    have sg := sg.trans s1
    cases h_l_same
    cases h_l_mode
    have ok : Ok _ (upd (upd M s (sto t4.2)) s (sto t5.2)) _ := ok
    have hs : (upd (upd M s (sto t4.2)) s (sto t5.2)) s = some (sto t5.2) := upd_same
    have hB : ∀ a u, a ≠ s → M0 a = some u → (upd (upd M s (sto t4.2)) s (sto t5.2)) a = some u := (hB_draw (hB_draw hB))
    obtain ⟨M, eM⟩ : ∃ m, m = (upd (upd M s (sto t4.2)) s (sto t5.2)) := ⟨_, rfl⟩
    rw [← eM] at ok hs hB
    clear eM
    obtain ⟨t14, e_t14, hm⟩ := bs hm
    refine q_set (σ' := fun v => [some (.ref s), some (.int a.1), some (.int a.2), some v_l_calls_here, some (.int ((2 : Int) + t3.1)), some (.bl (decide (t4.1 = (0 : Int)))), some (.int t5.1), some v, none, none, none, none]) (EvL.ev (el_lcMD (ea := Dat.str) (eb := Dat.int) (xs := t2.1) (r := t14) (hf := e_t14) (src_list (ev_d (K := K) rfl h_l_calls_here)) hs (fun x6 _ x6z _ Mx10 _ _ he11 sM9 hzx6 sG8 hv7 => by (obtain ⟨t13, e_t13, he11⟩ := bs he11); cases he11; exact (tg_name ⟨rfl, (ev_if (P := DD K (Dat.int t13.1)) (et_B (ev_d (K := K) rfl (.bl _))) (fun eb => by have e1 := cond_t eb e_t13; cases e1; rw [upd_back hzx6]; exact (ev_d (K := K) rfl (.int _))) (fun eb => by have e1 := cond_f eb e_t13; (obtain ⟨t12, e_t12, e1⟩ := bs e1); cases e1; exact (ev_add (ev_int (K := K)) (ev_callD (a := (a.2 - (1 : Int))) (r := t12.1) (z' := t12.2) hzx6 e_t12 (ea_cons mo_ow (ev_own rfl) (ea_d (ev_sub (ev_d (K := K) rfl (.int _)) (ev_int (K := K))) ea_nil))))))⟩)))) ok (fun _ => rfl) (fun v_l_sizes G H s1 ok h_l_sizes => ?_)
    have h_l_calls_here := dp_up s1 _ h_l_calls_here
    have sg := sg.trans s1
    have ok : Ok _ (upd M s (sto t14.2)) _ := ok
    have hs : (upd M s (sto t14.2)) s = some (sto t14.2) := upd_same
    have hB : ∀ a u, a ≠ s → M0 a = some u → (upd M s (sto t14.2)) a = some u := (hB_draw hB)
    obtain ⟨M, eM⟩ : ∃ m, m = (upd M s (sto t14.2)) := ⟨_, rfl⟩
    rw [← eM] at ok hs hB
    clear eM
    refine q_setL (σ' := fun v => [some (.ref s), some (.int a.1), some (.int a.2), some v_l_calls_here, some (.int ((2 : Int) + t3.1)), some (.bl (decide (t4.1 = (0 : Int)))), some (.int t5.1), some v_l_sizes, some v, none, none, none]) (el_lst (ea_nilD (K := K))) ok (fun _ => rfl) (fun p_l_found vs_l_found G H s1 ok hn hd_l_found => ?_)
    have h_l_calls_here := dp_up s1 _ h_l_calls_here
    have h_l_sizes := dp_up s1 _ h_l_sizes
    have sg := sg.trans s1
    have n_l_store_l_found : s ≠ p_l_found := ne_of_none hs hn
    have n_l_found_l_store := n_l_store_l_found.symm
    have h0_l_found : M0 p_l_found = none := hB_none (M := M) hB hs hn
    have hd_l_found : DqAll K G vs_l_found (([] : (List (Str × Str × Int))).map (eP3 Dat.str Dat.str Dat.int)) := hd_l_found
    have ok : Ok _ (upd M p_l_found (.lst vs_l_found)) _ := ok
    have hs : (upd M p_l_found (.lst vs_l_found)) s = some (sto t14.2) := (up_ne n_l_store_l_found hs)
    have hB : ∀ a u, a ≠ s → M0 a = some u → (upd M p_l_found (.lst vs_l_found)) a = some u := (hB_own hB h0_l_found)
    have hp_l_found : (upd M p_l_found (.lst vs_l_found)) p_l_found = some (.lst vs_l_found) := upd_same
    obtain ⟨M, eM⟩ : ∃ m, m = (upd M p_l_found (.lst vs_l_found)) := ⟨_, rfl⟩
    rw [← eM] at ok hs hB hp_l_found
    clear eM
    obtain ⟨fin15, e_fin15, hm⟩ := bs hm
    have hmo18 := hm
    refine q_forO (ea := Dat.str) (src_list (ev_d (K := K) rfl h_l_calls_here)) ok (fun (st16 : (List (Str × Str × Int)) × Sto) σ1 G1 M1 => ∃ (y_l_k : Option V) (y_l_figure_here : Option V) (y_l_call : Option V) (vs_l_found : List V), σ1 = [some (.ref s), some (.int a.1), some (.int a.2), some v_l_calls_here, some (.int ((2 : Int) + t3.1)), some (.bl (decide (t4.1 = (0 : Int)))), some (.int t5.1), some v_l_sizes, some (.ref p_l_found), y_l_call, y_l_k, y_l_figure_here] ∧ (DqAll K G1 vs_l_found (st16.1.map (eP3 Dat.str Dat.str Dat.int))) ∧ (M1 p_l_found = some (.lst vs_l_found)) ∧ (M1 s = some (sto st16.2)) ∧ (∀ a u, a ≠ s → M0 a = some u → M1 a = some u)) e_fin15 (fun G1 s1 => ⟨_, _, _, _, rfl, dpAll_up s1 _ hd_l_found, hp_l_found, hs, hB⟩) (by rintro _ _ _ _ _ ⟨y_l_k, y_l_figure_here, y_l_call, vs_l_found, rfl, hd_l_found, hp_l_found, hs, hB⟩ s2; exact ⟨_, _, _, _, rfl, dpAll_up s2 _ hd_l_found, hp_l_found, hs, hB⟩) (fun x17 xv20 st16 st' σ1 G M H N hm hj s1 ok hv hN => ?_) (fun σ1 G M H s1 ok hj => ?_)
    · obtain ⟨y_l_k, y_l_figure_here, y_l_call, vs_l_found, rfl, hd_l_found, hp_l_found, hs, hB⟩ := hj
      have h_l_calls_here := dp_up s1 _ h_l_calls_here
      have h_l_sizes := dp_up s1 _ h_l_sizes
      have sg := sg.trans s1
      have sl21 := Same.refl G
      refine gn ?_
      have h_l_call := hv
      refine nrm (σ' := [some (.ref s), some (.int a.1), some (.int a.2), some v_l_calls_here, some (.int ((2 : Int) + t3.1)), some (.bl (decide (t4.1 = (0 : Int)))), some (.int t5.1), some v_l_sizes, some (.ref p_l_found), some xv20, y_l_k, y_l_figure_here]) rfl ?_
      obtain ⟨t22, e_t22, hm⟩ := bs hm
      obtain ⟨fin23, e_fin23, hm⟩ := bs hm
      have hmo26 := hm
      refine q_forO (ea := Dat.int) (src_rngO e_t22 (ea_d (ev_lenLM (e := Dat.str) (ea_d (ev_d (K := K) rfl h_l_calls_here) ea_nil)) ea_nil)) ok (fun (st24 : (List (Str × Str × Int)) × Sto) σ1 G1 M1 => ∃ (y_l_figure_here : Option V) (y_l_k : Option V) (vs_l_found : List V), σ1 = [some (.ref s), some (.int a.1), some (.int a.2), some v_l_calls_here, some (.int ((2 : Int) + t3.1)), some (.bl (decide (t4.1 = (0 : Int)))), some (.int t5.1), some v_l_sizes, some (.ref p_l_found), some xv20, y_l_k, y_l_figure_here] ∧ (DqAll K G1 vs_l_found (st24.1.map (eP3 Dat.str Dat.str Dat.int))) ∧ (M1 p_l_found = some (.lst vs_l_found)) ∧ (M1 s = some (sto st24.2)) ∧ (∀ a u, a ≠ s → M0 a = some u → M1 a = some u)) e_fin23 (fun G1 s1 => ⟨_, _, _, rfl, dpAll_up s1 _ hd_l_found, hp_l_found, hs, hB⟩) (by rintro _ _ _ _ _ ⟨y_l_figure_here, y_l_k, vs_l_found, rfl, hd_l_found, hp_l_found, hs, hB⟩ s2; exact ⟨_, _, _, rfl, dpAll_up s2 _ hd_l_found, hp_l_found, hs, hB⟩) (fun x25 xv28 st24 st' σ1 G M H N hm hj s1 ok hv hN => ?_) (fun σ1 G M H s1 ok hj => ?_)
      · obtain ⟨y_l_figure_here, y_l_k, vs_l_found, rfl, hd_l_found, hp_l_found, hs, hB⟩ := hj
        have h_l_calls_here := dp_up s1 _ h_l_calls_here
        have h_l_sizes := dp_up s1 _ h_l_sizes
        have h_l_call := dp_up s1 _ h_l_call
        have sg := sg.trans s1
        have sl21 := sl21.trans s1
        have sl29 := Same.refl G
        refine gn ?_
        have h_l_k := hv
        cases h_l_k
        refine nrm (σ' := [some (.ref s), some (.int a.1), some (.int a.2), some v_l_calls_here, some (.int ((2 : Int) + t3.1)), some (.bl (decide (t4.1 = (0 : Int)))), some (.int t5.1), some v_l_sizes, some (.ref p_l_found), some xv20, some (.int x25), y_l_figure_here]) rfl ?_
        obtain ⟨t30, e_t30, hm⟩ := bs hm
        obtain ⟨t31, e_t31, hm⟩ := bs hm
        refine q_set (σ' := fun v => [some (.ref s), some (.int a.1), some (.int a.2), some v_l_calls_here, some (.int ((2 : Int) + t3.1)), some (.bl (decide (t4.1 = (0 : Int)))), some (.int t5.1), some v_l_sizes, some (.ref p_l_found), some xv20, some (.int x25), some v]) (ev_callD (a := (t5.1, t30)) (r := t31.1) (z' := t31.2) hs e_t31 (ea_cons mo_ow (ev_own rfl) (ea_d (ev_d (K := K) rfl (.int _)) (ea_d (ev_ixLM (e := Dat.int) e_t30 (ev_d (K := K) rfl h_l_sizes) (ev_d (K := K) rfl (.int _))) ea_nil)))) ok (fun _ => rfl) (fun v_l_figure_here G H s1 ok h_l_figure_here => ?_)
        have h_l_calls_here := dp_up s1 _ h_l_calls_here
        have h_l_sizes := dp_up s1 _ h_l_sizes
        have hd_l_found := dpAll_up s1 _ hd_l_found
        have h_l_call := dp_up s1 _ h_l_call
        have sg := sg.trans s1
        have sl29 := sl29.trans s1
        have sl21 := sl21.trans s1
        cases h_l_figure_here
        have ok : Ok _ (upd M s (sto t31.2)) _ := ok
        have hs : (upd M s (sto t31.2)) s = some (sto t31.2) := upd_same
        have hB : ∀ a u, a ≠ s → M0 a = some u → (upd M s (sto t31.2)) a = some u := (hB_draw hB)
        have hp_l_found : (upd M s (sto t31.2)) p_l_found = some (.lst vs_l_found) := (up_ne n_l_found_l_store hp_l_found)
        obtain ⟨M, eM⟩ : ∃ m, m = (upd M s (sto t31.2)) := ⟨_, rfl⟩
        rw [← eM] at ok hs hB hp_l_found
        clear eM
        obtain ⟨t32, e_t32, hm⟩ := bs hm
        refine q_if (et_and (et_test (ev_neS (ev_ixLM (e := Dat.str) e_t32 (ev_d (K := K) rfl h_l_calls_here) (ev_d (K := K) rfl (.int _))) (ev_d (K := K) rfl h_l_call))) fun _ => (et_test (ev_gt (ev_d (K := K) rfl (.int _)) (ev_int (K := K))))) ok (fun hb G H s1 ok => ?_) (fun hb G H s1 ok => ?_)
        · have hm := cond_t hb hm
          have h_l_calls_here := dp_up s1 _ h_l_calls_here
          have h_l_sizes := dp_up s1 _ h_l_sizes
          have hd_l_found := dpAll_up s1 _ hd_l_found
          have h_l_call := dp_up s1 _ h_l_call
          have sg := sg.trans s1
          have sl29 := sl29.trans s1
          have sl21 := sl21.trans s1
          obtain ⟨t33, e_t33, hm⟩ := bs hm
          obtain ⟨t34, e_t34, hm⟩ := bs hm
          obtain ⟨hl_t34, ea_t34⟩ := appO_of e_t34
          refine q_append (ev_own rfl) (ea_d (ev_tup (ea_consD (ev_d (K := K) rfl h_l_call) (ea_consD (ev_ixLM (e := Dat.str) e_t33 (ev_d (K := K) rfl h_l_calls_here) (ev_d (K := K) rfl (.int _))) (ea_consD (ev_d (K := K) rfl (.int _)) (ea_nilD (K := K)))))) ea_nil) hp_l_found hp_l_found (by rw [dpAll_len hd_l_found, List.length_map]; exact szlt hl_t34) ok (fun v G H s1 ok hv => ?_)
          have h_l_calls_here := dp_up s1 _ h_l_calls_here
          have h_l_sizes := dp_up s1 _ h_l_sizes
          have hd_l_found := dpAll_up s1 _ hd_l_found
          have h_l_call := dp_up s1 _ h_l_call
          have sg := sg.trans s1
          have sl29 := sl29.trans s1
          have sl21 := sl21.trans s1
          have hd_l_found : DqAll K G (vs_l_found ++ [v]) (t34.map (eP3 Dat.str Dat.str Dat.int)) := by rw [ea_t34, List.map_append]; exact dpAll_app hd_l_found (.cons hv .nil)
          have ok : Ok _ (upd M p_l_found (.lst (vs_l_found ++ [v]))) _ := ok
          have hs : (upd M p_l_found (.lst (vs_l_found ++ [v]))) s = some (sto t31.2) := (up_ne n_l_store_l_found hs)
          have hB : ∀ a u, a ≠ s → M0 a = some u → (upd M p_l_found (.lst (vs_l_found ++ [v]))) a = some u := (hB_own hB h0_l_found)
          have hp_l_found : (upd M p_l_found (.lst (vs_l_found ++ [v]))) p_l_found = some (.lst (vs_l_found ++ [v])) := upd_same
          obtain ⟨M, eM⟩ : ∃ m, m = (upd M p_l_found (.lst (vs_l_found ++ [v]))) := ⟨_, rfl⟩
          rw [← eM] at ok hs hB hp_l_found
          clear eM
          obtain ⟨vs_l_found, e_vs⟩ : ∃ m, m = (vs_l_found ++ [v]) := ⟨_, rfl⟩
          rw [← e_vs] at hp_l_found hd_l_found
          clear e_vs
          refine q_nilU ?_
          refine q_nil ?_
          cases hm
          exact hN _ _ _ _ sl29 ok ⟨_, _, _, rfl, hd_l_found, hp_l_found, hs, hB⟩
        · have hm := cond_f hb hm
          have h_l_calls_here := dp_up s1 _ h_l_calls_here
          have h_l_sizes := dp_up s1 _ h_l_sizes
          have hd_l_found := dpAll_up s1 _ hd_l_found
          have h_l_call := dp_up s1 _ h_l_call
          have sg := sg.trans s1
          have sl29 := sl29.trans s1
          have sl21 := sl21.trans s1
          refine q_nilU ?_
          refine q_nil ?_
          cases hm
          exact hN _ _ _ _ sl29 ok ⟨_, _, _, rfl, hd_l_found, hp_l_found, hs, hB⟩
      · obtain ⟨y_l_figure_here, y_l_k, vs_l_found, rfl, hd_l_found, hp_l_found, hs, hB⟩ := hj
        have h_l_calls_here := dp_up s1 _ h_l_calls_here
        have h_l_sizes := dp_up s1 _ h_l_sizes
        have h_l_call := dp_up s1 _ h_l_call
        have sg := sg.trans s1
        have sl21 := sl21.trans s1
        refine q_nil ?_
        cases hm
        exact hN _ _ _ _ sl21 ok ⟨_, _, _, _, rfl, hd_l_found, hp_l_found, hs, hB⟩
    · obtain ⟨y_l_k, y_l_figure_here, y_l_call, vs_l_found, rfl, hd_l_found, hp_l_found, hs, hB⟩ := hj
      have h_l_calls_here := dp_up s1 _ h_l_calls_here
      have h_l_sizes := dp_up s1 _ h_l_sizes
      have sg := sg.trans s1
      obtain ⟨t35, e_t35, hm⟩ := bs hm
      obtain ⟨t44, e_t44, hm⟩ := bs hm
      refine q_ret (ev_tup (ea_consD (ev_tupL (ea_d (EvL.ev (el_lcM (ea := Dat.int) (eb := (eP2 Dat.str Dat.int)) (xs := t35) (ys := t44) (hf := e_t44) (src_rngO e_t35 (ea_d (ev_lenLM (e := Dat.str) (ea_d (ev_d (K := K) rfl h_l_calls_here) ea_nil)) ea_nil)) (fun x36 _ Mx40 _ _ he41 sM39 sG38 hv37 => by (obtain ⟨t42, e_t42, he41⟩ := bs he41); (obtain ⟨t43, e_t43, he41⟩ := bs he41); cases he41; exact (tg_name ⟨rfl, (ev_tup (ea_consD (ev_ixLM (e := Dat.str) e_t42 (ev_d (K := K) rfl (dp_up sG38 _ h_l_calls_here)) (ev_d (K := K) rfl hv37)) (ea_consD (ev_ixLM (e := Dat.int) e_t43 (ev_d (K := K) rfl (dp_up sG38 _ h_l_sizes)) (ev_d (K := K) rfl hv37)) (ea_nilD (K := K)))))⟩)))) ea_nil)) (ea_consD (ev_tupO hp_l_found hd_l_found (ea_cons mo_ow (ev_own rfl) ea_nil)) (ea_nilD (K := K))))) ok (fun v G H s1 ok hv => ?_)
      have sg := sg.trans s1
      cases hm
      exact q v G H sg (ok.less (same_fin hB hs)) hv
/-! ### _law_far -/
theorem sc__law_far : FnScope ["_law_calls_here", "_law_word"] ["_law_calls_here"] (defScope s__law_far) := ⟨rfl, rfl, rfl, by decide +kernel, rfl, by decide +kernel, by decide +kernel⟩
def a__law_far (K : PySem.W.Frag) (a : (List Str)) : List V → Hp → Prop := conP (DD K ((eL Dat.str) a)) (nilP)
def m__law_far (a : (List Str)) : Option Str :=
  (lcF (fun x1 : Str => cond (!memB x1 a) (some (some x1)) (some none)) ([(Str.ofString "zzzzzz"), (Str.ofString "yyyyyy"), (Str.ofString "xxxxxx"), (Str.ofString "q"), (Str.ofString "qq"), (Str.ofString "wq"), (Str.ofString "vq"), (Str.ofString "uq"), (Str.ofString "tq")] : (List Str))).bind fun t7 => (atI t7 (0 : Int)).bind fun t8 => some t8
abbrev sp__law_far [Tb] (K : PySem.W.Frag) : Sp := spP (a__law_far K) (m__law_far) fun r => DD K (Dat.str r)
theorem ok__law_far [Tb] {P : Program} {w : World} {K : PySem.W.Frag} {mg : Str → Option Value} {base : Heap} (T : Txt K mg) : FnOk P w K mg base CX0 (1) T.a__law_far T.d__law_far ["_law_calls_here"] (sp__law_far K) := by
  refine T.F__law_far.ok sc__law_far (fun vs H Q E h => ?_) (fun cdv A outer s0 H vs Q E hr h => ?_)
  · obtain ⟨G, M0, a, r, ok, ⟨v_l_calls_here, _, rfl, h_l_calls_here, rfl⟩, hm, q⟩ := h
    rfl
  · obtain ⟨G, M0, a, r, ok, ⟨v_l_calls_here, _, rfl, h_l_calls_here, rfl⟩, hm, q⟩ := h
    unfold m__law_far at hm
    have sg := Same.refl G
    have hB := Same.refl M0
    refine ⟨_, (pss_cons (ps_ret (pe_ix (ix_listK (K := K)) (pe_lc (own := [("_law_word", 1)]) (g := (gName 1)) rfl sc__law_far.nd (pi_listK (K := K) (pe_lst (pa_cons pe_str (pa_cons pe_str (pa_cons pe_str (pa_cons pe_str (pa_cons pe_str (pa_cons pe_str (pa_cons pe_str (pa_cons pe_str (pa_cons pe_str pa_nil))))))))))) (blkOk_by (own := [("_law_word", 1)]) (N := ["_law_calls_here", "_law_word"]) (sc := defScope s__law_far) (by decide +kernel)) (fun _ _ _ _ _ => (pg_name (i := 1) sc__law_far.nd rfl (by first | exact .inl rfl | exact .inr rfl))) (fun _ _ _ _ _ => (pts_one (pt_cmpR (op_notInSK (K := K)) (pv 1) (pv 0) (by rfl)))) (fun _ _ _ _ _ => (pv 1))) pe_int (fun _ _ => rfl))) pss_nil), ?_⟩
    refine nrm (σ' := [some v_l_calls_here, none]) rfl ?_
    obtain ⟨t7, e_t7, hm⟩ := bs hm
    obtain ⟨t8, e_t8, hm⟩ := bs hm
    refine q_ret (ev_ixLM (e := Dat.str) e_t8 (EvL.ev (el_lcMF (ea := Dat.str) (eb := Dat.str) (xs := ([(Str.ofString "zzzzzz"), (Str.ofString "yyyyyy"), (Str.ofString "xxxxxx"), (Str.ofString "q"), (Str.ofString "qq"), (Str.ofString "wq"), (Str.ofString "vq"), (Str.ofString "uq"), (Str.ofString "tq")] : (List Str))) (ys := t7) (hf := e_t7) (src_list (EvL.ev (el_lst (ea_consD (ev_str (K := K) (by decide +kernel)) (ea_consD (ev_str (K := K) (by decide +kernel)) (ea_consD (ev_str (K := K) (by decide +kernel)) (ea_consD (ev_str (K := K) (by decide +kernel)) (ea_consD (ev_str (K := K) (by decide +kernel)) (ea_consD (ev_str (K := K) (by decide +kernel)) (ea_consD (ev_str (K := K) (by decide +kernel)) (ea_consD (ev_str (K := K) (by decide +kernel)) (ea_consD (ev_str (K := K) (by decide +kernel)) (ea_nilD (K := K)))))))))))))) (fun x1 _ Mx5 _ _ he6 sM4 sG3 hv2 => by exact (tg_name ⟨rfl, lcb_if (et_test (ev_notInS (k := false) (xs := a) (ev_d (K := K) rfl hv2) (ev_d (K := K) rfl (dp_up sG3 _ h_l_calls_here)))) (fun eb => by have e1 := cond_t eb he6; cases e1; exact ⟨_, rfl, (ev_d (K := K) rfl hv2)⟩) (fun eb => by have e1 := cond_f eb he6; cases e1; exact ⟨rfl, rfl⟩)⟩)))) (ev_int (K := K))) ok (fun v G H s1 ok hv => ?_)
    have sg := sg.trans s1
    cases hm
    exact q v G H sg (ok.less hB) hv
/-! ### _law_text -/
theorem sc__law_text : FnScope ["_law_ringers", "_law_teeth", "_law_rows", "_law_call", "_law_size", "_law_mate", "_law_figure_here"] ["_law_ringers", "_law_teeth"] (defScope s__law_text) := ⟨rfl, rfl, rfl, by decide +kernel, rfl, by decide +kernel, by decide +kernel⟩
def a__law_text (K : PySem.W.Frag) (a : (List (Str × Int)) × (List (Str × Str × Int))) : List V → Hp → Prop := conP (DD K ((eT (eP2 Dat.str Dat.int)) a.1)) (conP (DD K ((eT (eP3 Dat.str Dat.str Dat.int)) a.2)) (nilP))
def m__law_text (a : (List (Str × Int)) × (List (Str × Str × Int))) : Option Str :=
  (lcO (fun x1 : (Str × Int) => (addS (Str.ofString "bell ") x1.1).bind fun t9 => (addS t9 (Str.ofString " ")).bind fun t10 => (strIO x1.2).bind fun t11 => (addS t10 t11).bind fun t12 => some t12) a.1).bind fun t13 => (lcO (fun x14 : (Str × Str × Int) => (addS x14.1 (Str.ofString " turns ")).bind fun t23 => (addS t23 x14.2.1).bind fun t24 => (addS t24 (Str.ofString " ")).bind fun t25 => (strIO x14.2.2).bind fun t26 => (addS t25 t26).bind fun t27 => some t27) a.2).bind fun t28 => (catO t13 t28).bind fun t29 => (joinO (Str.ofString "
") t29).bind fun t30 => some t30
abbrev sp__law_text [Tb] (K : PySem.W.Frag) : Sp := spP (a__law_text K) (m__law_text) fun r => DD K (Dat.str r)
theorem ok__law_text [Tb] {P : Program} {w : World} {K : PySem.W.Frag} {mg : Str → Option Value} {base : Heap} (T : Txt K mg) : FnOk P w K mg base CX0 (1) T.a__law_text T.d__law_text ["_law_ringers", "_law_teeth"] (sp__law_text K) := by
  refine T.F__law_text.ok sc__law_text (fun vs H Q E h => ?_) (fun cdv A outer s0 H vs Q E hr h => ?_)
  · obtain ⟨G, M0, a, r, ok, ⟨v_l_ringers, _, rfl, h_l_ringers, v_l_teeth, _, rfl, h_l_teeth, rfl⟩, hm, q⟩ := h
    rfl
  · obtain ⟨G, M0, a, r, ok, ⟨v_l_ringers, _, rfl, h_l_ringers, v_l_teeth, _, rfl, h_l_teeth, rfl⟩, hm, q⟩ := h
    unfold m__law_text at hm
    have sg := Same.refl G
    have hB := Same.refl M0
    refine ⟨_, (pss_cons (ps_setLc (i := 2) (own := [("_law_call", 3), ("_law_size", 4)]) (g := (gTup K 2 (gCons (gName 3) (gCons (gName 4) gNil)))) (tt := tYes) rfl sc__law_text.nd rfl rfl (sw_true rfl rfl rfl (by decide +kernel)) (pi_tupK (K := K) (pv 0)) (blkOk_by (own := [("_law_call", 3), ("_law_size", 4)]) (N := ["_law_ringers", "_law_teeth", "_law_rows", "_law_call", "_law_size", "_law_mate", "_law_figure_here"]) (sc := defScope s__law_text) (by decide +kernel)) (fun _ _ _ _ _ => (pg_tup rfl (pgs_cons (pg_name (i := 3) sc__law_text.nd rfl (by first | exact .inl rfl | exact .inr rfl)) (pgs_cons (pg_name (i := 4) sc__law_text.nd rfl (by first | exact .inl rfl | exact .inr rfl)) pgs_nil)))) (fun _ _ _ _ _ => pts_nil) (fun _ _ _ _ _ => (pe_op op_add_str (pe_op op_add_str (pe_op op_add_str pe_str (pv 3)) pe_str) (pe_callTy call_str_int (by rfl) T.n_str (by decide +kernel) (pa_cons (pv 4) pa_nil))))) (pss_cons (ps_ret (pe_m1 PySem.F.slot_str_join PySem.F.type_str_join (mt_joinK (K := K) rfl) pe_str (pe_op op_cat (pv 2) (pe_lc (own := [("_law_call", 3), ("_law_mate", 5), ("_law_figure_here", 6)]) (g := (gTup K 3 (gCons (gName 3) (gCons (gName 5) (gCons (gName 6) gNil))))) (tt := tYes) rfl sc__law_text.nd (pi_tupK (K := K) (pv 1)) (blkOk_by (own := [("_law_call", 3), ("_law_mate", 5), ("_law_figure_here", 6)]) (N := ["_law_ringers", "_law_teeth", "_law_rows", "_law_call", "_law_size", "_law_mate", "_law_figure_here"]) (sc := defScope s__law_text) (by decide +kernel)) (fun _ _ _ _ _ => (pg_tup rfl (pgs_cons (pg_name (i := 3) sc__law_text.nd rfl (by first | exact .inl rfl | exact .inr rfl)) (pgs_cons (pg_name (i := 5) sc__law_text.nd rfl (by first | exact .inl rfl | exact .inr rfl)) (pgs_cons (pg_name (i := 6) sc__law_text.nd rfl (by first | exact .inl rfl | exact .inr rfl)) pgs_nil))))) (fun _ _ _ _ _ => pts_nil) (fun _ _ _ _ _ => (pe_op op_add_str (pe_op op_add_str (pe_op op_add_str (pe_op op_add_str (pv 3) pe_str) (pv 5)) pe_str) (pe_callTy call_str_int (by rfl) T.n_str (by decide +kernel) (pa_cons (pv 6) pa_nil)))))))) pss_nil)), ?_⟩
    refine nrm (σ' := [some v_l_ringers, some v_l_teeth, none, none, none, none, none]) rfl ?_
    obtain ⟨t13, e_t13, hm⟩ := bs hm
    refine q_set (σ' := fun v => [some v_l_ringers, some v_l_teeth, some v, none, none, none, none]) (EvL.ev (el_lcM (ea := (eP2 Dat.str Dat.int)) (eb := Dat.str) (xs := a.1) (ys := t13) (hf := e_t13) (src_tup (ev_d (K := K) rfl h_l_ringers)) (fun x1 _ Mx5 _ _ he6 sM4 sG3 hv2 => by (obtain ⟨t9, e_t9, he6⟩ := bs he6); (obtain ⟨t10, e_t10, he6⟩ := bs he6); (obtain ⟨t11, e_t11, he6⟩ := bs he6); (obtain ⟨t12, e_t12, he6⟩ := bs he6); (have he6 := Option.some.inj he6); subst he6; exact (tg_t2 hv2 fun _ _ h7 h8 => (tg_name (tg_name ⟨rfl, (ev_addS e_t12 (ev_addS e_t10 (ev_addS e_t9 (ev_str (K := K) (by decide +kernel)) (ev_d (K := K) rfl h7)) (ev_str (K := K) (by decide +kernel))) (ev_strI e_t11 (ea_d (ev_d (K := K) rfl h8) ea_nil)))⟩)))))) ok (fun _ => rfl) (fun v_l_rows G H s1 ok h_l_rows => ?_)
    have h_l_ringers := dp_up s1 _ h_l_ringers
    have h_l_teeth := dp_up s1 _ h_l_teeth
    have sg := sg.trans s1
    obtain ⟨t28, e_t28, hm⟩ := bs hm
    obtain ⟨t29, e_t29, hm⟩ := bs hm
    obtain ⟨t30, e_t30, hm⟩ := bs hm
    refine q_ret (ev_joinL e_t30 (ev_str (K := K) (by decide +kernel)) (EvL.ev (el_catO (e := Dat.str) e_t29 (ev_d (K := K) rfl h_l_rows) (EvL.ev (el_lcM (ea := (eP3 Dat.str Dat.str Dat.int)) (eb := Dat.str) (xs := a.2) (ys := t28) (hf := e_t28) (src_tup (ev_d (K := K) rfl h_l_teeth)) (fun x14 _ Mx18 _ _ he19 sM17 sG16 hv15 => by (obtain ⟨t23, e_t23, he19⟩ := bs he19); (obtain ⟨t24, e_t24, he19⟩ := bs he19); (obtain ⟨t25, e_t25, he19⟩ := bs he19); (obtain ⟨t26, e_t26, he19⟩ := bs he19); (obtain ⟨t27, e_t27, he19⟩ := bs he19); (have he19 := Option.some.inj he19); subst he19; exact (tg_t3 hv15 fun _ _ _ h20 h21 h22 => (tg_name (tg_name (tg_name ⟨rfl, (ev_addS e_t27 (ev_addS e_t25 (ev_addS e_t24 (ev_addS e_t23 (ev_d (K := K) rfl h20) (ev_str (K := K) (by decide +kernel))) (ev_d (K := K) rfl h21)) (ev_str (K := K) (by decide +kernel))) (ev_strI e_t26 (ea_d (ev_d (K := K) rfl h22) ea_nil)))⟩)))))))))) ok (fun v G H s1 ok hv => ?_)
    have sg := sg.trans s1
    cases hm
    exact q v G H sg (ok.less hB) hv
/-! ### _law_is -/
theorem sc__law_is : FnScope ["_law_found", "_law_due"] ["_law_found", "_law_due"] (defScope s__law_is) := ⟨rfl, rfl, rfl, by decide +kernel, rfl, by decide +kernel, by decide +kernel⟩
def a__law_is (K : PySem.W.Frag) (a : Bool × Bool) : List V → Hp → Prop := conP (DD K (Dat.bool a.1)) (conP (DD K (Dat.bool a.2)) (nilP))
def m__law_is (a : Bool × Bool) : Option Bool :=
  some (true && (decide (a.1 = a.2)))
abbrev sp__law_is [Tb] (K : PySem.W.Frag) : Sp := spP (a__law_is K) (m__law_is) fun r => DD K (Dat.bool r)
theorem ok__law_is [Tb] {P : Program} {w : World} {K : PySem.W.Frag} {mg : Str → Option Value} {base : Heap} (T : Txt K mg) : FnOk P w K mg base CX0 (1) T.a__law_is T.d__law_is ["_law_found", "_law_due"] (sp__law_is K) := by
  refine T.F__law_is.ok sc__law_is (fun vs H Q E h => ?_) (fun cdv A outer s0 H vs Q E hr h => ?_)
  · obtain ⟨G, M0, a, r, ok, ⟨v_l_found, _, rfl, h_l_found, v_l_due, _, rfl, h_l_due, rfl⟩, hm, q⟩ := h
    rfl
  · obtain ⟨G, M0, a, r, ok, ⟨v_l_found, _, rfl, h_l_found, v_l_due, _, rfl, h_l_due, rfl⟩, hm, q⟩ := h
    unfold m__law_is at hm
    have sg := Same.refl G
    have hB := Same.refl M0
    refine ⟨_, (pss_cons (ps_ret (pe_and (pe_callB (call_isiKK (K := K)) (by rfl) T.n_isinstance (by decide +kernel) (pa_cons (pv 0) (pa_cons (pe_bltn (v := .ty "bool") (by rfl) T.n_bool (by decide +kernel) rfl) pa_nil))) (pe_one (pe_cmpR (op_eqDK (K := K) hr.units) (pv 0) (pv 1) (nomark _))))) pss_nil), ?_⟩
    cases h_l_found
    cases h_l_due
    refine nrm (σ' := [some (.bl a.1), some (.bl a.2)]) rfl ?_
    refine q_ret (ev_and (ev_isi (d := Dat.bool a.1) (n := "bool") (b := true) rfl (show kitB "bool" "bool" = some true by decide +kernel) (ea_d (ev_d (K := K) rfl (.bl _)) (ea_cons mo_cls ev_cls ea_nil))) fun _ => (ev_eqE (e := Dat.bool) (x := a.1) (y := a.2) eqe_bool (by decide) (ev_d (K := K) rfl (.bl _)) (ev_d (K := K) rfl (.bl _)))) ok (fun v G H s1 ok hv => ?_)
    have sg := sg.trans s1
    cases hm
    exact q v G H sg (ok.less hB) hv
/-! ### _law_both -/
theorem sc__law_both : FnScope ["_law_one_here", "_law_mate", "_law_due", "_law_some"] ["_law_one_here", "_law_mate", "_law_due"] (defScope s__law_both) := ⟨rfl, rfl, rfl, by decide +kernel, rfl, by decide +kernel, by decide +kernel⟩
def a__law_both (K : PySem.W.Frag) (a : ((List (Str × Int)) × (List (Str × Str × Int)) × (List (Str × Int)) × (List ((Str × Str) × Int))) × ((List (Str × Int)) × (List (Str × Str × Int)) × (List (Str × Int)) × (List ((Str × Str) × Int))) × Bool) : List V → Hp → Prop := conP (DD K (eX_Peal a.1)) (conP (DD K (eX_Peal a.2.1)) (conP (DD K (Dat.bool a.2.2)) (nilP)))
def m__law_both (a : ((List (Str × Int)) × (List (Str × Str × Int)) × (List (Str × Int)) × (List ((Str × Str) × Int))) × ((List (Str × Int)) × (List (Str × Str × Int)) × (List (Str × Int)) × (List ((Str × Str) × Int))) × Bool) : Option Bool :=
  (m_Peal___eq__ (a.1, a.2.1)).bind fun t1 => (m__law_is (t1, a.2.2)).bind fun t2 => (m_Peal___eq__ (a.2.1, a.1)).bind fun t3 => (m__law_is (t3, a.2.2)).bind fun t4 => (m_Peal___eq__ (a.1, a.2.1)).bind fun t5 => (m__law_is ((!t5), (!a.2.2))).bind fun t6 => (m_Peal___eq__ (a.2.1, a.1)).bind fun t7 => (m__law_is ((!t7), (!a.2.2))).bind fun t8 => (catO ([t2, t4] : (List Bool)) ([t6, t8] : (List Bool))).bind fun t9 => some (t9.all id)
abbrev sp__law_both [Tb] (K : PySem.W.Frag) : Sp := spP (a__law_both K) (m__law_both) fun r => DD K (Dat.bool r)
theorem ok__law_both [Tb] {P : Program} {w : World} {K : PySem.W.Frag} {mg : Str → Option Value} {base : Heap} (T : Txt K mg) (O__law_is : FnOk P w K mg base CX0 1 T.a__law_is T.d__law_is ["_law_found", "_law_due"] (sp__law_is K)) (O_Peal___eq__ : FnOk P w K mg base CX0 1 T.a_Peal___eq__ T.d_Peal___eq__ ["self", "other"] (sp_Peal___eq__ K)) : FnOk P w K mg base CX0 (3) T.a__law_both T.d__law_both ["_law_one_here", "_law_mate", "_law_due"] (sp__law_both K) := by
  refine T.F__law_both.ok sc__law_both (fun vs H Q E h => ?_) (fun cdv A outer s0 H vs Q E hr h => ?_)
  · obtain ⟨G, M0, a, r, ok, ⟨v_l_one_here, _, rfl, h_l_one_here, v_l_mate, _, rfl, h_l_mate, v_l_due, _, rfl, h_l_due, rfl⟩, hm, q⟩ := h
    rfl
  · obtain ⟨G, M0, a, r, ok, ⟨v_l_one_here, _, rfl, h_l_one_here, v_l_mate, _, rfl, h_l_mate, v_l_due, _, rfl, h_l_due, rfl⟩, hm, q⟩ := h
    unfold m__law_both at hm
    have sg := Same.refl G
    have hB := Same.refl M0
    refine ⟨_, (pss_cons (ps_set (i := 3) sc__law_both.nd rfl (.inl rfl) (pe_lst (pa_cons (pe_call O__law_is (hr.mono (by decide)) (by rfl) T.g__law_is T.F__law_is.kp T.b__law_is .nil pass0 (pa_cons (pe_cmpR (op_eqOwn O_Peal___eq__ (hr.mono (by decide)) T.me_Peal___eq__.1 T.me_Peal___eq__.2 T.b_Peal___eq__ pass0) (pv 0) (pv 1) (nomark _)) (pa_cons (pv 2) pa_nil))) (pa_cons (pe_call O__law_is (hr.mono (by decide)) (by rfl) T.g__law_is T.F__law_is.kp T.b__law_is .nil pass0 (pa_cons (pe_cmpR (op_eqOwn O_Peal___eq__ (hr.mono (by decide)) T.me_Peal___eq__.1 T.me_Peal___eq__.2 T.b_Peal___eq__ pass0) (pv 1) (pv 0) (nomark _)) (pa_cons (pv 2) pa_nil))) pa_nil)))) (pss_cons (ps_ret (pe_callB (cr_allK (K := K) rfl) (by rfl) T.n_all (by decide +kernel) (pa_cons (pe_op op_cat (pv 3) (pe_lst (pa_cons (pe_call O__law_is (hr.mono (by decide)) (by rfl) T.g__law_is T.F__law_is.kp T.b__law_is .nil pass0 (pa_cons (pe_cmpR (op_neOwn O_Peal___eq__ (hr.mono (by decide)) T.mk_Peal.makes T.ne_Peal T.me_Peal___eq__.1 T.me_Peal___eq__.2 T.b_Peal___eq__ pass0) (pv 0) (pv 1) (nomark _)) (pa_cons (pe_not (pv 2)) pa_nil))) (pa_cons (pe_call O__law_is (hr.mono (by decide)) (by rfl) T.g__law_is T.F__law_is.kp T.b__law_is .nil pass0 (pa_cons (pe_cmpR (op_neOwn O_Peal___eq__ (hr.mono (by decide)) T.mk_Peal.makes T.ne_Peal T.me_Peal___eq__.1 T.me_Peal___eq__.2 T.b_Peal___eq__ pass0) (pv 1) (pv 0) (nomark _)) (pa_cons (pe_not (pv 2)) pa_nil))) pa_nil)))) pa_nil))) pss_nil)), ?_⟩
    cases h_l_due
    refine nrm (σ' := [some v_l_one_here, some v_l_mate, some (.bl a.2.2), none]) rfl ?_
    obtain ⟨t1, e_t1, hm⟩ := bs hm
    obtain ⟨t2, e_t2, hm⟩ := bs hm
    obtain ⟨t3, e_t3, hm⟩ := bs hm
    obtain ⟨t4, e_t4, hm⟩ := bs hm
    refine q_set (σ' := fun v => [some v_l_one_here, some v_l_mate, some (.bl a.2.2), some v]) (EvL.ev (el_lst (ea_consD (ev_callP (res := fun r => DD K (Dat.bool r)) (a := (t1, a.2.2)) e_t2 (ea_d (ev_is (ev_cmpOwn (args := a_Peal___eq__ K) (a := (a.1, a.2.1)) (neg := false) rfl e_t1 (ev_d (K := K) rfl h_l_one_here) (ev_d (K := K) rfl h_l_mate)) rfl) (ea_d (ev_d (K := K) rfl (.bl _)) ea_nil))) (ea_consD (ev_callP (res := fun r => DD K (Dat.bool r)) (a := (t3, a.2.2)) e_t4 (ea_d (ev_is (ev_cmpOwn (args := a_Peal___eq__ K) (a := (a.2.1, a.1)) (neg := false) rfl e_t3 (ev_d (K := K) rfl h_l_mate) (ev_d (K := K) rfl h_l_one_here)) rfl) (ea_d (ev_d (K := K) rfl (.bl _)) ea_nil))) (ea_nilD (K := K)))))) ok (fun _ => rfl) (fun v_l_some G H s1 ok h_l_some => ?_)
    have h_l_one_here := dp_up s1 _ h_l_one_here
    have h_l_mate := dp_up s1 _ h_l_mate
    have sg := sg.trans s1
    obtain ⟨t5, e_t5, hm⟩ := bs hm
    obtain ⟨t6, e_t6, hm⟩ := bs hm
    obtain ⟨t7, e_t7, hm⟩ := bs hm
    obtain ⟨t8, e_t8, hm⟩ := bs hm
    obtain ⟨t9, e_t9, hm⟩ := bs hm
    refine q_ret (ev_allL (ea_d (EvL.ev (el_catO (e := Dat.bool) e_t9 (ev_d (K := K) rfl h_l_some) (EvL.ev (el_lst (ea_consD (ev_callP (res := fun r => DD K (Dat.bool r)) (a := ((!t5), (!a.2.2))) e_t6 (ea_d (ev_is (ev_cmpOwn (args := a_Peal___eq__ K) (a := (a.1, a.2.1)) (neg := true) rfl e_t5 (ev_d (K := K) rfl h_l_one_here) (ev_d (K := K) rfl h_l_mate)) rfl) (ea_d (ev_not (ev_d (K := K) rfl (.bl _))) ea_nil))) (ea_consD (ev_callP (res := fun r => DD K (Dat.bool r)) (a := ((!t7), (!a.2.2))) e_t8 (ea_d (ev_is (ev_cmpOwn (args := a_Peal___eq__ K) (a := (a.2.1, a.1)) (neg := true) rfl e_t7 (ev_d (K := K) rfl h_l_mate) (ev_d (K := K) rfl h_l_one_here)) rfl) (ea_d (ev_not (ev_d (K := K) rfl (.bl _))) ea_nil))) (ea_nilD (K := K)))))))) ea_nil)) ok (fun v G H s1 ok hv => ?_)
    have sg := sg.trans s1
    cases hm
    exact q v G H sg (ok.less hB) hv
/-! ### _law_both_2 -/
def a__law_both_2 (K : PySem.W.Frag) (a : ((List (Str × Int)) × (List (Str × Str × Int)) × (List (Str × Int)) × (List ((Str × Str) × Int))) × Dat × Bool) : List V → Hp → Prop := conP (DD K (eX_Peal a.1)) (conP (DD K (id a.2.1)) (conP (DD K (Dat.bool a.2.2)) (nilP)))
def m__law_both_2 (a : ((List (Str × Int)) × (List (Str × Str × Int)) × (List (Str × Int)) × (List ((Str × Str) × Int))) × Dat × Bool) : Option Bool :=
  (thO a.2.1).bind fun t1 => (m_Peal___eq___2 (a.1, a.2.1)).bind fun t2 => (m__law_is (t2, a.2.2)).bind fun t3 => (thO a.2.1).bind fun t4 => (m_Peal___eq___2 (a.1, a.2.1)).bind fun t5 => (m__law_is (t5, a.2.2)).bind fun t6 => (thO a.2.1).bind fun t7 => (m_Peal___eq___2 (a.1, a.2.1)).bind fun t8 => (m__law_is ((!t8), (!a.2.2))).bind fun t9 => (thO a.2.1).bind fun t10 => (m_Peal___eq___2 (a.1, a.2.1)).bind fun t11 => (m__law_is ((!t11), (!a.2.2))).bind fun t12 => (catO ([t3, t6] : (List Bool)) ([t9, t12] : (List Bool))).bind fun t13 => some (t13.all id)
abbrev sp__law_both_2 [Tb] (K : PySem.W.Frag) : Sp := spP (a__law_both_2 K) (m__law_both_2) fun r => DD K (Dat.bool r)
theorem ok__law_both_2 [Tb] {P : Program} {w : World} {K : PySem.W.Frag} {mg : Str → Option Value} {base : Heap} (T : Txt K mg) (O__law_is : FnOk P w K mg base CX0 1 T.a__law_is T.d__law_is ["_law_found", "_law_due"] (sp__law_is K)) (O_Peal___eq___2 : FnOk P w K mg base CX0 1 T.a_Peal___eq__ T.d_Peal___eq__ ["self", "other"] (sp_Peal___eq___2 K)) : FnOk P w K mg base CX0 (3) T.a__law_both T.d__law_both ["_law_one_here", "_law_mate", "_law_due"] (sp__law_both_2 K) := by
  refine T.F__law_both.ok sc__law_both (fun vs H Q E h => ?_) (fun cdv A outer s0 H vs Q E hr h => ?_)
  · obtain ⟨G, M0, a, r, ok, ⟨v_l_one_here, _, rfl, h_l_one_here, v_l_mate, _, rfl, h_l_mate, v_l_due, _, rfl, h_l_due, rfl⟩, hm, q⟩ := h
    rfl
  · obtain ⟨G, M0, a, r, ok, ⟨v_l_one_here, _, rfl, h_l_one_here, v_l_mate, _, rfl, h_l_mate, v_l_due, _, rfl, h_l_due, rfl⟩, hm, q⟩ := h
    unfold m__law_both_2 at hm
    have sg := Same.refl G
    have hB := Same.refl M0
    refine ⟨_, (pss_cons (ps_set (i := 3) sc__law_both.nd rfl (.inl rfl) (pe_lst (pa_cons (pe_call O__law_is (hr.mono (by decide)) (by rfl) T.g__law_is T.F__law_is.kp T.b__law_is .nil pass0 (pa_cons (pe_cmpR (op_eqX O_Peal___eq___2 (hr.mono (by decide)) T.me_Peal___eq__.1 T.me_Peal___eq__.2 T.b_Peal___eq__ pass0) (pv 0) (pv 1) (nomark _)) (pa_cons (pv 2) pa_nil))) (pa_cons (pe_call O__law_is (hr.mono (by decide)) (by rfl) T.g__law_is T.F__law_is.kp T.b__law_is .nil pass0 (pa_cons (pe_cmpR (op_eqXr O_Peal___eq___2 (hr.mono (by decide)) T.cx_Peal T.me_Peal___eq__.1 T.me_Peal___eq__.2 T.b_Peal___eq__ pass0) (pv 1) (pv 0) (nomark _)) (pa_cons (pv 2) pa_nil))) pa_nil)))) (pss_cons (ps_ret (pe_callB (cr_allK (K := K) rfl) (by rfl) T.n_all (by decide +kernel) (pa_cons (pe_op op_cat (pv 3) (pe_lst (pa_cons (pe_call O__law_is (hr.mono (by decide)) (by rfl) T.g__law_is T.F__law_is.kp T.b__law_is .nil pass0 (pa_cons (pe_cmpR (op_neX O_Peal___eq___2 (hr.mono (by decide)) T.mk_Peal.makes T.ne_Peal T.me_Peal___eq__.1 T.me_Peal___eq__.2 T.b_Peal___eq__ pass0) (pv 0) (pv 1) (nomark _)) (pa_cons (pe_not (pv 2)) pa_nil))) (pa_cons (pe_call O__law_is (hr.mono (by decide)) (by rfl) T.g__law_is T.F__law_is.kp T.b__law_is .nil pass0 (pa_cons (pe_cmpR (op_neXr O_Peal___eq___2 (hr.mono (by decide)) T.cx_Peal T.mk_Peal.makes T.ne_Peal T.me_Peal___eq__.1 T.me_Peal___eq__.2 T.b_Peal___eq__ pass0) (pv 1) (pv 0) (nomark _)) (pa_cons (pe_not (pv 2)) pa_nil))) pa_nil)))) pa_nil))) pss_nil)), ?_⟩
    cases h_l_due
    refine nrm (σ' := [some v_l_one_here, some v_l_mate, some (.bl a.2.2), none]) rfl ?_
    obtain ⟨t1, e_t1, hm⟩ := bs hm
    obtain ⟨t2, e_t2, hm⟩ := bs hm
    obtain ⟨t3, e_t3, hm⟩ := bs hm
    obtain ⟨t4, e_t4, hm⟩ := bs hm
    obtain ⟨t5, e_t5, hm⟩ := bs hm
    obtain ⟨t6, e_t6, hm⟩ := bs hm
    refine q_set (σ' := fun v => [some v_l_one_here, some v_l_mate, some (.bl a.2.2), some v]) (EvL.ev (el_lst (ea_consD (ev_callP (res := fun r => DD K (Dat.bool r)) (a := (t2, a.2.2)) e_t3 (ea_d (ev_is (ev_cmpX T.cx_Peal (args := a_Peal___eq___2 K) (a := (a.1, a.2.1)) (neg := false) rfl e_t1 e_t2 (ev_d (K := K) rfl h_l_one_here) (ev_d (K := K) rfl h_l_mate)) rfl) (ea_d (ev_d (K := K) rfl (.bl _)) ea_nil))) (ea_consD (ev_callP (res := fun r => DD K (Dat.bool r)) (a := (t5, a.2.2)) e_t6 (ea_d (ev_is (ev_cmpXr T.cx_Peal (args := a_Peal___eq___2 K) (a := (a.1, a.2.1)) (neg := false) rfl e_t4 e_t5 (ev_d (K := K) rfl h_l_mate) (ev_d (K := K) rfl h_l_one_here)) rfl) (ea_d (ev_d (K := K) rfl (.bl _)) ea_nil))) (ea_nilD (K := K)))))) ok (fun _ => rfl) (fun v_l_some G H s1 ok h_l_some => ?_)
    have h_l_one_here := dp_up s1 _ h_l_one_here
    have h_l_mate := dp_up s1 _ h_l_mate
    have sg := sg.trans s1
    obtain ⟨t7, e_t7, hm⟩ := bs hm
    obtain ⟨t8, e_t8, hm⟩ := bs hm
    obtain ⟨t9, e_t9, hm⟩ := bs hm
    obtain ⟨t10, e_t10, hm⟩ := bs hm
    obtain ⟨t11, e_t11, hm⟩ := bs hm
    obtain ⟨t12, e_t12, hm⟩ := bs hm
    obtain ⟨t13, e_t13, hm⟩ := bs hm
    refine q_ret (ev_allL (ea_d (EvL.ev (el_catO (e := Dat.bool) e_t13 (ev_d (K := K) rfl h_l_some) (EvL.ev (el_lst (ea_consD (ev_callP (res := fun r => DD K (Dat.bool r)) (a := ((!t8), (!a.2.2))) e_t9 (ea_d (ev_is (ev_cmpX T.cx_Peal (args := a_Peal___eq___2 K) (a := (a.1, a.2.1)) (neg := true) rfl e_t7 e_t8 (ev_d (K := K) rfl h_l_one_here) (ev_d (K := K) rfl h_l_mate)) rfl) (ea_d (ev_not (ev_d (K := K) rfl (.bl _))) ea_nil))) (ea_consD (ev_callP (res := fun r => DD K (Dat.bool r)) (a := ((!t11), (!a.2.2))) e_t12 (ea_d (ev_is (ev_cmpXr T.cx_Peal (args := a_Peal___eq___2 K) (a := (a.1, a.2.1)) (neg := true) rfl e_t10 e_t11 (ev_d (K := K) rfl h_l_mate) (ev_d (K := K) rfl h_l_one_here)) rfl) (ea_d (ev_not (ev_d (K := K) rfl (.bl _))) ea_nil))) (ea_nilD (K := K)))))))) ea_nil)) ok (fun v G H s1 ok hv => ?_)
    have sg := sg.trans s1
    cases hm
    exact q v G H sg (ok.less hB) hv
/-! ### _law_anew -/
theorem sc__law_anew : FnScope ["_law_store", "_law_ringers", "_law_teeth", "_law_house", "_law_left", "_law_turn", "_law_call", "_law_mate", "_law_figure_here", "_law_far_here", "_law_bell"] ["_law_store", "_law_ringers", "_law_teeth"] (defScope s__law_anew) := ⟨rfl, rfl, rfl, by decide +kernel, rfl, by decide +kernel, by decide +kernel⟩
def a__law_anew (K : PySem.W.Frag) (a : (List (Str × Int)) × (List (Str × Str × Int))) : List V → Hp → Prop := conP (DD K ((eT (eP2 Dat.str Dat.int)) a.1)) (conP (DD K ((eT (eP3 Dat.str Dat.str Dat.int)) a.2)) (nilP))
def m__law_anew (a : (List (Str × Int)) × (List (Str × Str × Int))) (z : Sto) : Option (((List (Str × Int)) × (List (Str × Str × Int)) × (List (Str × Int)) × (List ((Str × Str) × Int))) × Sto) :=
  (m_Peal___init__ (a.1, ([] : (List (Str × Str × Int))))).bind fun t1 => (rngO (a.2.length : Int)).bind fun t2 => (forO (fun (st4 : ((List (Str × Int)) × (List (Str × Str × Int)) × (List (Str × Int)) × (List ((Str × Str) × Int))) × (List (Str × Str × Int)) × Sto) (x5 : Int) => (m__law_pull (st4.2.1.length : Int) st4.2.2).bind fun t10 => (popO st4.2.1 t10.1).bind fun t11 => (m_Peal_told (st4.1, t11.1.1, t11.1.2.1, t11.1.2.2)).bind fun t19 => some (t19, t11.2, t10.2)) t2 (t1, a.2, z)).bind fun fin3 => (cond (decide ((a.1.length : Int) < (8 : Int))) ((lcO (fun x22 : (Str × Int) => some x22.1) a.1).bind fun t28 => (m__law_far t28).bind fun t29 => (m_Peal_hung (fin3.1, t29, (5 : Int))).bind fun t30 => (atI a.1 (0 : Int)).bind fun t31 => (m_Peal_told (t30, t29, t31.1, (7 : Int))).bind fun t32 => (atI a.1 (0 : Int)).bind fun t33 => (m_Peal_told (t32, t33.1, t29, (9 : Int))).bind fun t34 => (m_Peal_without (t34, t29)).bind fun t35 => some t35) (some fin3.1)).bind fun j20 => (cond (!decide (a.2 = ([] : (List (Str × Str × Int))))) ((m__law_pull (a.2.length : Int) fin3.2.2).bind fun t39 => (atI a.2 t39.1).bind fun t40 => (m_Peal_told (j20, t40.1, t40.2.1, ((100 : Int) - t40.2.2))).bind fun t47 => (m_Peal_told (t47, t40.1, t40.2.1, (0 : Int))).bind fun t48 => (m_Peal_told (t48, t40.1, t40.2.1, t40.2.2)).bind fun t49 => some (t49, t39.2)) (some (j20, fin3.2.2))).bind fun j37 => some (j37.1, j37.2)
abbrev sp__law_anew [Tb] (K : PySem.W.Frag) : Sp := spD (a__law_anew K) (m__law_anew) fun r => DD K (eX_Peal r)
theorem ok__law_anew [Tb] {P : Program} {w : World} {K : PySem.W.Frag} {mg : Str → Option Value} {base : Heap} (T : Txt K mg) (O_Peal___init__ : FnOk P w K mg base CX0 5 T.a_Peal___init__ T.d_Peal___init__ ["self", "bells", "notches"] (sp_Peal___init__ K)) (O__law_pull : FnOk P w K mg base CX0 1 T.a__law_pull T.d__law_pull ["_law_store", "_law_many"] (sp__law_pull K)) (O_Peal_told : FnOk P w K mg base CX0 7 T.a_Peal_told T.d_Peal_told ["self", "name", "other", "number"] (sp_Peal_told K)) (O__law_far : FnOk P w K mg base CX0 1 T.a__law_far T.d__law_far ["_law_calls_here"] (sp__law_far K)) (O_Peal_hung : FnOk P w K mg base CX0 7 T.a_Peal_hung T.d_Peal_hung ["self", "name", "marks"] (sp_Peal_hung K)) (O_Peal_without : FnOk P w K mg base CX0 7 T.a_Peal_without T.d_Peal_without ["self", "name"] (sp_Peal_without K)) : FnOk P w K mg base CX0 (8) T.a__law_anew T.d__law_anew ["_law_store", "_law_ringers", "_law_teeth"] (sp__law_anew K) := by
  refine T.F__law_anew.ok sc__law_anew (fun vs H Q E h => ?_) (fun cdv A outer s0 H vs Q E hr h => ?_)
  · obtain ⟨G, M0, s, z, z1, a, r, ws, rfl, ok, hs, ⟨v_l_ringers, _, rfl, h_l_ringers, v_l_teeth, _, rfl, h_l_teeth, rfl⟩, hm, q⟩ := h
    rfl
  · obtain ⟨G, M0, s, z, z1, a, r, ws, rfl, ok, hs, ⟨v_l_ringers, _, rfl, h_l_ringers, v_l_teeth, _, rfl, h_l_teeth, rfl⟩, hm, q⟩ := h
    unfold m__law_anew at hm
    have sg := Same.refl G
    have hB : ∀ a u, a ≠ s → M0 a = some u → M0 a = some u := fun _ _ _ h => h
    refine ⟨_, (pss_cons (ps_par (i := 3) (j := 4) rfl sc__law_anew.nd rfl rfl (by decide) rfl rfl (pa_cons (pe_make T.mk_Peal O_Peal___init__ (hr.mono (by decide)) (by rfl) T.mg_Peal T.bd_Peal___init__ valsE pass0 (pa_cons (pv 1) pa_nil)) (pa_cons (pe_callTy (cl_listK (K := K)) (by rfl) T.n_list (by decide +kernel) (pa_cons (pv 2) pa_nil)) pa_nil)) (by rfl)) (pss_cons (ps_for PassesOwn.never rfl (pi_range1 (by rfl) T.n_range (pa_cons (pe_callB (cl_lenK (K := K)) (by rfl) T.n_len (by decide +kernel) (pa_cons (pv 2) pa_nil)) pa_nil)) (pg_name (i := 5) sc__law_anew.nd rfl (.inl rfl)) (pss_cons (ps_asg (pe_bm PySem.F.plainAttrs_list PySem.F.slot_list_pop PySem.F.type_list_pop mt_popAt (pv 4) (pa_cons (pe_call O__law_pull (hr.mono (by decide)) (by rfl) T.g__law_pull T.F__law_pull.kp T.b__law_pull .nil pass0 (pa_cons (pv 0) (pa_cons (pe_callB (cl_lenK (K := K)) (by rfl) T.n_len (by decide +kernel) (pa_cons (pv 4) pa_nil)) pa_nil))) pa_nil)) (pg_tup rfl (pgs_cons (pg_name (i := 6) sc__law_anew.nd rfl (.inl rfl)) (pgs_cons (pg_name (i := 7) sc__law_anew.nd rfl (.inl rfl)) (pgs_cons (pg_name (i := 8) sc__law_anew.nd rfl (.inl rfl)) pgs_nil))))) (pss_cons (ps_set (i := 3) sc__law_anew.nd rfl (.inl rfl) (pe_meth (pv 3) T.cl_Peal T.me_Peal_told O_Peal_told (hr.mono (by decide)) T.b_Peal_told .nil pass0 (pa_cons (pv 6) (pa_cons (pv 7) (pa_cons (pv 8) pa_nil))))) pss_nil))) (pss_cons (ps_if (pt_cmpR op_lt (pe_callB (cl_lenK (K := K)) (by rfl) T.n_len (by decide +kernel) (pa_cons (pv 1) pa_nil)) pe_int (nomark _)) (pss_cons (ps_set (i := 9) sc__law_anew.nd rfl (.inl rfl) (pe_call O__law_far (hr.mono (by decide)) (by rfl) T.g__law_far T.F__law_far.kp T.b__law_far .nil pass0 (pa_cons (pe_lc (own := [("_law_bell", 10)]) (g := (gName 10)) (tt := tYes) rfl sc__law_anew.nd (pi_tupK (K := K) (pv 1)) (blkOk_by (own := [("_law_bell", 10)]) (N := ["_law_store", "_law_ringers", "_law_teeth", "_law_house", "_law_left", "_law_turn", "_law_call", "_law_mate", "_law_figure_here", "_law_far_here", "_law_bell"]) (sc := defScope s__law_anew) (by decide +kernel)) (fun _ _ _ _ _ => (pg_name (i := 10) sc__law_anew.nd rfl (by first | exact .inl rfl | exact .inr rfl))) (fun _ _ _ _ _ => pts_nil) (fun _ _ _ _ _ => (pe_ix (ix_tupK (K := K)) (pv 10) pe_int (fun _ _ => rfl)))) pa_nil))) (pss_cons (ps_set (i := 3) sc__law_anew.nd rfl (.inl rfl) (pe_meth (pe_meth (pe_meth (pe_meth (pv 3) T.cl_Peal T.me_Peal_hung O_Peal_hung (hr.mono (by decide)) T.b_Peal_hung .nil pass0 (pa_cons (pv 9) (pa_cons pe_int pa_nil))) T.cl_Peal T.me_Peal_told O_Peal_told (hr.mono (by decide)) T.b_Peal_told .nil pass0 (pa_cons (pv 9) (pa_cons (pe_ix (ix_tupK (K := K)) (pe_ix (ix_tupK (K := K)) (pv 1) pe_int (fun _ _ => rfl)) pe_int (fun _ _ => rfl)) (pa_cons pe_int pa_nil)))) T.cl_Peal T.me_Peal_told O_Peal_told (hr.mono (by decide)) T.b_Peal_told .nil pass0 (pa_cons (pe_ix (ix_tupK (K := K)) (pe_ix (ix_tupK (K := K)) (pv 1) pe_int (fun _ _ => rfl)) pe_int (fun _ _ => rfl)) (pa_cons (pv 9) (pa_cons pe_int pa_nil)))) T.cl_Peal T.me_Peal_without O_Peal_without (hr.mono (by decide)) T.b_Peal_without .nil pass0 (pa_cons (pv 9) pa_nil))) pss_nil)) pss_nil) (pss_cons (ps_if (pt_cmpR (op_neDK (K := K) hr.units) (pv 2) (pe_tupF pa_nil) (nomark _)) (pss_cons (ps_asg (pe_ix (ix_tupK (K := K)) (pv 2) (pe_call O__law_pull (hr.mono (by decide)) (by rfl) T.g__law_pull T.F__law_pull.kp T.b__law_pull .nil pass0 (pa_cons (pv 0) (pa_cons (pe_callB (cl_lenK (K := K)) (by rfl) T.n_len (by decide +kernel) (pa_cons (pv 2) pa_nil)) pa_nil))) (fun _ _ => rfl)) (pg_tup rfl (pgs_cons (pg_name (i := 6) sc__law_anew.nd rfl (.inl rfl)) (pgs_cons (pg_name (i := 7) sc__law_anew.nd rfl (.inl rfl)) (pgs_cons (pg_name (i := 8) sc__law_anew.nd rfl (.inl rfl)) pgs_nil))))) (pss_cons (ps_set (i := 3) sc__law_anew.nd rfl (.inl rfl) (pe_meth (pe_meth (pe_meth (pv 3) T.cl_Peal T.me_Peal_told O_Peal_told (hr.mono (by decide)) T.b_Peal_told .nil pass0 (pa_cons (pv 6) (pa_cons (pv 7) (pa_cons (pe_op op_sub pe_int (pv 8)) pa_nil)))) T.cl_Peal T.me_Peal_told O_Peal_told (hr.mono (by decide)) T.b_Peal_told .nil pass0 (pa_cons (pv 6) (pa_cons (pv 7) (pa_cons pe_int pa_nil)))) T.cl_Peal T.me_Peal_told O_Peal_told (hr.mono (by decide)) T.b_Peal_told .nil pass0 (pa_cons (pv 6) (pa_cons (pv 7) (pa_cons (pv 8) pa_nil))))) pss_nil)) pss_nil) (pss_cons (ps_ret (pv 3)) pss_nil))))), ?_⟩
    refine nrm (σ' := [some (.ref s), some v_l_ringers, some v_l_teeth, none, none, none, none, none, none, none, none]) rfl ?_
    obtain ⟨t1, e_t1, hm⟩ := bs hm
    refine q_parDL (σ' := fun v w => [some (.ref s), some v_l_ringers, some v_l_teeth, some v, some w, none, none, none, none, none, none]) (ev_makeE (a := (a.1, ([] : (List (Str × Str × Int))))) (dv := [.ref T.e_Peal___init__]) e_t1 (fun _ _ h => by obtain ⟨v0, _, rfl, h0, rfl⟩ := h; exact ⟨v0, _, rfl, h0, _, _, rfl, nilT_dd T.nt_Peal___init__, rfl⟩) (ea_d (ev_d (K := K) rfl h_l_ringers) ea_nil)) mo_dd (el_listT (ea_d (ev_d (K := K) rfl h_l_teeth) ea_nil)) ok (fun _ _ => rfl) (fun v_l_house p_l_left vs_l_left G H s1 ok hn h_l_house hd_l_left => ?_)
    have h_l_ringers := dp_up s1 _ h_l_ringers
    have h_l_teeth := dp_up s1 _ h_l_teeth
    have sg := sg.trans s1
    have n_l_store_l_left : s ≠ p_l_left := ne_of_none hs hn
    have n_l_left_l_store := n_l_store_l_left.symm
    have h0_l_left : M0 p_l_left = none := hB_none (M := M0) hB hs hn
    have hd_l_left : DqAll K G vs_l_left (a.2.map (eP3 Dat.str Dat.str Dat.int)) := hd_l_left
    have ok : Ok _ (upd M0 p_l_left (.lst vs_l_left)) _ := ok
    have hs : (upd M0 p_l_left (.lst vs_l_left)) s = some (sto z) := (up_ne n_l_store_l_left hs)
    have hB : ∀ a u, a ≠ s → M0 a = some u → (upd M0 p_l_left (.lst vs_l_left)) a = some u := (hB_own hB h0_l_left)
    have hp_l_left : (upd M0 p_l_left (.lst vs_l_left)) p_l_left = some (.lst vs_l_left) := upd_same
    obtain ⟨M, eM⟩ : ∃ m, m = (upd M0 p_l_left (.lst vs_l_left)) := ⟨_, rfl⟩
    rw [← eM] at ok hs hB hp_l_left
    clear eM
    obtain ⟨t2, e_t2, hm⟩ := bs hm
    obtain ⟨fin3, e_fin3, hm⟩ := bs hm
    have hmo6 := hm
    refine q_forO (ea := Dat.int) (src_rngO e_t2 (ea_d (ev_lenTM (e := (eP3 Dat.str Dat.str Dat.int)) (ea_d (ev_d (K := K) rfl h_l_teeth) ea_nil)) ea_nil)) ok (fun (st4 : ((List (Str × Int)) × (List (Str × Str × Int)) × (List (Str × Int)) × (List ((Str × Str) × Int))) × (List (Str × Str × Int)) × Sto) σ1 G1 M1 => ∃ (y_l_call : Option V) (y_l_mate : Option V) (y_l_figure_here : Option V) (y_l_turn : Option V) (v_l_house : V) (vs_l_left : List V), σ1 = [some (.ref s), some v_l_ringers, some v_l_teeth, some v_l_house, some (.ref p_l_left), y_l_turn, y_l_call, y_l_mate, y_l_figure_here, none, none] ∧ (Dq K G1 v_l_house (eX_Peal st4.1)) ∧ (DqAll K G1 vs_l_left (st4.2.1.map (eP3 Dat.str Dat.str Dat.int))) ∧ (M1 p_l_left = some (.lst vs_l_left)) ∧ (M1 s = some (sto st4.2.2)) ∧ (∀ a u, a ≠ s → M0 a = some u → M1 a = some u)) e_fin3 (fun G1 s1 => ⟨_, _, _, _, _, _, rfl, dp_up s1 _ h_l_house, dpAll_up s1 _ hd_l_left, hp_l_left, hs, hB⟩) (by rintro _ _ _ _ _ ⟨y_l_call, y_l_mate, y_l_figure_here, y_l_turn, v_l_house, vs_l_left, rfl, h_l_house, hd_l_left, hp_l_left, hs, hB⟩ s2; exact ⟨_, _, _, _, _, _, rfl, dp_up s2 _ h_l_house, dpAll_up s2 _ hd_l_left, hp_l_left, hs, hB⟩) (fun x5 xv8 st4 st' σ1 G M H N hm hj s1 ok hv hN => ?_) (fun σ1 G M H s1 ok hj => ?_)
    · obtain ⟨y_l_call, y_l_mate, y_l_figure_here, y_l_turn, v_l_house, vs_l_left, rfl, h_l_house, hd_l_left, hp_l_left, hs, hB⟩ := hj
      have h_l_ringers := dp_up s1 _ h_l_ringers
      have h_l_teeth := dp_up s1 _ h_l_teeth
      have sg := sg.trans s1
      have sl9 := Same.refl G
      refine gn ?_
      have h_l_turn := hv
      cases h_l_turn
      refine nrm (σ' := [some (.ref s), some v_l_ringers, some v_l_teeth, some v_l_house, some (.ref p_l_left), some (.int x5), y_l_call, y_l_mate, y_l_figure_here, none, none]) rfl ?_
      obtain ⟨t10, e_t10, hm⟩ := bs hm
      obtain ⟨t11, e_t11, hm⟩ := bs hm
      obtain ⟨_, k12, hk_k12, _, ek_k12⟩ := popO_of e_t11
      have hd2_l_left : DqAll K G (vs_l_left.eraseIdx k12) (t11.2.map (eP3 Dat.str Dat.str Dat.int)) := by rw [ek_k12, map_erase]; exact dpAll_erase _ hd_l_left
      refine q_asgG (ev_popO (e := (eP3 Dat.str Dat.str Dat.int)) (xs := st4.2.1) (vs := vs_l_left) e_t11 hk_k12 hp_l_left (up_ne n_l_left_l_store hp_l_left) hd_l_left (ev_own rfl) (ea_d (ev_callD (a := (st4.2.1.length : Int)) (r := t10.1) (z' := t10.2) hs e_t10 (ea_cons mo_ow (ev_own rfl) (ea_d (ev_lenOM (e := (eP3 Dat.str Dat.str Dat.int)) hp_l_left hd_l_left (ea_cons mo_ow (ev_own rfl) ea_nil)) ea_nil))) ea_nil)) ok (fun v G H s1 ok hv => ?_)
      have h_l_ringers := dp_up s1 _ h_l_ringers
      have h_l_teeth := dp_up s1 _ h_l_teeth
      have h_l_house := dp_up s1 _ h_l_house
      have hd2_l_left := dpAll_up s1 _ hd2_l_left
      have sg := sg.trans s1
      have sl9 := sl9.trans s1
      refine gt3 hv ok.g (fun w13 w14 w15 hw16 hw17 hw18 => ?_)
      refine gn ?_
      have h_l_call := hw16
      refine gn ?_
      have h_l_mate := hw17
      refine gn ?_
      have h_l_figure_here := hw18
      cases h_l_figure_here
      refine nrm (σ' := [some (.ref s), some v_l_ringers, some v_l_teeth, some v_l_house, some (.ref p_l_left), some (.int x5), some w13, some w14, some (.int t11.1.2.2), none, none]) rfl ?_
      have ok : Ok _ (upd (upd M s (sto t10.2)) p_l_left (.lst (vs_l_left.eraseIdx k12))) _ := ok
      have hs : (upd (upd M s (sto t10.2)) p_l_left (.lst (vs_l_left.eraseIdx k12))) s = some (sto t10.2) := (up_ne n_l_store_l_left upd_same)
      have hB : ∀ a u, a ≠ s → M0 a = some u → (upd (upd M s (sto t10.2)) p_l_left (.lst (vs_l_left.eraseIdx k12))) a = some u := (hB_own (hB_draw hB) h0_l_left)
      have hp_l_left : (upd (upd M s (sto t10.2)) p_l_left (.lst (vs_l_left.eraseIdx k12))) p_l_left = some (.lst (vs_l_left.eraseIdx k12)) := upd_same
      obtain ⟨M, eM⟩ : ∃ m, m = (upd (upd M s (sto t10.2)) p_l_left (.lst (vs_l_left.eraseIdx k12))) := ⟨_, rfl⟩
      rw [← eM] at ok hs hB hp_l_left
      clear eM
      have hd_l_left := hd2_l_left
      obtain ⟨vs_l_left, e_vs⟩ : ∃ m, m = (vs_l_left.eraseIdx k12) := ⟨_, rfl⟩
      rw [← e_vs] at hp_l_left hd_l_left
      clear e_vs
      obtain ⟨t19, e_t19, hm⟩ := bs hm
      refine q_set (σ' := fun v => [some (.ref s), some v_l_ringers, some v_l_teeth, some v, some (.ref p_l_left), some (.int x5), some w13, some w14, some (.int t11.1.2.2), none, none]) (ev_meth (args := a_Peal_told K) (a := (st4.1, t11.1.1, t11.1.2.1, t11.1.2.2)) (by decide +kernel) rfl e_t19 (ev_d (K := K) rfl h_l_house) (ea_d (ev_d (K := K) rfl h_l_call) (ea_d (ev_d (K := K) rfl h_l_mate) (ea_d (ev_d (K := K) rfl (.int _)) ea_nil)))) ok (fun _ => rfl) (fun v_l_house G H s1 ok h_l_house => ?_)
      have h_l_ringers := dp_up s1 _ h_l_ringers
      have h_l_teeth := dp_up s1 _ h_l_teeth
      have hd_l_left := dpAll_up s1 _ hd_l_left
      have h_l_call := dp_up s1 _ h_l_call
      have h_l_mate := dp_up s1 _ h_l_mate
      have sg := sg.trans s1
      have sl9 := sl9.trans s1
      refine q_nil ?_
      cases hm
      exact hN _ _ _ _ sl9 ok ⟨_, _, _, _, _, _, rfl, h_l_house, hd_l_left, hp_l_left, hs, hB⟩
    · obtain ⟨y_l_call, y_l_mate, y_l_figure_here, y_l_turn, v_l_house, vs_l_left, rfl, h_l_house, hd_l_left, hp_l_left, hs, hB⟩ := hj
      have h_l_ringers := dp_up s1 _ h_l_ringers
      have h_l_teeth := dp_up s1 _ h_l_teeth
      have sg := sg.trans s1
      obtain ⟨j20, e_j20, hm⟩ := bs hm
      refine q_ifJ (fun σ1 G1 M1 => ∃ (y_l_far_here : Option V) (v_l_house : V), σ1 = [some (.ref s), some v_l_ringers, some v_l_teeth, some v_l_house, some (.ref p_l_left), y_l_turn, y_l_call, y_l_mate, y_l_figure_here, y_l_far_here, none] ∧ (Dq K G1 v_l_house (eX_Peal j20)) ∧ (M1 p_l_left = some (.lst vs_l_left)) ∧ (M1 s = some (sto fin3.2.2)) ∧ (∀ a u, a ≠ s → M0 a = some u → M1 a = some u)) (et_test (ev_lt (ev_lenTM (e := (eP2 Dat.str Dat.int)) (ea_d (ev_d (K := K) rfl h_l_ringers) ea_nil)) (ev_int (K := K)))) ok (fun hb G H D1 s1 ok _ _ _ kD => ?_) (fun hb G H D1 s1 ok _ _ _ kD => ?_) (fun σ1 G M H s1 ok hj => ?_)
      · have hm := cond_t hb e_j20
        have h_l_ringers := dp_up s1 _ h_l_ringers
        have h_l_teeth := dp_up s1 _ h_l_teeth
        have h_l_house := dp_up s1 _ h_l_house
        have hd_l_left := dpAll_up s1 _ hd_l_left
        have sg := sg.trans s1
        have sl21 := Same.refl G
        obtain ⟨t28, e_t28, hm⟩ := bs hm
        obtain ⟨t29, e_t29, hm⟩ := bs hm
        refine q_set (σ' := fun v => [some (.ref s), some v_l_ringers, some v_l_teeth, some v_l_house, some (.ref p_l_left), y_l_turn, y_l_call, y_l_mate, y_l_figure_here, some v, none]) (ev_callP (res := fun r => DD K (Dat.str r)) (a := t28) e_t29 (ea_d (EvL.ev (el_lcM (ea := (eP2 Dat.str Dat.int)) (eb := Dat.str) (xs := a.1) (ys := t28) (hf := e_t28) (src_tup (ev_d (K := K) rfl h_l_ringers)) (fun x22 _ Mx26 _ _ he27 sM25 sG24 hv23 => by cases he27; exact (tg_name ⟨rfl, (ev_ixT (d := Dat.str x22.1) rfl (ev_d (K := K) rfl hv23) ev_int)⟩)))) ea_nil)) ok (fun _ => rfl) (fun v_l_far_here G H s1 ok h_l_far_here => ?_)
        have h_l_ringers := dp_up s1 _ h_l_ringers
        have h_l_teeth := dp_up s1 _ h_l_teeth
        have h_l_house := dp_up s1 _ h_l_house
        have hd_l_left := dpAll_up s1 _ hd_l_left
        have sg := sg.trans s1
        have sl21 := sl21.trans s1
        obtain ⟨t30, e_t30, hm⟩ := bs hm
        obtain ⟨t31, e_t31, hm⟩ := bs hm
        obtain ⟨t32, e_t32, hm⟩ := bs hm
        obtain ⟨t33, e_t33, hm⟩ := bs hm
        obtain ⟨t34, e_t34, hm⟩ := bs hm
        obtain ⟨t35, e_t35, hm⟩ := bs hm
        refine q_set (σ' := fun v => [some (.ref s), some v_l_ringers, some v_l_teeth, some v, some (.ref p_l_left), y_l_turn, y_l_call, y_l_mate, y_l_figure_here, some v_l_far_here, none]) (ev_meth (args := a_Peal_without K) (a := (t34, t29)) (by decide +kernel) rfl e_t35 (ev_meth (args := a_Peal_told K) (a := (t32, t33.1, t29, (9 : Int))) (by decide +kernel) rfl e_t34 (ev_meth (args := a_Peal_told K) (a := (t30, t29, t31.1, (7 : Int))) (by decide +kernel) rfl e_t32 (ev_meth (args := a_Peal_hung K) (a := (fin3.1, t29, (5 : Int))) (by decide +kernel) rfl e_t30 (ev_d (K := K) rfl h_l_house) (ea_d (ev_d (K := K) rfl h_l_far_here) (ea_d (ev_int (K := K)) ea_nil))) (ea_d (ev_d (K := K) rfl h_l_far_here) (ea_d (ev_ixT (d := Dat.str t31.1) rfl (ev_ixTM (e := (eP2 Dat.str Dat.int)) e_t31 (ev_d (K := K) rfl h_l_ringers) (ev_int (K := K))) ev_int) (ea_d (ev_int (K := K)) ea_nil)))) (ea_d (ev_ixT (d := Dat.str t33.1) rfl (ev_ixTM (e := (eP2 Dat.str Dat.int)) e_t33 (ev_d (K := K) rfl h_l_ringers) (ev_int (K := K))) ev_int) (ea_d (ev_d (K := K) rfl h_l_far_here) (ea_d (ev_int (K := K)) ea_nil)))) (ea_d (ev_d (K := K) rfl h_l_far_here) ea_nil)) ok (fun _ => rfl) (fun v_l_house G H s1 ok h_l_house => ?_)
        have h_l_ringers := dp_up s1 _ h_l_ringers
        have h_l_teeth := dp_up s1 _ h_l_teeth
        have hd_l_left := dpAll_up s1 _ hd_l_left
        have h_l_far_here := dp_up s1 _ h_l_far_here
        have sg := sg.trans s1
        have sl21 := sl21.trans s1
        refine q_nil ?_
        cases hm
        exact kD _ _ _ _ sl21 ok ⟨_, _, rfl, h_l_house, hp_l_left, hs, hB⟩
      · have hm := cond_f hb e_j20
        have h_l_ringers := dp_up s1 _ h_l_ringers
        have h_l_teeth := dp_up s1 _ h_l_teeth
        have h_l_house := dp_up s1 _ h_l_house
        have hd_l_left := dpAll_up s1 _ hd_l_left
        have sg := sg.trans s1
        have sl36 := Same.refl G
        refine q_nil ?_
        cases hm
        exact kD _ _ _ _ sl36 ok ⟨_, _, rfl, h_l_house, hp_l_left, hs, hB⟩
      · obtain ⟨y_l_far_here, v_l_house, rfl, h_l_house, hp_l_left, hs, hB⟩ := hj
        have h_l_ringers := dp_up s1 _ h_l_ringers
        have h_l_teeth := dp_up s1 _ h_l_teeth
        have hd_l_left := dpAll_up s1 _ hd_l_left
        have sg := sg.trans s1
        obtain ⟨j37, e_j37, hm⟩ := bs hm
        refine q_ifJ (fun σ1 G1 M1 => ∃ (y_l_call : Option V) (y_l_mate : Option V) (y_l_figure_here : Option V) (v_l_house : V), σ1 = [some (.ref s), some v_l_ringers, some v_l_teeth, some v_l_house, some (.ref p_l_left), y_l_turn, y_l_call, y_l_mate, y_l_figure_here, y_l_far_here, none] ∧ (Dq K G1 v_l_house (eX_Peal j37.1)) ∧ (M1 p_l_left = some (.lst vs_l_left)) ∧ (M1 s = some (sto j37.2)) ∧ (∀ a u, a ≠ s → M0 a = some u → M1 a = some u)) (et_test (ev_neE (e := (eT (eP3 Dat.str Dat.str Dat.int))) (x := a.2) (y := ([] : (List (Str × Str × Int)))) (eqe_T (eqe_P3 eqe_str eqe_str eqe_int)) (by decide) (ev_d (K := K) rfl h_l_teeth) (ev_tup (ea_nilD (K := K))))) ok (fun hb G H D1 s1 ok _ _ _ kD => ?_) (fun hb G H D1 s1 ok _ _ _ kD => ?_) (fun σ1 G M H s1 ok hj => ?_)
        · have hm := cond_t hb e_j37
          have h_l_ringers := dp_up s1 _ h_l_ringers
          have h_l_teeth := dp_up s1 _ h_l_teeth
          have h_l_house := dp_up s1 _ h_l_house
          have hd_l_left := dpAll_up s1 _ hd_l_left
          have sg := sg.trans s1
          have sl38 := Same.refl G
          obtain ⟨t39, e_t39, hm⟩ := bs hm
          obtain ⟨t40, e_t40, hm⟩ := bs hm
          refine q_asgG (ev_ixTM (e := (eP3 Dat.str Dat.str Dat.int)) e_t40 (ev_d (K := K) rfl h_l_teeth) (ev_callD (a := (a.2.length : Int)) (r := t39.1) (z' := t39.2) hs e_t39 (ea_cons mo_ow (ev_own rfl) (ea_d (ev_lenTM (e := (eP3 Dat.str Dat.str Dat.int)) (ea_d (ev_d (K := K) rfl h_l_teeth) ea_nil)) ea_nil)))) ok (fun v G H s1 ok hv => ?_)
          have h_l_ringers := dp_up s1 _ h_l_ringers
          have h_l_teeth := dp_up s1 _ h_l_teeth
          have h_l_house := dp_up s1 _ h_l_house
          have hd_l_left := dpAll_up s1 _ hd_l_left
          have sg := sg.trans s1
          have sl38 := sl38.trans s1
          refine gt3 hv ok.g (fun w41 w42 w43 hw44 hw45 hw46 => ?_)
          refine gn ?_
          have h_l_call := hw44
          refine gn ?_
          have h_l_mate := hw45
          refine gn ?_
          have h_l_figure_here := hw46
          cases h_l_figure_here
          refine nrm (σ' := [some (.ref s), some v_l_ringers, some v_l_teeth, some v_l_house, some (.ref p_l_left), y_l_turn, some w41, some w42, some (.int t40.2.2), y_l_far_here, none]) rfl ?_
          have ok : Ok _ (upd M s (sto t39.2)) _ := ok
          have hs : (upd M s (sto t39.2)) s = some (sto t39.2) := upd_same
          have hB : ∀ a u, a ≠ s → M0 a = some u → (upd M s (sto t39.2)) a = some u := (hB_draw hB)
          have hp_l_left : (upd M s (sto t39.2)) p_l_left = some (.lst vs_l_left) := (up_ne n_l_left_l_store hp_l_left)
          obtain ⟨M, eM⟩ : ∃ m, m = (upd M s (sto t39.2)) := ⟨_, rfl⟩
          rw [← eM] at ok hs hB hp_l_left
          clear eM
          obtain ⟨t47, e_t47, hm⟩ := bs hm
          obtain ⟨t48, e_t48, hm⟩ := bs hm
          obtain ⟨t49, e_t49, hm⟩ := bs hm
          refine q_set (σ' := fun v => [some (.ref s), some v_l_ringers, some v_l_teeth, some v, some (.ref p_l_left), y_l_turn, some w41, some w42, some (.int t40.2.2), y_l_far_here, none]) (ev_meth (args := a_Peal_told K) (a := (t48, t40.1, t40.2.1, t40.2.2)) (by decide +kernel) rfl e_t49 (ev_meth (args := a_Peal_told K) (a := (t47, t40.1, t40.2.1, (0 : Int))) (by decide +kernel) rfl e_t48 (ev_meth (args := a_Peal_told K) (a := (j20, t40.1, t40.2.1, ((100 : Int) - t40.2.2))) (by decide +kernel) rfl e_t47 (ev_d (K := K) rfl h_l_house) (ea_d (ev_d (K := K) rfl h_l_call) (ea_d (ev_d (K := K) rfl h_l_mate) (ea_d (ev_sub (ev_int (K := K)) (ev_d (K := K) rfl (.int _))) ea_nil)))) (ea_d (ev_d (K := K) rfl h_l_call) (ea_d (ev_d (K := K) rfl h_l_mate) (ea_d (ev_int (K := K)) ea_nil)))) (ea_d (ev_d (K := K) rfl h_l_call) (ea_d (ev_d (K := K) rfl h_l_mate) (ea_d (ev_d (K := K) rfl (.int _)) ea_nil)))) ok (fun _ => rfl) (fun v_l_house G H s1 ok h_l_house => ?_)
          have h_l_ringers := dp_up s1 _ h_l_ringers
          have h_l_teeth := dp_up s1 _ h_l_teeth
          have hd_l_left := dpAll_up s1 _ hd_l_left
          have h_l_call := dp_up s1 _ h_l_call
          have h_l_mate := dp_up s1 _ h_l_mate
          have sg := sg.trans s1
          have sl38 := sl38.trans s1
          refine q_nil ?_
          cases hm
          exact kD _ _ _ _ sl38 ok ⟨_, _, _, _, rfl, h_l_house, hp_l_left, hs, hB⟩
        · have hm := cond_f hb e_j37
          have h_l_ringers := dp_up s1 _ h_l_ringers
          have h_l_teeth := dp_up s1 _ h_l_teeth
          have h_l_house := dp_up s1 _ h_l_house
          have hd_l_left := dpAll_up s1 _ hd_l_left
          have sg := sg.trans s1
          have sl50 := Same.refl G
          refine q_nil ?_
          cases hm
          exact kD _ _ _ _ sl50 ok ⟨_, _, _, _, rfl, h_l_house, hp_l_left, hs, hB⟩
        · obtain ⟨y_l_call, y_l_mate, y_l_figure_here, v_l_house, rfl, h_l_house, hp_l_left, hs, hB⟩ := hj
          have h_l_ringers := dp_up s1 _ h_l_ringers
          have h_l_teeth := dp_up s1 _ h_l_teeth
          have hd_l_left := dpAll_up s1 _ hd_l_left
          have sg := sg.trans s1
          refine q_ret (ev_d (K := K) rfl h_l_house) ok (fun v G H s1 ok hv => ?_)
          have sg := sg.trans s1
          cases hm
          exact q v G H sg (ok.less (same_fin hB hs)) hv
/-! ### _law_others -/
theorem sc__law_others : FnScope ["_law_store", "_law_ringers", "_law_teeth", "_law_k", "_law_call", "_law_size", "_law_far_here", "_law_found", "_law_away", "_law_left", "_law_mate", "_law_number_of_two", "_law_bell", "_law_tooth"] ["_law_store", "_law_ringers", "_law_teeth"] (defScope s__law_others) := ⟨rfl, rfl, rfl, by decide +kernel, rfl, by decide +kernel, by decide +kernel⟩
def a__law_others (K : PySem.W.Frag) (a : (List (Str × Int)) × (List (Str × Str × Int))) : List V → Hp → Prop := conP (DD K ((eT (eP2 Dat.str Dat.int)) a.1)) (conP (DD K ((eT (eP3 Dat.str Dat.str Dat.int)) a.2)) (nilP))
def m__law_others (a : (List (Str × Int)) × (List (Str × Str × Int))) (z : Sto) : Option ((List ((List (Str × Int)) × (List (Str × Str × Int)) × (List (Str × Int)) × (List ((Str × Str) × Int)))) × Sto) :=
  (m__law_pull (a.1.length : Int) z).bind fun t1 => (atI a.1 t1.1).bind fun t2 => (lcO (fun x7 : (Str × Int) => some x7.1) a.1).bind fun t13 => (m__law_far t13).bind fun t14 => (modO (t2.2 - (1 : Int)) (23 : Int)).bind fun t15 => (catO (cut a.1 none (some t1.1)) ([(t2.1, ((2 : Int) + t15))] : (List (Str × Int)))).bind fun t16 => (catO t16 (cut a.1 (some (t1.1 + (1 : Int))) none)).bind fun t17 => (m_Peal___init__ (t17, a.2)).bind fun t18 => (lcF (fun x19 : (Str × Str × Int) => cond (!memB t2.1 [(x19.1, x19.2.1).1, (x19.1, x19.2.1).2]) (some (some x19)) (some none)) a.2).bind fun t25 => (lcF (fun x26 : (Str × Int) => cond (!decide (x26.1 = t2.1)) (some (some x26)) (some none)) a.1).bind fun t32 => (catO t32 ([(t14, t2.2)] : (List (Str × Int)))).bind fun t33 => (m_Peal___init__ ((srtF fSI t33), t25)).bind fun t34 => (appO ([t18] : (List ((List (Str × Int)) × (List (Str × Str × Int)) × (List (Str × Int)) × (List ((Str × Str) × Int))))) t34).bind fun t35 => (cond (decide ((1 : Int) < (a.1.length : Int))) ((atI a.1 (t1.1 - (1 : Int))).bind fun t38 => (m_Peal___init__ (t32, t25)).bind fun t39 => (appO t35 t39).bind fun t40 => (lcO (fun x41 : (Str × Str × Int) => some ((x41.1, x41.2.1), x41.2.2)) a.2).bind fun t47 => (dictO t47).bind fun t48 => (m_Peal___init__ (a.1, a.2)).bind fun t49 => (modO ((getD' t48 (t2.1, t38.1) (0 : Int)) + (1 : Int)) (100 : Int)).bind fun t50 => (m_Peal_told (t49, t2.1, t38.1, t50)).bind fun t51 => (appO t40 t51).bind fun t52 => some t52) (some t35)).bind fun j36 => (cond (!decide (a.2 = ([] : (List (Str × Str × Int))))) ((m_Peal___init__ (a.1, (cut a.2 none (some (-(1 : Int)))))).bind fun t56 => (appO j36 t56).bind fun t57 => (m_Peal___init__ (a.1, ([] : (List (Str × Str × Int))))).bind fun t58 => (appO t57 t58).bind fun t59 => some t59) (some j36)).bind fun j54 => some (j54, t1.2)
abbrev sp__law_others [Tb] (K : PySem.W.Frag) : Sp := spD (a__law_others K) (m__law_others) fun r => DD K ((eL eX_Peal) r)
theorem ok__law_others [Tb] {P : Program} {w : World} {K : PySem.W.Frag} {mg : Str → Option Value} {base : Heap} (T : Txt K mg) (O__law_pull : FnOk P w K mg base CX0 1 T.a__law_pull T.d__law_pull ["_law_store", "_law_many"] (sp__law_pull K)) (O__law_far : FnOk P w K mg base CX0 1 T.a__law_far T.d__law_far ["_law_calls_here"] (sp__law_far K)) (O_Peal___init__ : FnOk P w K mg base CX0 5 T.a_Peal___init__ T.d_Peal___init__ ["self", "bells", "notches"] (sp_Peal___init__ K)) (O_Peal_told : FnOk P w K mg base CX0 7 T.a_Peal_told T.d_Peal_told ["self", "name", "other", "number"] (sp_Peal_told K)) : FnOk P w K mg base CX0 (8) T.a__law_others T.d__law_others ["_law_store", "_law_ringers", "_law_teeth"] (sp__law_others K) := by
  refine T.F__law_others.ok sc__law_others (fun vs H Q E h => ?_) (fun cdv A outer s0 H vs Q E hr h => ?_)
  · obtain ⟨G, M0, s, z, z1, a, r, ws, rfl, ok, hs, ⟨v_l_ringers, _, rfl, h_l_ringers, v_l_teeth, _, rfl, h_l_teeth, rfl⟩, hm, q⟩ := h
    rfl
  · obtain ⟨G, M0, s, z, z1, a, r, ws, rfl, ok, hs, ⟨v_l_ringers, _, rfl, h_l_ringers, v_l_teeth, _, rfl, h_l_teeth, rfl⟩, hm, q⟩ := h
    unfold m__law_others at hm
    have sg := Same.refl G
    have hB : ∀ a u, a ≠ s → M0 a = some u → M0 a = some u := fun _ _ _ h => h
    refine ⟨_, (pss_cons (ps_set (i := 3) sc__law_others.nd rfl (.inl rfl) (pe_call O__law_pull (hr.mono (by decide)) (by rfl) T.g__law_pull T.F__law_pull.kp T.b__law_pull .nil pass0 (pa_cons (pv 0) (pa_cons (pe_callB (cl_lenK (K := K)) (by rfl) T.n_len (by decide +kernel) (pa_cons (pv 1) pa_nil)) pa_nil)))) (pss_cons (ps_asg (pe_ix (ix_tupK (K := K)) (pv 1) (pv 3) (fun _ _ => rfl)) (pg_tup rfl (pgs_cons (pg_name (i := 4) sc__law_others.nd rfl (.inr rfl)) (pgs_cons (pg_name (i := 5) sc__law_others.nd rfl (.inl rfl)) pgs_nil)))) (pss_cons (ps_set (i := 6) sc__law_others.nd rfl (.inl rfl) (pe_call O__law_far (hr.mono (by decide)) (by rfl) T.g__law_far T.F__law_far.kp T.b__law_far .nil pass0 (pa_cons (pe_lc (own := [("_law_bell", 12)]) (g := (gName 12)) (tt := tYes) rfl sc__law_others.nd (pi_tupK (K := K) (pv 1)) (blkOk_by (own := [("_law_bell", 12)]) (N := ["_law_store", "_law_ringers", "_law_teeth", "_law_k", "_law_call", "_law_size", "_law_far_here", "_law_found", "_law_away", "_law_left", "_law_mate", "_law_number_of_two", "_law_bell", "_law_tooth"]) (sc := defScope s__law_others) (by decide +kernel)) (fun _ _ _ _ _ => (pg_name (i := 12) sc__law_others.nd rfl (by first | exact .inl rfl | exact .inr rfl))) (fun _ _ _ _ _ => pts_nil) (fun _ _ _ _ _ => (pe_ix (ix_tupK (K := K)) (pv 12) pe_int (fun _ _ => rfl)))) pa_nil))) (pss_cons (ps_set (i := 7) sc__law_others.nd rfl (.inl rfl) (pe_lst (pa_cons (pe_make T.mk_Peal O_Peal___init__ (hr.mono (by decide)) (by rfl) T.mg_Peal T.b_Peal___init__ .nil pass0 (pa_cons (pe_op (op_catAK (K := K)) (pe_op (op_catAK (K := K)) (pe_slice (sl_tupK (K := K)) (pv 1) po_none (po_some (pv 3))) (pe_tupF (pa_cons (pe_tupF (pa_cons (pv 4) (pa_cons (pe_op op_add pe_int (pe_op op_modN (pe_op op_sub (pv 5) pe_int) pe_int)) pa_nil))) pa_nil))) (pe_slice (sl_tupK (K := K)) (pv 1) (po_some (pe_op op_add (pv 3) pe_int)) po_none)) (pa_cons (pv 2) pa_nil))) pa_nil))) (pss_cons (ps_set (i := 8) sc__law_others.nd rfl (.inl rfl) (pe_callTy (cl_tupleK (K := K)) (by rfl) T.n_tuple (by decide +kernel) (pa_cons (pe_lc (own := [("_law_tooth", 13)]) (g := (gName 13)) rfl sc__law_others.nd (pi_tupK (K := K) (pv 2)) (blkOk_by (own := [("_law_tooth", 13)]) (N := ["_law_store", "_law_ringers", "_law_teeth", "_law_k", "_law_call", "_law_size", "_law_far_here", "_law_found", "_law_away", "_law_left", "_law_mate", "_law_number_of_two", "_law_bell", "_law_tooth"]) (sc := defScope s__law_others) (by decide +kernel)) (fun _ _ _ _ _ => (pg_name (i := 13) sc__law_others.nd rfl (by first | exact .inl rfl | exact .inr rfl))) (fun _ _ _ _ _ => (pts_one (pt_cmpR (op_notInSK (K := K)) (pv 4) (pe_slice (sl_tupK (K := K)) (pv 13) po_none (po_some pe_int)) (by rfl)))) (fun _ _ _ _ _ => (pv 13))) pa_nil))) (pss_cons (ps_set (i := 9) sc__law_others.nd rfl (.inl rfl) (pe_callTy (cl_tupleK (K := K)) (by rfl) T.n_tuple (by decide +kernel) (pa_cons (pe_lc (own := [("_law_bell", 12)]) (g := (gName 12)) rfl sc__law_others.nd (pi_tupK (K := K) (pv 1)) (blkOk_by (own := [("_law_bell", 12)]) (N := ["_law_store", "_law_ringers", "_law_teeth", "_law_k", "_law_call", "_law_size", "_law_far_here", "_law_found", "_law_away", "_law_left", "_law_mate", "_law_number_of_two", "_law_bell", "_law_tooth"]) (sc := defScope s__law_others) (by decide +kernel)) (fun _ _ _ _ _ => (pg_name (i := 12) sc__law_others.nd rfl (by first | exact .inl rfl | exact .inr rfl))) (fun _ _ _ _ _ => (pts_one (pt_cmpR op_ne (pe_ix (ix_tupK (K := K)) (pv 12) pe_int (fun _ _ => rfl)) (pv 4) (nomark _)))) (fun _ _ _ _ _ => (pv 12))) pa_nil))) (pss_cons (ps_expr (pe_bm PySem.F.plainAttrs_list PySem.F.slot_list_append PySem.F.type_list_append mt_append (pv 7) (pa_cons (pe_make T.mk_Peal O_Peal___init__ (hr.mono (by decide)) (by rfl) T.mg_Peal T.b_Peal___init__ .nil pass0 (pa_cons (pe_callTy (cl_tupleK (K := K)) (by rfl) T.n_tuple (by decide +kernel) (pa_cons (pe_callB (cr_sortedF (K := K) (sh := shSI)) (by rfl) T.n_sorted (by decide +kernel) (pa_cons (pe_op (op_catAK (K := K)) (pv 9) (pe_tupF (pa_cons (pe_tupF (pa_cons (pv 6) (pa_cons (pv 5) pa_nil))) pa_nil))) pa_nil)) pa_nil)) (pa_cons (pv 8) pa_nil))) pa_nil))) (pss_cons (ps_if (pt_cmpR op_gt (pe_callB (cl_lenK (K := K)) (by rfl) T.n_len (by decide +kernel) (pa_cons (pv 1) pa_nil)) pe_int (nomark _)) (pss_cons (ps_set (i := 10) sc__law_others.nd rfl (.inl rfl) (pe_ix (ix_tupK (K := K)) (pe_ix (ix_tupK (K := K)) (pv 1) (pe_op op_sub (pv 3) pe_int) (fun _ _ => rfl)) pe_int (fun _ _ => rfl))) (pss_cons (ps_expr (pe_bm PySem.F.plainAttrs_list PySem.F.slot_list_append PySem.F.type_list_append mt_append (pv 7) (pa_cons (pe_make T.mk_Peal O_Peal___init__ (hr.mono (by decide)) (by rfl) T.mg_Peal T.b_Peal___init__ .nil pass0 (pa_cons (pv 9) (pa_cons (pv 8) pa_nil))) pa_nil))) (pss_cons (ps_set (i := 11) sc__law_others.nd rfl (.inl rfl) (pe_dget2 (hu_of hr) (pe_callTy (cl_dictHK (K := K) hr.units rfl) (by rfl) T.n_dict (by decide +kernel) (pa_cons (pe_lc (own := [("_law_tooth", 13)]) (g := (gName 13)) (tt := tYes) rfl sc__law_others.nd (pi_tupK (K := K) (pv 2)) (blkOk_by (own := [("_law_tooth", 13)]) (N := ["_law_store", "_law_ringers", "_law_teeth", "_law_k", "_law_call", "_law_size", "_law_far_here", "_law_found", "_law_away", "_law_left", "_law_mate", "_law_number_of_two", "_law_bell", "_law_tooth"]) (sc := defScope s__law_others) (by decide +kernel)) (fun _ _ _ _ _ => (pg_name (i := 13) sc__law_others.nd rfl (by first | exact .inl rfl | exact .inr rfl))) (fun _ _ _ _ _ => pts_nil) (fun _ _ _ _ _ => (pe_tupF (pa_cons (pe_slice (sl_tupAK (K := K)) (pv 13) po_none (po_some pe_int)) (pa_cons (pe_ix (ix_tupK (K := K)) (pv 13) pe_int (fun _ _ => rfl)) pa_nil))))) pa_nil)) (pe_tup (pa_cons (pv 4) (pa_cons (pv 10) pa_nil))) pe_int ⟨rfl, rfl, rfl, rfl⟩)) (pss_cons (ps_expr (pe_bm PySem.F.plainAttrs_list PySem.F.slot_list_append PySem.F.type_list_append mt_append (pv 7) (pa_cons (pe_meth (pe_make T.mk_Peal O_Peal___init__ (hr.mono (by decide)) (by rfl) T.mg_Peal T.b_Peal___init__ .nil pass0 (pa_cons (pv 1) (pa_cons (pv 2) pa_nil))) T.cl_Peal T.me_Peal_told O_Peal_told (hr.mono (by decide)) T.b_Peal_told .nil pass0 (pa_cons (pv 4) (pa_cons (pv 10) (pa_cons (pe_op op_modN (pe_op op_add (pv 11) pe_int) pe_int) pa_nil)))) pa_nil))) pss_nil)))) pss_nil) (pss_cons (ps_if (pt_cmpR (op_neDK (K := K) hr.units) (pv 2) (pe_tupF pa_nil) (nomark _)) (pss_cons (ps_expr (pe_bm PySem.F.plainAttrs_list PySem.F.slot_list_append PySem.F.type_list_append mt_append (pv 7) (pa_cons (pe_make T.mk_Peal O_Peal___init__ (hr.mono (by decide)) (by rfl) T.mg_Peal T.b_Peal___init__ .nil pass0 (pa_cons (pv 1) (pa_cons (pe_slice (sl_tupK (K := K)) (pv 2) po_none (po_some (pe_un un_neg pe_int))) pa_nil))) pa_nil))) (pss_cons (ps_expr (pe_bm PySem.F.plainAttrs_list PySem.F.slot_list_append PySem.F.type_list_append mt_append (pv 7) (pa_cons (pe_make T.mk_Peal O_Peal___init__ (hr.mono (by decide)) (by rfl) T.mg_Peal T.bd_Peal___init__ valsE pass0 (pa_cons (pv 1) pa_nil)) pa_nil))) pss_nil)) pss_nil) (pss_cons (ps_ret (pv 7)) pss_nil)))))))))), ?_⟩
    refine nrm (σ' := [some (.ref s), some v_l_ringers, some v_l_teeth, none, none, none, none, none, none, none, none, none, none, none]) rfl ?_
    obtain ⟨t1, e_t1, hm⟩ := bs hm
    refine q_set (σ' := fun v => [some (.ref s), some v_l_ringers, some v_l_teeth, some v, none, none, none, none, none, none, none, none, none, none]) (ev_callD (a := (a.1.length : Int)) (r := t1.1) (z' := t1.2) hs e_t1 (ea_cons mo_ow (ev_own rfl) (ea_d (ev_lenTM (e := (eP2 Dat.str Dat.int)) (ea_d (ev_d (K := K) rfl h_l_ringers) ea_nil)) ea_nil))) ok (fun _ => rfl) (fun v_l_k G H s1 ok h_l_k => ?_)
    have h_l_ringers := dp_up s1 _ h_l_ringers
    have h_l_teeth := dp_up s1 _ h_l_teeth
    have sg := sg.trans s1
    cases h_l_k
    have ok : Ok _ (upd M0 s (sto t1.2)) _ := ok
    have hs : (upd M0 s (sto t1.2)) s = some (sto t1.2) := upd_same
    have hB : ∀ a u, a ≠ s → M0 a = some u → (upd M0 s (sto t1.2)) a = some u := (hB_draw hB)
    obtain ⟨M, eM⟩ : ∃ m, m = (upd M0 s (sto t1.2)) := ⟨_, rfl⟩
    rw [← eM] at ok hs hB
    clear eM
    obtain ⟨t2, e_t2, hm⟩ := bs hm
    refine q_asgG (ev_ixTM (e := (eP2 Dat.str Dat.int)) e_t2 (ev_d (K := K) rfl h_l_ringers) (ev_d (K := K) rfl (.int _))) ok (fun v G H s1 ok hv => ?_)
    have h_l_ringers := dp_up s1 _ h_l_ringers
    have h_l_teeth := dp_up s1 _ h_l_teeth
    have sg := sg.trans s1
    refine gt2 hv ok.g (fun w3 w4 hw5 hw6 => ?_)
    refine gn ?_
    have h_l_call := hw5
    refine gn ?_
    have h_l_size := hw6
    cases h_l_size
    refine nrm (σ' := [some (.ref s), some v_l_ringers, some v_l_teeth, some (.int t1.1), some w3, some (.int t2.2), none, none, none, none, none, none, none, none]) rfl ?_
    obtain ⟨t13, e_t13, hm⟩ := bs hm
    obtain ⟨t14, e_t14, hm⟩ := bs hm
    refine q_set (σ' := fun v => [some (.ref s), some v_l_ringers, some v_l_teeth, some (.int t1.1), some w3, some (.int t2.2), some v, none, none, none, none, none, none, none]) (ev_callP (res := fun r => DD K (Dat.str r)) (a := t13) e_t14 (ea_d (EvL.ev (el_lcM (ea := (eP2 Dat.str Dat.int)) (eb := Dat.str) (xs := a.1) (ys := t13) (hf := e_t13) (src_tup (ev_d (K := K) rfl h_l_ringers)) (fun x7 _ Mx11 _ _ he12 sM10 sG9 hv8 => by cases he12; exact (tg_name ⟨rfl, (ev_ixT (d := Dat.str x7.1) rfl (ev_d (K := K) rfl hv8) ev_int)⟩)))) ea_nil)) ok (fun _ => rfl) (fun v_l_far_here G H s1 ok h_l_far_here => ?_)
    have h_l_ringers := dp_up s1 _ h_l_ringers
    have h_l_teeth := dp_up s1 _ h_l_teeth
    have h_l_call := dp_up s1 _ h_l_call
    have sg := sg.trans s1
    obtain ⟨t15, e_t15, hm⟩ := bs hm
    obtain ⟨t16, e_t16, hm⟩ := bs hm
    obtain ⟨t17, e_t17, hm⟩ := bs hm
    obtain ⟨t18, e_t18, hm⟩ := bs hm
    refine q_setL (σ' := fun v => [some (.ref s), some v_l_ringers, some v_l_teeth, some (.int t1.1), some w3, some (.int t2.2), some v_l_far_here, some v, none, none, none, none, none, none]) (el_lst (ea_consD (ev_make (a := (t17, a.2)) e_t18 (ea_d (ev_catTO (e := (eP2 Dat.str Dat.int)) e_t17 (ev_catTO (e := (eP2 Dat.str Dat.int)) e_t16 (ev_slTM (e := (eP2 Dat.str Dat.int)) (ev_d (K := K) rfl h_l_ringers) eo_none (eo_some (ev_d (K := K) rfl (.int _)))) (ev_tup (ea_consD (ev_tup (ea_consD (ev_d (K := K) rfl h_l_call) (ea_consD (ev_add (ev_int (K := K)) (ev_modO e_t15 (ev_sub (ev_d (K := K) rfl (.int _)) (ev_int (K := K))) (ev_int (K := K)))) (ea_nilD (K := K))))) (ea_nilD (K := K))))) (ev_slTM (e := (eP2 Dat.str Dat.int)) (ev_d (K := K) rfl h_l_ringers) (eo_some (ev_add (ev_d (K := K) rfl (.int _)) (ev_int (K := K)))) eo_none)) (ea_d (ev_d (K := K) rfl h_l_teeth) ea_nil))) (ea_nilD (K := K)))) ok (fun _ => rfl) (fun p_l_found vs_l_found G H s1 ok hn hd_l_found => ?_)
    have h_l_ringers := dp_up s1 _ h_l_ringers
    have h_l_teeth := dp_up s1 _ h_l_teeth
    have h_l_call := dp_up s1 _ h_l_call
    have h_l_far_here := dp_up s1 _ h_l_far_here
    have sg := sg.trans s1
    have n_l_store_l_found : s ≠ p_l_found := ne_of_none hs hn
    have n_l_found_l_store := n_l_store_l_found.symm
    have h0_l_found : M0 p_l_found = none := hB_none (M := M) hB hs hn
    have hd_l_found : DqAll K G vs_l_found (([t18] : (List ((List (Str × Int)) × (List (Str × Str × Int)) × (List (Str × Int)) × (List ((Str × Str) × Int))))).map eX_Peal) := hd_l_found
    have ok : Ok _ (upd M p_l_found (.lst vs_l_found)) _ := ok
    have hs : (upd M p_l_found (.lst vs_l_found)) s = some (sto t1.2) := (up_ne n_l_store_l_found hs)
    have hB : ∀ a u, a ≠ s → M0 a = some u → (upd M p_l_found (.lst vs_l_found)) a = some u := (hB_own hB h0_l_found)
    have hp_l_found : (upd M p_l_found (.lst vs_l_found)) p_l_found = some (.lst vs_l_found) := upd_same
    obtain ⟨M, eM⟩ : ∃ m, m = (upd M p_l_found (.lst vs_l_found)) := ⟨_, rfl⟩
    rw [← eM] at ok hs hB hp_l_found
    clear eM
    obtain ⟨t25, e_t25, hm⟩ := bs hm
    refine q_set (σ' := fun v => [some (.ref s), some v_l_ringers, some v_l_teeth, some (.int t1.1), some w3, some (.int t2.2), some v_l_far_here, some (.ref p_l_found), some v, none, none, none, none, none]) (ev_tupL (ea_d (EvL.ev (el_lcMF (ea := (eP3 Dat.str Dat.str Dat.int)) (eb := (eP3 Dat.str Dat.str Dat.int)) (xs := a.2) (ys := t25) (hf := e_t25) (src_tup (ev_d (K := K) rfl h_l_teeth)) (fun x19 _ Mx23 _ _ he24 sM22 sG21 hv20 => by exact (tg_name ⟨rfl, lcb_if (et_test (ev_notInS (k := true) (xs := [(x19.1, x19.2.1).1, (x19.1, x19.2.1).2]) (ev_d (K := K) rfl (dp_up sG21 _ h_l_call)) (ev_is (d' := eT Dat.str [(x19.1, x19.2.1).1, (x19.1, x19.2.1).2]) (ev_is (ev_slT (ev_d (K := K) rfl hv20) eo_none (eo_some (ev_int (K := K)))) rfl) rfl))) (fun eb => by have e1 := cond_t eb he24; cases e1; exact ⟨_, rfl, (ev_d (K := K) rfl hv20)⟩) (fun eb => by have e1 := cond_f eb he24; cases e1; exact ⟨rfl, rfl⟩)⟩)))) ea_nil)) ok (fun _ => rfl) (fun v_l_away G H s1 ok h_l_away => ?_)
    have h_l_ringers := dp_up s1 _ h_l_ringers
    have h_l_teeth := dp_up s1 _ h_l_teeth
    have h_l_call := dp_up s1 _ h_l_call
    have h_l_far_here := dp_up s1 _ h_l_far_here
    have hd_l_found := dpAll_up s1 _ hd_l_found
    have sg := sg.trans s1
    obtain ⟨t32, e_t32, hm⟩ := bs hm
    refine q_set (σ' := fun v => [some (.ref s), some v_l_ringers, some v_l_teeth, some (.int t1.1), some w3, some (.int t2.2), some v_l_far_here, some (.ref p_l_found), some v_l_away, some v, none, none, none, none]) (ev_tupL (ea_d (EvL.ev (el_lcMF (ea := (eP2 Dat.str Dat.int)) (eb := (eP2 Dat.str Dat.int)) (xs := a.1) (ys := t32) (hf := e_t32) (src_tup (ev_d (K := K) rfl h_l_ringers)) (fun x26 _ Mx30 _ _ he31 sM29 sG28 hv27 => by exact (tg_name ⟨rfl, lcb_if (et_test (ev_neS (ev_ixT (d := Dat.str x26.1) rfl (ev_d (K := K) rfl hv27) ev_int) (ev_d (K := K) rfl (dp_up sG28 _ h_l_call)))) (fun eb => by have e1 := cond_t eb he31; cases e1; exact ⟨_, rfl, (ev_d (K := K) rfl hv27)⟩) (fun eb => by have e1 := cond_f eb he31; cases e1; exact ⟨rfl, rfl⟩)⟩)))) ea_nil)) ok (fun _ => rfl) (fun v_l_left G H s1 ok h_l_left => ?_)
    have h_l_ringers := dp_up s1 _ h_l_ringers
    have h_l_teeth := dp_up s1 _ h_l_teeth
    have h_l_call := dp_up s1 _ h_l_call
    have h_l_far_here := dp_up s1 _ h_l_far_here
    have hd_l_found := dpAll_up s1 _ hd_l_found
    have h_l_away := dp_up s1 _ h_l_away
    have sg := sg.trans s1
    obtain ⟨t33, e_t33, hm⟩ := bs hm
    obtain ⟨t34, e_t34, hm⟩ := bs hm
    obtain ⟨t35, e_t35, hm⟩ := bs hm
    obtain ⟨hl_t35, ea_t35⟩ := appO_of e_t35
    refine q_append (ev_own rfl) (ea_d (ev_make (a := ((srtF fSI t33), t25)) e_t34 (ea_d (ev_tupL (ea_d (EvL.ev (el_sortedFT flatSI (ea_d (ev_catTO (e := (eP2 Dat.str Dat.int)) e_t33 (ev_d (K := K) rfl h_l_left) (ev_tup (ea_consD (ev_tup (ea_consD (ev_d (K := K) rfl h_l_far_here) (ea_consD (ev_d (K := K) rfl (.int _)) (ea_nilD (K := K))))) (ea_nilD (K := K))))) ea_nil))) ea_nil)) (ea_d (ev_d (K := K) rfl h_l_away) ea_nil))) ea_nil) hp_l_found hp_l_found (by rw [dpAll_len hd_l_found, List.length_map]; exact szlt hl_t35) ok (fun v G H s1 ok hv => ?_)
    have h_l_ringers := dp_up s1 _ h_l_ringers
    have h_l_teeth := dp_up s1 _ h_l_teeth
    have h_l_call := dp_up s1 _ h_l_call
    have h_l_far_here := dp_up s1 _ h_l_far_here
    have hd_l_found := dpAll_up s1 _ hd_l_found
    have h_l_away := dp_up s1 _ h_l_away
    have h_l_left := dp_up s1 _ h_l_left
    have sg := sg.trans s1
    have hd_l_found : DqAll K G (vs_l_found ++ [v]) (t35.map eX_Peal) := by rw [ea_t35, List.map_append]; exact dpAll_app hd_l_found (.cons hv .nil)
    have ok : Ok _ (upd M p_l_found (.lst (vs_l_found ++ [v]))) _ := ok
    have hs : (upd M p_l_found (.lst (vs_l_found ++ [v]))) s = some (sto t1.2) := (up_ne n_l_store_l_found hs)
    have hB : ∀ a u, a ≠ s → M0 a = some u → (upd M p_l_found (.lst (vs_l_found ++ [v]))) a = some u := (hB_own hB h0_l_found)
    have hp_l_found : (upd M p_l_found (.lst (vs_l_found ++ [v]))) p_l_found = some (.lst (vs_l_found ++ [v])) := upd_same
    obtain ⟨M, eM⟩ : ∃ m, m = (upd M p_l_found (.lst (vs_l_found ++ [v]))) := ⟨_, rfl⟩
    rw [← eM] at ok hs hB hp_l_found
    clear eM
    obtain ⟨vs_l_found, e_vs⟩ : ∃ m, m = (vs_l_found ++ [v]) := ⟨_, rfl⟩
    rw [← e_vs] at hp_l_found hd_l_found
    clear e_vs
    obtain ⟨j36, e_j36, hm⟩ := bs hm
    refine q_ifJ (fun σ1 G1 M1 => ∃ (y_l_mate : Option V) (y_l_number_of_two : Option V) (vs_l_found : List V), σ1 = [some (.ref s), some v_l_ringers, some v_l_teeth, some (.int t1.1), some w3, some (.int t2.2), some v_l_far_here, some (.ref p_l_found), some v_l_away, some v_l_left, y_l_mate, y_l_number_of_two, none, none] ∧ (DqAll K G1 vs_l_found (j36.map eX_Peal)) ∧ (M1 p_l_found = some (.lst vs_l_found)) ∧ (M1 s = some (sto t1.2)) ∧ (∀ a u, a ≠ s → M0 a = some u → M1 a = some u)) (et_test (ev_gt (ev_lenTM (e := (eP2 Dat.str Dat.int)) (ea_d (ev_d (K := K) rfl h_l_ringers) ea_nil)) (ev_int (K := K)))) ok (fun hb G H D1 s1 ok _ _ _ kD => ?_) (fun hb G H D1 s1 ok _ _ _ kD => ?_) (fun σ1 G M H s1 ok hj => ?_)
    · have hm := cond_t hb e_j36
      have h_l_ringers := dp_up s1 _ h_l_ringers
      have h_l_teeth := dp_up s1 _ h_l_teeth
      have h_l_call := dp_up s1 _ h_l_call
      have h_l_far_here := dp_up s1 _ h_l_far_here
      have hd_l_found := dpAll_up s1 _ hd_l_found
      have h_l_away := dp_up s1 _ h_l_away
      have h_l_left := dp_up s1 _ h_l_left
      have sg := sg.trans s1
      have sl37 := Same.refl G
      obtain ⟨t38, e_t38, hm⟩ := bs hm
      refine q_set (σ' := fun v => [some (.ref s), some v_l_ringers, some v_l_teeth, some (.int t1.1), some w3, some (.int t2.2), some v_l_far_here, some (.ref p_l_found), some v_l_away, some v_l_left, some v, none, none, none]) (ev_ixT (d := Dat.str t38.1) rfl (ev_ixTM (e := (eP2 Dat.str Dat.int)) e_t38 (ev_d (K := K) rfl h_l_ringers) (ev_sub (ev_d (K := K) rfl (.int _)) (ev_int (K := K)))) ev_int) ok (fun _ => rfl) (fun v_l_mate G H s1 ok h_l_mate => ?_)
      have h_l_ringers := dp_up s1 _ h_l_ringers
      have h_l_teeth := dp_up s1 _ h_l_teeth
      have h_l_call := dp_up s1 _ h_l_call
      have h_l_far_here := dp_up s1 _ h_l_far_here
      have hd_l_found := dpAll_up s1 _ hd_l_found
      have h_l_away := dp_up s1 _ h_l_away
      have h_l_left := dp_up s1 _ h_l_left
      have sg := sg.trans s1
      have sl37 := sl37.trans s1
      obtain ⟨t39, e_t39, hm⟩ := bs hm
      obtain ⟨t40, e_t40, hm⟩ := bs hm
      obtain ⟨hl_t40, ea_t40⟩ := appO_of e_t40
      refine q_append (ev_own rfl) (ea_d (ev_make (a := (t32, t25)) e_t39 (ea_d (ev_d (K := K) rfl h_l_left) (ea_d (ev_d (K := K) rfl h_l_away) ea_nil))) ea_nil) hp_l_found hp_l_found (by rw [dpAll_len hd_l_found, List.length_map]; exact szlt hl_t40) ok (fun v G H s1 ok hv => ?_)
      have h_l_ringers := dp_up s1 _ h_l_ringers
      have h_l_teeth := dp_up s1 _ h_l_teeth
      have h_l_call := dp_up s1 _ h_l_call
      have h_l_far_here := dp_up s1 _ h_l_far_here
      have hd_l_found := dpAll_up s1 _ hd_l_found
      have h_l_away := dp_up s1 _ h_l_away
      have h_l_left := dp_up s1 _ h_l_left
      have h_l_mate := dp_up s1 _ h_l_mate
      have sg := sg.trans s1
      have sl37 := sl37.trans s1
      have hd_l_found : DqAll K G (vs_l_found ++ [v]) (t40.map eX_Peal) := by rw [ea_t40, List.map_append]; exact dpAll_app hd_l_found (.cons hv .nil)
      have ok : Ok _ (upd M p_l_found (.lst (vs_l_found ++ [v]))) _ := ok
      have hs : (upd M p_l_found (.lst (vs_l_found ++ [v]))) s = some (sto t1.2) := (up_ne n_l_store_l_found hs)
      have hB : ∀ a u, a ≠ s → M0 a = some u → (upd M p_l_found (.lst (vs_l_found ++ [v]))) a = some u := (hB_own hB h0_l_found)
      have hp_l_found : (upd M p_l_found (.lst (vs_l_found ++ [v]))) p_l_found = some (.lst (vs_l_found ++ [v])) := upd_same
      obtain ⟨M, eM⟩ : ∃ m, m = (upd M p_l_found (.lst (vs_l_found ++ [v]))) := ⟨_, rfl⟩
      rw [← eM] at ok hs hB hp_l_found
      clear eM
      obtain ⟨vs_l_found, e_vs⟩ : ∃ m, m = (vs_l_found ++ [v]) := ⟨_, rfl⟩
      rw [← e_vs] at hp_l_found hd_l_found
      clear e_vs
      obtain ⟨t47, e_t47, hm⟩ := bs hm
      obtain ⟨t48, e_t48, hm⟩ := bs hm
      refine q_set (σ' := fun v => [some (.ref s), some v_l_ringers, some v_l_teeth, some (.int t1.1), some w3, some (.int t2.2), some v_l_far_here, some (.ref p_l_found), some v_l_away, some v_l_left, some v_l_mate, some v, none, none]) (ev_dget2P (e := Dat.int) (xs := t48) (k := (t2.1, t38.1)) (z := (0 : Int)) (EvP.ev (ep_dictP (e := Dat.int) e_t48 (ea_d (EvL.ev (el_lcM (ea := (eP3 Dat.str Dat.str Dat.int)) (eb := (eP2 (eR2 Dat.str Dat.str) Dat.int)) (xs := a.2) (ys := t47) (hf := e_t47) (src_tup (ev_d (K := K) rfl h_l_teeth)) (fun x41 _ Mx45 _ _ he46 sM44 sG43 hv42 => by cases he46; exact (tg_name ⟨rfl, (ev_tup (ea_consD (ev_is (ev_slR (by exact (show ¬ (HT.sIx 3 0 none = 0 ∧ HT.sIx 3 3 (some (2 : Int)) = 3) by decide)) (ev_d (K := K) rfl hv42) eo_none (eo_some (ev_int (K := K)))) rfl) (ea_consD (ev_ixT (d := Dat.int x41.2.2) rfl (ev_d (K := K) rfl hv42) ev_int) (ea_nilD (K := K)))))⟩)))) ea_nil))) (ev_rtup (ea_consD (ev_d (K := K) rfl h_l_call) (ea_consD (ev_d (K := K) rfl h_l_mate) (ea_nilD (K := K))))) (ev_int (K := K))) ok (fun _ => rfl) (fun v_l_number_of_two G H s1 ok h_l_number_of_two => ?_)
      have h_l_ringers := dp_up s1 _ h_l_ringers
      have h_l_teeth := dp_up s1 _ h_l_teeth
      have h_l_call := dp_up s1 _ h_l_call
      have h_l_far_here := dp_up s1 _ h_l_far_here
      have hd_l_found := dpAll_up s1 _ hd_l_found
      have h_l_away := dp_up s1 _ h_l_away
      have h_l_left := dp_up s1 _ h_l_left
      have h_l_mate := dp_up s1 _ h_l_mate
      have sg := sg.trans s1
      have sl37 := sl37.trans s1
      cases h_l_number_of_two
      obtain ⟨t49, e_t49, hm⟩ := bs hm
      obtain ⟨t50, e_t50, hm⟩ := bs hm
      obtain ⟨t51, e_t51, hm⟩ := bs hm
      obtain ⟨t52, e_t52, hm⟩ := bs hm
      obtain ⟨hl_t52, ea_t52⟩ := appO_of e_t52
      refine q_append (ev_own rfl) (ea_d (ev_meth (args := a_Peal_told K) (a := (t49, t2.1, t38.1, t50)) (by decide +kernel) rfl e_t51 (ev_make (a := (a.1, a.2)) e_t49 (ea_d (ev_d (K := K) rfl h_l_ringers) (ea_d (ev_d (K := K) rfl h_l_teeth) ea_nil))) (ea_d (ev_d (K := K) rfl h_l_call) (ea_d (ev_d (K := K) rfl h_l_mate) (ea_d (ev_modO e_t50 (ev_add (ev_d (K := K) rfl (.int _)) (ev_int (K := K))) (ev_int (K := K))) ea_nil)))) ea_nil) hp_l_found hp_l_found (by rw [dpAll_len hd_l_found, List.length_map]; exact szlt hl_t52) ok (fun v G H s1 ok hv => ?_)
      have h_l_ringers := dp_up s1 _ h_l_ringers
      have h_l_teeth := dp_up s1 _ h_l_teeth
      have h_l_call := dp_up s1 _ h_l_call
      have h_l_far_here := dp_up s1 _ h_l_far_here
      have hd_l_found := dpAll_up s1 _ hd_l_found
      have h_l_away := dp_up s1 _ h_l_away
      have h_l_left := dp_up s1 _ h_l_left
      have h_l_mate := dp_up s1 _ h_l_mate
      have sg := sg.trans s1
      have sl37 := sl37.trans s1
      have hd_l_found : DqAll K G (vs_l_found ++ [v]) (t52.map eX_Peal) := by rw [ea_t52, List.map_append]; exact dpAll_app hd_l_found (.cons hv .nil)
      have ok : Ok _ (upd M p_l_found (.lst (vs_l_found ++ [v]))) _ := ok
      have hs : (upd M p_l_found (.lst (vs_l_found ++ [v]))) s = some (sto t1.2) := (up_ne n_l_store_l_found hs)
      have hB : ∀ a u, a ≠ s → M0 a = some u → (upd M p_l_found (.lst (vs_l_found ++ [v]))) a = some u := (hB_own hB h0_l_found)
      have hp_l_found : (upd M p_l_found (.lst (vs_l_found ++ [v]))) p_l_found = some (.lst (vs_l_found ++ [v])) := upd_same
      obtain ⟨M, eM⟩ : ∃ m, m = (upd M p_l_found (.lst (vs_l_found ++ [v]))) := ⟨_, rfl⟩
      rw [← eM] at ok hs hB hp_l_found
      clear eM
      obtain ⟨vs_l_found, e_vs⟩ : ∃ m, m = (vs_l_found ++ [v]) := ⟨_, rfl⟩
      rw [← e_vs] at hp_l_found hd_l_found
      clear e_vs
      refine q_nil ?_
      cases hm
      exact kD _ _ _ _ sl37 ok ⟨_, _, _, rfl, hd_l_found, hp_l_found, hs, hB⟩
    · have hm := cond_f hb e_j36
      have h_l_ringers := dp_up s1 _ h_l_ringers
      have h_l_teeth := dp_up s1 _ h_l_teeth
      have h_l_call := dp_up s1 _ h_l_call
      have h_l_far_here := dp_up s1 _ h_l_far_here
      have hd_l_found := dpAll_up s1 _ hd_l_found
      have h_l_away := dp_up s1 _ h_l_away
      have h_l_left := dp_up s1 _ h_l_left
      have sg := sg.trans s1
      have sl53 := Same.refl G
      refine q_nil ?_
      cases hm
      exact kD _ _ _ _ sl53 ok ⟨_, _, _, rfl, hd_l_found, hp_l_found, hs, hB⟩
    · obtain ⟨y_l_mate, y_l_number_of_two, vs_l_found, rfl, hd_l_found, hp_l_found, hs, hB⟩ := hj
      have h_l_ringers := dp_up s1 _ h_l_ringers
      have h_l_teeth := dp_up s1 _ h_l_teeth
      have h_l_call := dp_up s1 _ h_l_call
      have h_l_far_here := dp_up s1 _ h_l_far_here
      have h_l_away := dp_up s1 _ h_l_away
      have h_l_left := dp_up s1 _ h_l_left
      have sg := sg.trans s1
      obtain ⟨j54, e_j54, hm⟩ := bs hm
      refine q_ifJ (fun σ1 G1 M1 => ∃ (vs_l_found : List V), σ1 = [some (.ref s), some v_l_ringers, some v_l_teeth, some (.int t1.1), some w3, some (.int t2.2), some v_l_far_here, some (.ref p_l_found), some v_l_away, some v_l_left, y_l_mate, y_l_number_of_two, none, none] ∧ (DqAll K G1 vs_l_found (j54.map eX_Peal)) ∧ (M1 p_l_found = some (.lst vs_l_found)) ∧ (M1 s = some (sto t1.2)) ∧ (∀ a u, a ≠ s → M0 a = some u → M1 a = some u)) (et_test (ev_neE (e := (eT (eP3 Dat.str Dat.str Dat.int))) (x := a.2) (y := ([] : (List (Str × Str × Int)))) (eqe_T (eqe_P3 eqe_str eqe_str eqe_int)) (by decide) (ev_d (K := K) rfl h_l_teeth) (ev_tup (ea_nilD (K := K))))) ok (fun hb G H D1 s1 ok _ _ _ kD => ?_) (fun hb G H D1 s1 ok _ _ _ kD => ?_) (fun σ1 G M H s1 ok hj => ?_)
      · have hm := cond_t hb e_j54
        have h_l_ringers := dp_up s1 _ h_l_ringers
        have h_l_teeth := dp_up s1 _ h_l_teeth
        have h_l_call := dp_up s1 _ h_l_call
        have h_l_far_here := dp_up s1 _ h_l_far_here
        have hd_l_found := dpAll_up s1 _ hd_l_found
        have h_l_away := dp_up s1 _ h_l_away
        have h_l_left := dp_up s1 _ h_l_left
        have sg := sg.trans s1
        have sl55 := Same.refl G
        obtain ⟨t56, e_t56, hm⟩ := bs hm
        obtain ⟨t57, e_t57, hm⟩ := bs hm
        obtain ⟨hl_t57, ea_t57⟩ := appO_of e_t57
        refine q_append (ev_own rfl) (ea_d (ev_make (a := (a.1, (cut a.2 none (some (-(1 : Int)))))) e_t56 (ea_d (ev_d (K := K) rfl h_l_ringers) (ea_d (ev_slTM (e := (eP3 Dat.str Dat.str Dat.int)) (ev_d (K := K) rfl h_l_teeth) eo_none (eo_some (ev_neg (ev_int (K := K))))) ea_nil))) ea_nil) hp_l_found hp_l_found (by rw [dpAll_len hd_l_found, List.length_map]; exact szlt hl_t57) ok (fun v G H s1 ok hv => ?_)
        have h_l_ringers := dp_up s1 _ h_l_ringers
        have h_l_teeth := dp_up s1 _ h_l_teeth
        have h_l_call := dp_up s1 _ h_l_call
        have h_l_far_here := dp_up s1 _ h_l_far_here
        have hd_l_found := dpAll_up s1 _ hd_l_found
        have h_l_away := dp_up s1 _ h_l_away
        have h_l_left := dp_up s1 _ h_l_left
        have sg := sg.trans s1
        have sl55 := sl55.trans s1
        have hd_l_found : DqAll K G (vs_l_found ++ [v]) (t57.map eX_Peal) := by rw [ea_t57, List.map_append]; exact dpAll_app hd_l_found (.cons hv .nil)
        have ok : Ok _ (upd M p_l_found (.lst (vs_l_found ++ [v]))) _ := ok
        have hs : (upd M p_l_found (.lst (vs_l_found ++ [v]))) s = some (sto t1.2) := (up_ne n_l_store_l_found hs)
        have hB : ∀ a u, a ≠ s → M0 a = some u → (upd M p_l_found (.lst (vs_l_found ++ [v]))) a = some u := (hB_own hB h0_l_found)
        have hp_l_found : (upd M p_l_found (.lst (vs_l_found ++ [v]))) p_l_found = some (.lst (vs_l_found ++ [v])) := upd_same
        obtain ⟨M, eM⟩ : ∃ m, m = (upd M p_l_found (.lst (vs_l_found ++ [v]))) := ⟨_, rfl⟩
        rw [← eM] at ok hs hB hp_l_found
        clear eM
        obtain ⟨vs_l_found, e_vs⟩ : ∃ m, m = (vs_l_found ++ [v]) := ⟨_, rfl⟩
        rw [← e_vs] at hp_l_found hd_l_found
        clear e_vs
        obtain ⟨t58, e_t58, hm⟩ := bs hm
        obtain ⟨t59, e_t59, hm⟩ := bs hm
        obtain ⟨hl_t59, ea_t59⟩ := appO_of e_t59
        refine q_append (ev_own rfl) (ea_d (ev_makeE (a := (a.1, ([] : (List (Str × Str × Int))))) (dv := [.ref T.e_Peal___init__]) e_t58 (fun _ _ h => by obtain ⟨v0, _, rfl, h0, rfl⟩ := h; exact ⟨v0, _, rfl, h0, _, _, rfl, nilT_dd T.nt_Peal___init__, rfl⟩) (ea_d (ev_d (K := K) rfl h_l_ringers) ea_nil)) ea_nil) hp_l_found hp_l_found (by rw [dpAll_len hd_l_found, List.length_map]; exact szlt hl_t59) ok (fun v G H s1 ok hv => ?_)
        have h_l_ringers := dp_up s1 _ h_l_ringers
        have h_l_teeth := dp_up s1 _ h_l_teeth
        have h_l_call := dp_up s1 _ h_l_call
        have h_l_far_here := dp_up s1 _ h_l_far_here
        have hd_l_found := dpAll_up s1 _ hd_l_found
        have h_l_away := dp_up s1 _ h_l_away
        have h_l_left := dp_up s1 _ h_l_left
        have sg := sg.trans s1
        have sl55 := sl55.trans s1
        have hd_l_found : DqAll K G (vs_l_found ++ [v]) (t59.map eX_Peal) := by rw [ea_t59, List.map_append]; exact dpAll_app hd_l_found (.cons hv .nil)
        have ok : Ok _ (upd M p_l_found (.lst (vs_l_found ++ [v]))) _ := ok
        have hs : (upd M p_l_found (.lst (vs_l_found ++ [v]))) s = some (sto t1.2) := (up_ne n_l_store_l_found hs)
        have hB : ∀ a u, a ≠ s → M0 a = some u → (upd M p_l_found (.lst (vs_l_found ++ [v]))) a = some u := (hB_own hB h0_l_found)
        have hp_l_found : (upd M p_l_found (.lst (vs_l_found ++ [v]))) p_l_found = some (.lst (vs_l_found ++ [v])) := upd_same
        obtain ⟨M, eM⟩ : ∃ m, m = (upd M p_l_found (.lst (vs_l_found ++ [v]))) := ⟨_, rfl⟩
        rw [← eM] at ok hs hB hp_l_found
        clear eM
        obtain ⟨vs_l_found, e_vs⟩ : ∃ m, m = (vs_l_found ++ [v]) := ⟨_, rfl⟩
        rw [← e_vs] at hp_l_found hd_l_found
        clear e_vs
        refine q_nil ?_
        cases hm
        exact kD _ _ _ _ sl55 ok ⟨_, rfl, hd_l_found, hp_l_found, hs, hB⟩
      · have hm := cond_f hb e_j54
        have h_l_ringers := dp_up s1 _ h_l_ringers
        have h_l_teeth := dp_up s1 _ h_l_teeth
        have h_l_call := dp_up s1 _ h_l_call
        have h_l_far_here := dp_up s1 _ h_l_far_here
        have hd_l_found := dpAll_up s1 _ hd_l_found
        have h_l_away := dp_up s1 _ h_l_away
        have h_l_left := dp_up s1 _ h_l_left
        have sg := sg.trans s1
        have sl60 := Same.refl G
        refine q_nil ?_
        cases hm
        exact kD _ _ _ _ sl60 ok ⟨_, rfl, hd_l_found, hp_l_found, hs, hB⟩
      · obtain ⟨vs_l_found, rfl, hd_l_found, hp_l_found, hs, hB⟩ := hj
        have h_l_ringers := dp_up s1 _ h_l_ringers
        have h_l_teeth := dp_up s1 _ h_l_teeth
        have h_l_call := dp_up s1 _ h_l_call
        have h_l_far_here := dp_up s1 _ h_l_far_here
        have h_l_away := dp_up s1 _ h_l_away
        have h_l_left := dp_up s1 _ h_l_left
        have sg := sg.trans s1
        refine q_ret (ev_own rfl) ok (fun v G H s1 ok hv => ?_)
        have sg := sg.trans s1
        have hd_l_found := dpAll_up s1 _ hd_l_found
        cases hv
        have gp : G p_l_found = none := ok.d _ _ hp_l_found
        cases hm
        exact q _ (upd G p_l_found (.lst vs_l_found)) H (sg.trans (Same.new gp)) (ok.giveL hp_l_found ((upd_ne n_l_found_l_store).trans h0_l_found) (same_fin hB hs)) (.lst upd_same (dpAll_up (Same.new gp) _ hd_l_found))
/-! ### _law_right -/
theorem sc__law_right : FnScope ["_law_store", "_law_ringers", "_law_teeth", "_law_house", "_law_anew_here", "_law_thing", "_law_due", "_law_one_here", "_law_fresh"] ["_law_store"] (defScope s__law_right) := ⟨rfl, rfl, rfl, by decide +kernel, rfl, by decide +kernel, by decide +kernel⟩
def a__law_right (K : PySem.W.Frag) (a : Unit) : List V → Hp → Prop := nilP
def m__law_right (a : Unit) (z : Sto) : Option (Bool × Sto) :=
  (m__law_kit ((8 : Int), (24 : Int)) z).bind fun t1 => (m_Peal___init__ (t1.1.1, t1.1.2)).bind fun t6 => (m__law_anew (t1.1.1, t1.1.2) t1.2).bind fun t7 => (m__law_both (t6, t7.1, true)).bind fun t8 => (cond (!t8) (some true) ((m__law_both (t6, t6, true)).bind fun t9 => some (!t9))).bind fun t10 => cond t10 (some (false, t7.2)) ((m_Peal___str__ t6).bind fun t11 => (forR (R := Bool × Sto) (fun (st13 : Unit) (x14 : Dat) => (m__law_both_2 (t6, x14, false)).bind fun t19 => cond (!t19) (some (.inr (false, t7.2))) (some (.inl ()))) ([(eN ()), (Dat.int (0 : Int)), (Dat.int (t1.1.1.length : Int)), (Dat.bool true), (Dat.str (Str.ofString "")), (Dat.str t11), ((eT (eP2 Dat.str Dat.int)) t1.1.1), ((eP2 (eT (eP2 Dat.str Dat.int)) (eT (eP3 Dat.str Dat.str Dat.int))) (t1.1.1, t1.1.2)), ((eL eX_Peal) ([t6] : (List ((List (Str × Int)) × (List (Str × Str × Int)) × (List (Str × Int)) × (List ((Str × Str) × Int)))))), ((eT eX_Peal) ([t6] : (List ((List (Str × Int)) × (List (Str × Str × Int)) × (List (Str × Int)) × (List ((Str × Str) × Int)))))), ((eDS Dat.int) ([] : List (Str × Int))), ((eT id) [])] : (List Dat)) ()).bind fun fin12 => orR fin12 (fun fin12s => (m__law_others (t1.1.1, t1.1.2) t7.2).bind fun t20 => (lcO (fun x21 : ((List (Str × Int)) × (List (Str × Str × Int)) × (List (Str × Int)) × (List ((Str × Str) × Int))) => (m__law_both (t6, x21, false)).bind fun t27 => some t27) t20.1).bind fun t28 => cond (!(t28.all id)) (some (false, t20.2)) ((strIO (t1.1.1.length : Int)).bind fun t29 => (addS (Str.ofString "Peal(") t29).bind fun t30 => (addS t30 (Str.ofString " bells, ")).bind fun t31 => (strIO (t1.1.2.length : Int)).bind fun t32 => (addS t31 t32).bind fun t33 => (addS t33 (Str.ofString " notches)")).bind fun t34 => (forR (R := Bool × Sto) (fun (st36 : Unit) (x37 : ((List (Str × Int)) × (List (Str × Str × Int)) × (List (Str × Int)) × (List ((Str × Str) × Int)))) => (m_Peal___repr__ x37).bind fun t42 => (cond (!decide (t42 = t34)) (some true) ((m_Peal___str__ x37).bind fun t43 => (m__law_text (t1.1.1, t1.1.2)).bind fun t44 => (cond (!decide (t43 = t44)) (some true) ((m_Peal___len__ x37).bind fun t45 => (lenXO t45).bind fun t46 => some (!decide ((t46 != 0) = true)))).bind fun t47 => some t47)).bind fun t48 => cond t48 (some (.inr (false, t20.2))) ((m_Peal___len__ x37).bind fun t49 => (lenXO t49).bind fun t50 => (reprX (id (Dat.int t50))).bind fun t51 => (reprX (id (Dat.int (t1.1.1.length : Int)))).bind fun t52 => cond (!decide (t51 = t52)) (some (.inr (false, t20.2))) (some (.inl ())))) ([t6, t7.1] : (List ((List (Str × Int)) × (List (Str × Str × Int)) × (List (Str × Int)) × (List ((Str × Str) × Int))))) ()).bind fun fin35 => orR fin35 (fun fin35s => some (true, t20.2)) (fun r => some r))) (fun r => some r))
abbrev sp__law_right [Tb] (K : PySem.W.Frag) : Sp := spD (a__law_right K) (m__law_right) fun r => DD K (Dat.bool r)
theorem ok__law_right [Tb] {P : Program} {w : World} {K : PySem.W.Frag} {mg : Str → Option Value} {base : Heap} (T : Txt K mg) (O__law_kit : FnOk P w K mg base CX0 3 T.a__law_kit T.d__law_kit ["_law_store", "_law_upto", "_law_most"] (sp__law_kit K)) (O_Peal___init__ : FnOk P w K mg base CX0 5 T.a_Peal___init__ T.d_Peal___init__ ["self", "bells", "notches"] (sp_Peal___init__ K)) (O__law_anew : FnOk P w K mg base CX0 8 T.a__law_anew T.d__law_anew ["_law_store", "_law_ringers", "_law_teeth"] (sp__law_anew K)) (O__law_both : FnOk P w K mg base CX0 3 T.a__law_both T.d__law_both ["_law_one_here", "_law_mate", "_law_due"] (sp__law_both K)) (O_Peal___str__ : FnOk P w K mg base CX0 1 T.a_Peal___str__ T.d_Peal___str__ ["self"] (sp_Peal___str__ K)) (O__law_both_2 : FnOk P w K mg base CX0 3 T.a__law_both T.d__law_both ["_law_one_here", "_law_mate", "_law_due"] (sp__law_both_2 K)) (O__law_others : FnOk P w K mg base CX0 8 T.a__law_others T.d__law_others ["_law_store", "_law_ringers", "_law_teeth"] (sp__law_others K)) (O_Peal___repr__ : FnOk P w K mg base CX0 1 T.a_Peal___repr__ T.d_Peal___repr__ ["self"] (sp_Peal___repr__ K)) (O__law_text : FnOk P w K mg base CX0 1 T.a__law_text T.d__law_text ["_law_ringers", "_law_teeth"] (sp__law_text K)) (O_Peal___len__ : FnOk P w K mg base CX0 1 T.a_Peal___len__ T.d_Peal___len__ ["self"] (sp_Peal___len__ K)) : FnOkG P w K mg base CX0 (9) T.a__law_right T.d__law_right ["_law_store"] (sp__law_right K) := by
  refine okG T.F__law_right sc__law_right (fun vs H Q E h => ?_) (fun cdv A outer s0 H vs Q E hr hgd h => ?_)
  · obtain ⟨G, M0, s, z, z1, a, r, ws, rfl, ok, hs, rfl, hm, q⟩ := h
    rfl
  · obtain ⟨G, M0, s, z, z1, a, r, ws, rfl, ok, hs, rfl, hm, q⟩ := h
    unfold m__law_right at hm
    have sg := Same.refl G
    have hB : ∀ a u, a ≠ s → M0 a = some u → M0 a = some u := fun _ _ _ h => h
    refine ⟨_, (pss_cons (ps_asg (pe_call O__law_kit (hr.mono (by decide)) (by rfl) T.g__law_kit T.F__law_kit.kp T.b__law_kit .nil pass0 (pa_cons (pv 0) (pa_cons pe_int (pa_cons pe_int pa_nil)))) (pg_tup rfl (pgs_cons (pg_name (i := 1) sc__law_right.nd rfl (.inl rfl)) (pgs_cons (pg_name (i := 2) sc__law_right.nd rfl (.inl rfl)) pgs_nil)))) (pss_cons (ps_asg (pe_tup (pa_cons (pe_make T.mk_Peal O_Peal___init__ (hr.mono (by decide)) (by rfl) T.mg_Peal T.b_Peal___init__ .nil pass0 (pa_cons (pv 1) (pa_cons (pv 2) pa_nil))) (pa_cons (pe_call O__law_anew (hr.mono (by decide)) (by rfl) T.g__law_anew T.F__law_anew.kp T.b__law_anew .nil pass0 (pa_cons (pv 0) (pa_cons (pv 1) (pa_cons (pv 2) pa_nil)))) pa_nil))) (pg_tup rfl (pgs_cons (pg_name (i := 3) sc__law_right.nd rfl (.inr rfl)) (pgs_cons (pg_name (i := 4) sc__law_right.nd rfl (.inl rfl)) pgs_nil)))) (pss_cons (ps_if (PW.pt (pw_or (pt_not (pt_val (pe_call O__law_both (hr.mono (by decide)) (by rfl) T.g__law_both T.F__law_both.kp T.b__law_both .nil pass0 (pa_cons (pv 3) (pa_cons (pv 4) (pa_cons pe_bl pa_nil)))))) (pw_or1 (pt_not (pt_val (pe_call O__law_both (hr.mono (by decide)) (by rfl) T.g__law_both T.F__law_both.kp T.b__law_both .nil pass0 (pa_cons (pv 3) (pa_cons (pv 3) (pa_cons pe_bl pa_nil))))))))) (pss_cons (ps_ret pe_bl) pss_nil) pss_nil) (pss_cons (ps_for PassesOwn.never rfl (pi_listK (K := K) (pe_lst (pa_cons pe_non (pa_cons pe_int (pa_cons (pe_callB (cl_lenK (K := K)) (by rfl) T.n_len (by decide +kernel) (pa_cons (pv 1) pa_nil)) (pa_cons pe_bl (pa_cons pe_str (pa_cons (pe_callTy (cl_strOwn O_Peal___str__ T.me_Peal___str__.1 T.me_Peal___str__.2 T.b_Peal___str__ (hr.mono (by decide)) pass0) (by rfl) T.n_str (by decide +kernel) (pa_cons (pv 3) pa_nil)) (pa_cons (pv 1) (pa_cons (pe_tupF (pa_cons (pv 1) (pa_cons (pv 2) pa_nil))) (pa_cons (pe_lst (pa_cons (pv 3) pa_nil)) (pa_cons (pe_tupF (pa_cons (pv 3) pa_nil)) (pa_cons pe_dnewK (pa_cons (pe_tupF pa_nil) pa_nil)))))))))))))) (pg_name (i := 5) sc__law_right.nd rfl (.inl rfl)) (pss_cons (ps_if (pt_not (pt_val (pe_call O__law_both_2 (hr.mono (by decide)) (by rfl) T.g__law_both T.F__law_both.kp T.b__law_both .nil pass0 (pa_cons (pv 3) (pa_cons (pv 5) (pa_cons pe_bl pa_nil)))))) (pss_cons (ps_ret pe_bl) pss_nil) pss_nil) pss_nil)) (pss_cons (ps_if (pt_not (pt_val (pe_callB (cr_allK (K := K) rfl) (by rfl) T.n_all (by decide +kernel) (pa_cons (pe_lc (own := [("_law_fresh", 8)]) (g := (gName 8)) (tt := tYes) rfl sc__law_right.nd (pi_listK (K := K) (pe_call O__law_others (hr.mono (by decide)) (by rfl) T.g__law_others T.F__law_others.kp T.b__law_others .nil pass0 (pa_cons (pv 0) (pa_cons (pv 1) (pa_cons (pv 2) pa_nil))))) (blkOk_by (own := [("_law_fresh", 8)]) (N := ["_law_store", "_law_ringers", "_law_teeth", "_law_house", "_law_anew_here", "_law_thing", "_law_due", "_law_one_here", "_law_fresh"]) (sc := defScope s__law_right) (by decide +kernel)) (fun _ _ _ _ _ => (pg_name (i := 8) sc__law_right.nd rfl (by first | exact .inl rfl | exact .inr rfl))) (fun _ _ _ _ _ => pts_nil) (fun _ _ _ _ _ => (pe_call O__law_both (hr.mono (by decide)) (by rfl) T.g__law_both T.F__law_both.kp T.b__law_both .nil pass0 (pa_cons (pv 3) (pa_cons (pv 8) (pa_cons pe_bl pa_nil)))))) pa_nil)))) (pss_cons (ps_ret pe_bl) pss_nil) pss_nil) (pss_cons (ps_set (i := 6) sc__law_right.nd rfl (.inl rfl) (pe_op op_add_str (pe_op op_add_str (pe_op op_add_str (pe_op op_add_str pe_str (pe_callTy call_str_int (by rfl) T.n_str (by decide +kernel) (pa_cons (pe_callB (cl_lenK (K := K)) (by rfl) T.n_len (by decide +kernel) (pa_cons (pv 1) pa_nil)) pa_nil))) pe_str) (pe_callTy call_str_int (by rfl) T.n_str (by decide +kernel) (pa_cons (pe_callB (cl_lenK (K := K)) (by rfl) T.n_len (by decide +kernel) (pa_cons (pv 2) pa_nil)) pa_nil))) pe_str)) (pss_cons (ps_for PassesOwn.never rfl (pi_listK (K := K) (pe_lst (pa_cons (pv 3) (pa_cons (pv 4) pa_nil)))) (pg_name (i := 7) sc__law_right.nd rfl (.inl rfl)) (pss_cons (ps_if (PW.pt (pw_or (pt_cmpR op_ne (pe_callB (cl_reprOwn O_Peal___repr__ T.me_Peal___repr__.1 T.me_Peal___repr__.2 T.b_Peal___repr__ (hr.mono (by decide)) pass0) (by rfl) T.n_repr (by decide +kernel) (pa_cons (pv 7) pa_nil)) (pv 6) (nomark _)) (pw_or (pt_cmpR op_ne (pe_callTy (cl_strOwn O_Peal___str__ T.me_Peal___str__.1 T.me_Peal___str__.2 T.b_Peal___str__ (hr.mono (by decide)) pass0) (by rfl) T.n_str (by decide +kernel) (pa_cons (pv 7) pa_nil)) (pe_call O__law_text (hr.mono (by decide)) (by rfl) T.g__law_text T.F__law_text.kp T.b__law_text .nil pass0 (pa_cons (pv 1) (pa_cons (pv 2) pa_nil))) (nomark _)) (pw_or1 (pt_cmpR op_notTr (pe_callTy (cl_boolOwn O_Peal___len__ T.nb_Peal T.me_Peal___len__.1 T.me_Peal___len__.2 T.b_Peal___len__ (hr.mono (by decide)) pass0) (by rfl) T.n_bool (by decide +kernel) (pa_cons (pv 7) pa_nil)) pe_bl (nomark _)))))) (pss_cons (ps_ret pe_bl) pss_nil) pss_nil) (pss_cons (ps_if (pt_cmpR op_ne (pe_callB (cl_reprX (K := K) hgd hr.units rfl) (by rfl) T.n_repr (by decide +kernel) (pa_cons (pe_callB (cl_lenOwn O_Peal___len__ T.me_Peal___len__.1 T.me_Peal___len__.2 T.b_Peal___len__ (hr.mono (by decide)) pass0) (by rfl) T.n_len (by decide +kernel) (pa_cons (pv 7) pa_nil)) pa_nil)) (pe_callB (cl_reprX (K := K) hgd hr.units rfl) (by rfl) T.n_repr (by decide +kernel) (pa_cons (pe_callB (cl_lenK (K := K)) (by rfl) T.n_len (by decide +kernel) (pa_cons (pv 1) pa_nil)) pa_nil)) (nomark _)) (pss_cons (ps_ret pe_bl) pss_nil) pss_nil) pss_nil))) (pss_cons (ps_ret pe_bl) pss_nil)))))))), ?_⟩
    refine nrm (σ' := [some (.ref s), none, none, none, none, none, none, none, none]) rfl ?_
    obtain ⟨t1, e_t1, hm⟩ := bs hm
    refine q_asgG (ev_callD (a := ((8 : Int), (24 : Int))) (r := t1.1) (z' := t1.2) hs e_t1 (ea_cons mo_ow (ev_own rfl) (ea_d (ev_int (K := K)) (ea_d (ev_int (K := K)) ea_nil)))) ok (fun v G H s1 ok hv => ?_)
    have sg := sg.trans s1
    refine gt2 hv ok.g (fun w2 w3 hw4 hw5 => ?_)
    refine gn ?_
    have h_l_ringers := hw4
    refine gn ?_
    have h_l_teeth := hw5
    refine nrm (σ' := [some (.ref s), some w2, some w3, none, none, none, none, none, none]) rfl ?_
    have ok : Ok _ (upd M0 s (sto t1.2)) _ := ok
    have hs : (upd M0 s (sto t1.2)) s = some (sto t1.2) := upd_same
    have hB : ∀ a u, a ≠ s → M0 a = some u → (upd M0 s (sto t1.2)) a = some u := (hB_draw hB)
    obtain ⟨M, eM⟩ : ∃ m, m = (upd M0 s (sto t1.2)) := ⟨_, rfl⟩
    rw [← eM] at ok hs hB
    clear eM
    obtain ⟨t6, e_t6, hm⟩ := bs hm
    obtain ⟨t7, e_t7, hm⟩ := bs hm
    refine q_tupDD (σ' := fun v w => [some (.ref s), some w2, some w3, some v, some w, none, none, none, none]) (ev_make (a := (t1.1.1, t1.1.2)) e_t6 (ea_d (ev_d (K := K) rfl h_l_ringers) (ea_d (ev_d (K := K) rfl h_l_teeth) ea_nil))) mo_dd (ev_callD (a := (t1.1.1, t1.1.2)) (r := t7.1) (z' := t7.2) hs e_t7 (ea_cons mo_ow (ev_own rfl) (ea_d (ev_d (K := K) rfl h_l_ringers) (ea_d (ev_d (K := K) rfl h_l_teeth) ea_nil)))) mo_dd ok (fun _ _ => rfl) (fun v_l_house v_l_anew_here G H s1 ok h_l_house h_l_anew_here => ?_)
    have h_l_ringers := dp_up s1 _ h_l_ringers
    have h_l_teeth := dp_up s1 _ h_l_teeth
    have sg := sg.trans s1
    have ok : Ok _ (upd M s (sto t7.2)) _ := ok
    have hs : (upd M s (sto t7.2)) s = some (sto t7.2) := upd_same
    have hB : ∀ a u, a ≠ s → M0 a = some u → (upd M s (sto t7.2)) a = some u := (hB_draw hB)
    obtain ⟨M, eM⟩ : ∃ m, m = (upd M s (sto t7.2)) := ⟨_, rfl⟩
    rw [← eM] at ok hs hB
    clear eM
    obtain ⟨t8, e_t8, hm⟩ := bs hm
    obtain ⟨t10, e_t10, hm⟩ := bs hm
    refine q_if (et_orG (c := t10) (et_not (et_B (ev_callP (res := fun r => DD K (Dat.bool r)) (a := (t6, t7.1, true)) e_t8 (ea_d (ev_d (K := K) rfl h_l_house) (ea_d (ev_d (K := K) rfl h_l_anew_here) (ea_d (ev_bl (K := K)) ea_nil)))))) (fun eb => by have e1 := cond_f eb e_t10; (obtain ⟨t9, e_t9, e1⟩ := bs e1); (have e1 := Option.some.inj e1); subst e1; exact (et_not (et_B (ev_callP (res := fun r => DD K (Dat.bool r)) (a := (t6, t6, true)) e_t9 (ea_d (ev_d (K := K) rfl h_l_house) (ea_d (ev_d (K := K) rfl h_l_house) (ea_d (ev_bl (K := K)) ea_nil))))))) (fun eb => by have e1 := cond_t eb e_t10; cases e1; exact ⟨rfl, rfl⟩)) ok (fun hb G H s1 ok => ?_) (fun hb G H s1 ok => ?_)
    · have hm := cond_t hb hm
      have h_l_ringers := dp_up s1 _ h_l_ringers
      have h_l_teeth := dp_up s1 _ h_l_teeth
      have h_l_house := dp_up s1 _ h_l_house
      have h_l_anew_here := dp_up s1 _ h_l_anew_here
      have sg := sg.trans s1
      refine q_ret (ev_bl (K := K)) ok (fun v G H s1 ok hv => ?_)
      have sg := sg.trans s1
      cases hm
      exact q v G H sg (ok.less (same_fin hB hs)) hv
    · have hm := cond_f hb hm
      have h_l_ringers := dp_up s1 _ h_l_ringers
      have h_l_teeth := dp_up s1 _ h_l_teeth
      have h_l_house := dp_up s1 _ h_l_house
      have h_l_anew_here := dp_up s1 _ h_l_anew_here
      have sg := sg.trans s1
      refine q_nilU ?_
      obtain ⟨t11, e_t11, hm⟩ := bs hm
      obtain ⟨fin12, e_fin12, hm⟩ := bs hm
      have hmo15 := hm
      refine q_forR (ea := id) (src_list (EvL.ev (el_lst (ea_consD (ev_non (K := K)) (ea_consD (ev_int (K := K)) (ea_consD (ev_lenTM (e := (eP2 Dat.str Dat.int)) (ea_d (ev_d (K := K) rfl h_l_ringers) ea_nil)) (ea_consD (ev_bl (K := K)) (ea_consD (ev_str (K := K) (by decide +kernel)) (ea_consD (ev_own1 (args := a_Peal___str__ K) (a := t6) rfl e_t11 (ea_d (ev_d (K := K) rfl h_l_house) ea_nil)) (ea_consD (ev_d (K := K) rfl h_l_ringers) (ea_consD (ev_tup (ea_consD (ev_d (K := K) rfl h_l_ringers) (ea_consD (ev_d (K := K) rfl h_l_teeth) (ea_nilD (K := K))))) (ea_consD (EvL.ev (el_lst (ea_consD (ev_d (K := K) rfl h_l_house) (ea_nilD (K := K))))) (ea_consD (ev_tup (ea_consD (ev_d (K := K) rfl h_l_house) (ea_nilD (K := K)))) (ea_consD (EvD.ev (ed_new (K := K) (e := Dat.int))) (ea_consD (ev_tup (ea_nilD (K := K))) (ea_nilD (K := K))))))))))))))))) ok (fun (st13 : Unit) σ1 G1 M1 => ∃ (y_l_thing : Option V), σ1 = [some (.ref s), some w2, some w3, some v_l_house, some v_l_anew_here, y_l_thing, none, none, none] ∧ (M1 s = some (sto t7.2)) ∧ (∀ a u, a ≠ s → M0 a = some u → M1 a = some u)) e_fin12 (fun G1 s1 => ⟨_, rfl, hs, hB⟩) (by rintro _ _ _ _ _ ⟨y_l_thing, rfl, hs, hB⟩ s2; exact ⟨_, rfl, hs, hB⟩) (fun x14 xv17 st13 st' σ1 G M H N hm hret16 hj s1 ok hv hN => ?_) (fun fin12s σ1 G M H hfin s1 ok hj => ?_)
      · obtain ⟨y_l_thing, rfl, hs, hB⟩ := hj
        have h_l_ringers := dp_up s1 _ h_l_ringers
        have h_l_teeth := dp_up s1 _ h_l_teeth
        have h_l_house := dp_up s1 _ h_l_house
        have h_l_anew_here := dp_up s1 _ h_l_anew_here
        have sg := sg.trans s1
        have sl18 := Same.refl G
        refine gn ?_
        have h_l_thing := hv
        refine nrm (σ' := [some (.ref s), some w2, some w3, some v_l_house, some v_l_anew_here, some xv17, none, none, none]) rfl ?_
        obtain ⟨t19, e_t19, hm⟩ := bs hm
        refine q_if (et_not (et_B (ev_callP (res := fun r => DD K (Dat.bool r)) (a := (t6, x14, false)) e_t19 (ea_d (ev_d (K := K) rfl h_l_house) (ea_d (ev_d (K := K) rfl h_l_thing) (ea_d (ev_bl (K := K)) ea_nil)))))) ok (fun hb G H s1 ok => ?_) (fun hb G H s1 ok => ?_)
        · have hm := cond_t hb hm
          have h_l_ringers := dp_up s1 _ h_l_ringers
          have h_l_teeth := dp_up s1 _ h_l_teeth
          have h_l_house := dp_up s1 _ h_l_house
          have h_l_anew_here := dp_up s1 _ h_l_anew_here
          have h_l_thing := dp_up s1 _ h_l_thing
          have sg := sg.trans s1
          have sl18 := sl18.trans s1
          refine q_ret (ev_bl (K := K)) ok (fun v G H s1 ok hv => ?_)
          have sg := sg.trans s1
          cases hm
          have hf0 := hret16 _ rfl
          rw [hf0] at hmo15
          have hmx0 := hmo15
          cases hmx0
          exact q v G H sg (ok.less (same_fin hB hs)) hv
        · have hm := cond_f hb hm
          have h_l_ringers := dp_up s1 _ h_l_ringers
          have h_l_teeth := dp_up s1 _ h_l_teeth
          have h_l_house := dp_up s1 _ h_l_house
          have h_l_anew_here := dp_up s1 _ h_l_anew_here
          have h_l_thing := dp_up s1 _ h_l_thing
          have sg := sg.trans s1
          have sl18 := sl18.trans s1
          refine q_nilU ?_
          refine q_nil ?_
          cases hm
          exact hN _ _ _ _ _ rfl sl18 ok ⟨_, rfl, hs, hB⟩
      · obtain ⟨y_l_thing, rfl, hs, hB⟩ := hj
        have h_l_ringers := dp_up s1 _ h_l_ringers
        have h_l_teeth := dp_up s1 _ h_l_teeth
        have h_l_house := dp_up s1 _ h_l_house
        have h_l_anew_here := dp_up s1 _ h_l_anew_here
        have sg := sg.trans s1
        rw [hfin] at hm
        have hm := orR_l hm
        obtain ⟨t20, e_t20, hm⟩ := bs hm
        obtain ⟨t28, e_t28, hm⟩ := bs hm
        refine q_if (et_not (et_B (ev_allL (ea_d (EvL.ev (el_lcM (ea := eX_Peal) (eb := Dat.bool) (xs := t20.1) (ys := t28) (hf := e_t28) (src_list (ev_callD (a := (t1.1.1, t1.1.2)) (r := t20.1) (z' := t20.2) hs e_t20 (ea_cons mo_ow (ev_own rfl) (ea_d (ev_d (K := K) rfl h_l_ringers) (ea_d (ev_d (K := K) rfl h_l_teeth) ea_nil))))) (fun x21 _ Mx25 _ _ he26 sM24 sG23 hv22 => by (obtain ⟨t27, e_t27, he26⟩ := bs he26); (have he26 := Option.some.inj he26); subst he26; exact (tg_name ⟨rfl, (ev_callP (res := fun r => DD K (Dat.bool r)) (a := (t6, x21, false)) e_t27 (ea_d (ev_d (K := K) rfl (dp_up sG23 _ h_l_house)) (ea_d (ev_d (K := K) rfl hv22) (ea_d (ev_bl (K := K)) ea_nil))))⟩)))) ea_nil)))) ok (fun hb G H s1 ok => ?_) (fun hb G H s1 ok => ?_)
        · have hm := cond_t hb hm
          have h_l_ringers := dp_up s1 _ h_l_ringers
          have h_l_teeth := dp_up s1 _ h_l_teeth
          have h_l_house := dp_up s1 _ h_l_house
          have h_l_anew_here := dp_up s1 _ h_l_anew_here
          have sg := sg.trans s1
          have ok : Ok _ (upd M s (sto t20.2)) _ := ok
          have hs : (upd M s (sto t20.2)) s = some (sto t20.2) := upd_same
          have hB : ∀ a u, a ≠ s → M0 a = some u → (upd M s (sto t20.2)) a = some u := (hB_draw hB)
          obtain ⟨M, eM⟩ : ∃ m, m = (upd M s (sto t20.2)) := ⟨_, rfl⟩
          rw [← eM] at ok hs hB
          clear eM
          refine q_ret (ev_bl (K := K)) ok (fun v G H s1 ok hv => ?_)
          have sg := sg.trans s1
          cases hm
          exact q v G H sg (ok.less (same_fin hB hs)) hv
        · have hm := cond_f hb hm
          have h_l_ringers := dp_up s1 _ h_l_ringers
          have h_l_teeth := dp_up s1 _ h_l_teeth
          have h_l_house := dp_up s1 _ h_l_house
          have h_l_anew_here := dp_up s1 _ h_l_anew_here
          have sg := sg.trans s1
          have ok : Ok _ (upd M s (sto t20.2)) _ := ok
          have hs : (upd M s (sto t20.2)) s = some (sto t20.2) := upd_same
          have hB : ∀ a u, a ≠ s → M0 a = some u → (upd M s (sto t20.2)) a = some u := (hB_draw hB)
          obtain ⟨M, eM⟩ : ∃ m, m = (upd M s (sto t20.2)) := ⟨_, rfl⟩
          rw [← eM] at ok hs hB
          clear eM
          refine q_nilU ?_
          obtain ⟨t29, e_t29, hm⟩ := bs hm
          obtain ⟨t30, e_t30, hm⟩ := bs hm
          obtain ⟨t31, e_t31, hm⟩ := bs hm
          obtain ⟨t32, e_t32, hm⟩ := bs hm
          obtain ⟨t33, e_t33, hm⟩ := bs hm
          obtain ⟨t34, e_t34, hm⟩ := bs hm
          refine q_set (σ' := fun v => [some (.ref s), some w2, some w3, some v_l_house, some v_l_anew_here, y_l_thing, some v, none, none]) (ev_addS e_t34 (ev_addS e_t33 (ev_addS e_t31 (ev_addS e_t30 (ev_str (K := K) (by decide +kernel)) (ev_strI e_t29 (ea_d (ev_lenTM (e := (eP2 Dat.str Dat.int)) (ea_d (ev_d (K := K) rfl h_l_ringers) ea_nil)) ea_nil))) (ev_str (K := K) (by decide +kernel))) (ev_strI e_t32 (ea_d (ev_lenTM (e := (eP3 Dat.str Dat.str Dat.int)) (ea_d (ev_d (K := K) rfl h_l_teeth) ea_nil)) ea_nil))) (ev_str (K := K) (by decide +kernel))) ok (fun _ => rfl) (fun v_l_due G H s1 ok h_l_due => ?_)
          have h_l_ringers := dp_up s1 _ h_l_ringers
          have h_l_teeth := dp_up s1 _ h_l_teeth
          have h_l_house := dp_up s1 _ h_l_house
          have h_l_anew_here := dp_up s1 _ h_l_anew_here
          have sg := sg.trans s1
          obtain ⟨fin35, e_fin35, hm⟩ := bs hm
          have hmo38 := hm
          refine q_forR (ea := eX_Peal) (src_list (EvL.ev (el_lst (ea_consD (ev_d (K := K) rfl h_l_house) (ea_consD (ev_d (K := K) rfl h_l_anew_here) (ea_nilD (K := K))))))) ok (fun (st36 : Unit) σ1 G1 M1 => ∃ (y_l_one_here : Option V), σ1 = [some (.ref s), some w2, some w3, some v_l_house, some v_l_anew_here, y_l_thing, some v_l_due, y_l_one_here, none] ∧ (M1 s = some (sto t20.2)) ∧ (∀ a u, a ≠ s → M0 a = some u → M1 a = some u)) e_fin35 (fun G1 s1 => ⟨_, rfl, hs, hB⟩) (by rintro _ _ _ _ _ ⟨y_l_one_here, rfl, hs, hB⟩ s2; exact ⟨_, rfl, hs, hB⟩) (fun x37 xv40 st36 st' σ1 G M H N hm hret39 hj s1 ok hv hN => ?_) (fun fin35s σ1 G M H hfin s1 ok hj => ?_)
          · obtain ⟨y_l_one_here, rfl, hs, hB⟩ := hj
            have h_l_ringers := dp_up s1 _ h_l_ringers
            have h_l_teeth := dp_up s1 _ h_l_teeth
            have h_l_house := dp_up s1 _ h_l_house
            have h_l_anew_here := dp_up s1 _ h_l_anew_here
            have h_l_due := dp_up s1 _ h_l_due
            have sg := sg.trans s1
            have sl41 := Same.refl G
            refine gn ?_
            have h_l_one_here := hv
            refine nrm (σ' := [some (.ref s), some w2, some w3, some v_l_house, some v_l_anew_here, y_l_thing, some v_l_due, some xv40, none]) rfl ?_
            obtain ⟨t42, e_t42, hm⟩ := bs hm
            obtain ⟨t48, e_t48, hm⟩ := bs hm
            refine q_if (et_orG (c := t48) (et_test (ev_neS (ev_own1 (args := a_Peal___repr__ K) (a := x37) rfl e_t42 (ea_d (ev_d (K := K) rfl h_l_one_here) ea_nil)) (ev_d (K := K) rfl h_l_due))) (fun eb => by have e1 := cond_f eb e_t48; (obtain ⟨t43, e_t43, e1⟩ := bs e1); (obtain ⟨t44, e_t44, e1⟩ := bs e1); (obtain ⟨t47, e_t47, e1⟩ := bs e1); (have e1 := Option.some.inj e1); subst e1; exact (et_orG (c := t47) (et_test (ev_neS (ev_own1 (args := a_Peal___str__ K) (a := x37) rfl e_t43 (ea_d (ev_d (K := K) rfl h_l_one_here) ea_nil)) (ev_callP (res := fun r => DD K (Dat.str r)) (a := (t1.1.1, t1.1.2)) e_t44 (ea_d (ev_d (K := K) rfl h_l_ringers) (ea_d (ev_d (K := K) rfl h_l_teeth) ea_nil))))) (fun eb => by have e1 := cond_f eb e_t47; (obtain ⟨t45, e_t45, e1⟩ := bs e1); (obtain ⟨t46, e_t46, e1⟩ := bs e1); (have e1 := Option.some.inj e1); subst e1; exact (et_test (ev_notTr (ev_boolOwn (args := a_Peal___len__ K) (a := x37) rfl e_t45 e_t46 (ea_d (ev_d (K := K) rfl h_l_one_here) ea_nil)) (ev_bl (K := K))))) (fun eb => by have e1 := cond_t eb e_t47; cases e1; exact ⟨rfl, rfl⟩))) (fun eb => by have e1 := cond_t eb e_t48; cases e1; exact ⟨rfl, rfl⟩)) ok (fun hb G H s1 ok => ?_) (fun hb G H s1 ok => ?_)
            · have hm := cond_t hb hm
              have h_l_ringers := dp_up s1 _ h_l_ringers
              have h_l_teeth := dp_up s1 _ h_l_teeth
              have h_l_house := dp_up s1 _ h_l_house
              have h_l_anew_here := dp_up s1 _ h_l_anew_here
              have h_l_due := dp_up s1 _ h_l_due
              have h_l_one_here := dp_up s1 _ h_l_one_here
              have sg := sg.trans s1
              have sl41 := sl41.trans s1
              refine q_ret (ev_bl (K := K)) ok (fun v G H s1 ok hv => ?_)
              have sg := sg.trans s1
              cases hm
              have hf0 := hret39 _ rfl
              rw [hf0] at hmo38
              have hmx0 := hmo38
              cases hmx0
              exact q v G H sg (ok.less (same_fin hB hs)) hv
            · have hm := cond_f hb hm
              have h_l_ringers := dp_up s1 _ h_l_ringers
              have h_l_teeth := dp_up s1 _ h_l_teeth
              have h_l_house := dp_up s1 _ h_l_house
              have h_l_anew_here := dp_up s1 _ h_l_anew_here
              have h_l_due := dp_up s1 _ h_l_due
              have h_l_one_here := dp_up s1 _ h_l_one_here
              have sg := sg.trans s1
              have sl41 := sl41.trans s1
              refine q_nilU ?_
              obtain ⟨t49, e_t49, hm⟩ := bs hm
              obtain ⟨t50, e_t50, hm⟩ := bs hm
              obtain ⟨t51, e_t51, hm⟩ := bs hm
              obtain ⟨t52, e_t52, hm⟩ := bs hm
              refine q_if (et_test (ev_neS (ev_reprX (d := id (Dat.int t50)) e_t51 (ea_d (ev_lenOwn (args := a_Peal___len__ K) (a := x37) rfl e_t49 e_t50 (ea_d (ev_d (K := K) rfl h_l_one_here) ea_nil)) ea_nil)) (ev_reprX (d := id (Dat.int (t1.1.1.length : Int))) e_t52 (ea_d (ev_lenTM (e := (eP2 Dat.str Dat.int)) (ea_d (ev_d (K := K) rfl h_l_ringers) ea_nil)) ea_nil)))) ok (fun hb G H s1 ok => ?_) (fun hb G H s1 ok => ?_)
              · have hm := cond_t hb hm
                have h_l_ringers := dp_up s1 _ h_l_ringers
                have h_l_teeth := dp_up s1 _ h_l_teeth
                have h_l_house := dp_up s1 _ h_l_house
                have h_l_anew_here := dp_up s1 _ h_l_anew_here
                have h_l_due := dp_up s1 _ h_l_due
                have h_l_one_here := dp_up s1 _ h_l_one_here
                have sg := sg.trans s1
                have sl41 := sl41.trans s1
                refine q_ret (ev_bl (K := K)) ok (fun v G H s1 ok hv => ?_)
                have sg := sg.trans s1
                cases hm
                have hf0 := hret39 _ rfl
                rw [hf0] at hmo38
                have hmx0 := hmo38
                cases hmx0
                exact q v G H sg (ok.less (same_fin hB hs)) hv
              · have hm := cond_f hb hm
                have h_l_ringers := dp_up s1 _ h_l_ringers
                have h_l_teeth := dp_up s1 _ h_l_teeth
                have h_l_house := dp_up s1 _ h_l_house
                have h_l_anew_here := dp_up s1 _ h_l_anew_here
                have h_l_due := dp_up s1 _ h_l_due
                have h_l_one_here := dp_up s1 _ h_l_one_here
                have sg := sg.trans s1
                have sl41 := sl41.trans s1
                refine q_nilU ?_
                refine q_nil ?_
                cases hm
                exact hN _ _ _ _ _ rfl sl41 ok ⟨_, rfl, hs, hB⟩
          · obtain ⟨y_l_one_here, rfl, hs, hB⟩ := hj
            have h_l_ringers := dp_up s1 _ h_l_ringers
            have h_l_teeth := dp_up s1 _ h_l_teeth
            have h_l_house := dp_up s1 _ h_l_house
            have h_l_anew_here := dp_up s1 _ h_l_anew_here
            have h_l_due := dp_up s1 _ h_l_due
            have sg := sg.trans s1
            rw [hfin] at hm
            have hm := orR_l hm
            refine q_ret (ev_bl (K := K)) ok (fun v G H s1 ok hv => ?_)
            have sg := sg.trans s1
            cases hm
            exact q v G H sg (ok.less (same_fin hB hs)) hv
/-! ### law -/
theorem sc_law : FnScope ["_law_script", "_law_k"] ["_law_script"] (defScope s_law) := ⟨rfl, rfl, rfl, by decide +kernel, rfl, by decide +kernel, by decide +kernel⟩
def a_law (K : PySem.W.Frag) (a : (List Int)) : List V → Hp → Prop := conP (SCP K a) (nilP)
def m_law (a : (List Int)) : Option Bool :=
  (rngO (if (if (6 : Int) < (a.length : Int) then (6 : Int) else (a.length : Int)) > (2 : Int) then (if (6 : Int) < (a.length : Int) then (6 : Int) else (a.length : Int)) else (2 : Int))).bind fun t1 => (lcO (fun x2 : Int => (m__law_opened (a, x2)).bind fun t8 => (m__law_right () t8).bind fun t9 => some t9.1) t1).bind fun t10 => some (t10.all id)
abbrev sp_law [Tb] (K : PySem.W.Frag) : Sp := spP (a_law K) (m_law) fun r => DD K (Dat.bool r)
theorem ok_law [Tb] {P : Program} {w : World} {K : PySem.W.Frag} {mg : Str → Option Value} {base : Heap} (T : Txt K mg) (O__law_right : FnOkG P w K mg base CX0 9 T.a__law_right T.d__law_right ["_law_store"] (sp__law_right K)) (O__law_opened : FnOk P w K mg base CX0 1 T.a__law_opened T.d__law_opened ["_law_script", "_law_k"] (sp__law_opened K)) : FnOkG P w K mg base CX0 (10) T.a_law T.d_law ["_law_script"] (sp_law K) := by
  refine okG T.F_law sc_law (fun vs H Q E h => ?_) (fun cdv A outer s0 H vs Q E hr hgd h => ?_)
  · obtain ⟨G, M0, a, r, ok, ⟨v_l_script, _, rfl, h_l_script, rfl⟩, hm, q⟩ := h
    rfl
  · obtain ⟨G, M0, a, r, ok, ⟨v_l_script, _, rfl, h_l_script, rfl⟩, hm, q⟩ := h
    unfold m_law at hm
    have sg := Same.refl G
    have hB := Same.refl M0
    refine ⟨_, (pss_cons (ps_ret (pe_callB (cr_allK (K := K) rfl) (by rfl) T.n_all (by decide +kernel) (pa_cons (pe_lc (own := [("_law_k", 1)]) (g := (gName 1)) (tt := tYes) rfl sc_law.nd (pi_range1 (by rfl) T.n_range (pa_cons (pe_callB (cl_max2 rfl) (by rfl) T.n_max (by decide +kernel) (pa_cons pe_int (pa_cons (pe_callB (cl_min2 rfl) (by rfl) T.n_min (by decide +kernel) (pa_cons (pe_callB (cl_lenK (K := K)) (by rfl) T.n_len (by decide +kernel) (pa_cons (pv 0) pa_nil)) (pa_cons pe_int pa_nil))) pa_nil))) pa_nil)) (blkOk_by (own := [("_law_k", 1)]) (N := ["_law_script", "_law_k"]) (sc := defScope s_law) (by decide +kernel)) (fun _ _ _ _ _ => (pg_name (i := 1) sc_law.nd rfl (by first | exact .inl rfl | exact .inr rfl))) (fun _ _ _ _ _ => pts_nil) (fun _ _ _ _ _ => (pe_callG O__law_right hgd (hr.mono (by decide)) (by rfl) T.g__law_right T.F__law_right.kp T.b__law_right .nil pass0 (pa_cons (pe_call O__law_opened (hr.mono (by decide)) (by rfl) T.g__law_opened T.F__law_opened.kp T.b__law_opened .nil pass0 (pa_cons (pv 0) (pa_cons (pv 1) pa_nil))) pa_nil)))) pa_nil))) pss_nil), ?_⟩
    refine nrm (σ' := [some v_l_script, none]) rfl ?_
    obtain ⟨t1, e_t1, hm⟩ := bs hm
    obtain ⟨t10, e_t10, hm⟩ := bs hm
    refine q_ret (ev_allL (ea_d (EvL.ev (el_lcM (ea := Dat.int) (eb := Dat.bool) (xs := t1) (ys := t10) (hf := e_t10) (src_rngO e_t1 (ea_d (ev_max2 (ea_d (ev_int (K := K)) (ea_d (ev_min2 (ea_d (ev_lenScr (ea_cons mo_scp (ev_var rfl mo_scp h_l_script) ea_nil)) (ea_d (ev_int (K := K)) ea_nil))) ea_nil))) ea_nil)) (fun x2 _ Mx6 _ _ he7 sM5 sG4 hv3 => by (obtain ⟨t8, e_t8, he7⟩ := bs he7); (obtain ⟨t9, e_t9, he7⟩ := bs he7); cases he7; exact (tg_name ⟨rfl, (ev_open (a := (a, x2)) e_t8 e_t9 (fun _ => rfl) (ea_cons mo_scp (ev_var rfl mo_scp (mo_scp _ _ _ sG4 h_l_script)) (ea_cons mo_dd (ev_d (K := K) rfl hv3) ea_nil)))⟩)))) ea_nil)) ok (fun v G H s1 ok hv => ?_)
    have sg := sg.trans s1
    cases hm
    exact q v G H sg (ok.less hB) hv
end K04
end
section
set_option maxHeartbeats 2000000
namespace Mx
open PySem L2 Kx
/-! ### what a mirror tells, by what is wanted of it -/
def Wp {α : Type} (o : Option α) (P : α → Prop) : Prop := ∃ r, o = some r ∧ P r
section
variable {α β γ S R : Type}
theorem wp_some {r : α} {P : α → Prop} (h : P r) : Wp (some r) P := ⟨r, rfl, h⟩
theorem wp_bind {o : Option α} {f : α → Option β} {P : α → Prop} {Q : β → Prop} (h : Wp o P) (k : ∀ r, P r → Wp (f r) Q) : Wp (o.bind f) Q := by
  obtain ⟨r, e, p⟩ := h
  obtain ⟨s, e2, q⟩ := k r p
  exact ⟨s, by rw [e]; exact e2, q⟩
theorem Wp.imp {o : Option α} {P Q : α → Prop} (h : Wp o P) (k : ∀ r, P r → Q r) : Wp o Q := by
  obtain ⟨r, e, p⟩ := h
  exact ⟨r, e, k r p⟩
theorem wp_cond {b : Bool} {x y : Option α} {P : α → Prop} (h1 : b = true → Wp x P) (h2 : b = false → Wp y P) : Wp (cond b x y) P := by
  cases b with
  | true => exact h1 rfl
  | false => exact h2 rfl
theorem wp_grd {p : Prop} [Decidable p] (h : p) : Wp (grd p) fun _ => True := ⟨(), grd_yes h, trivial⟩
theorem wp_mulO {i j : Int} {P : Int → Prop} (h : CMulO i j) (k : P (i * j)) : Wp (mulO i j) P := wp_bind (wp_grd h) fun _ _ => wp_some k
theorem wp_fdivO {i j : Int} {P : Int → Prop} (h : CDivN i j) (k : P (i.fdiv j)) : Wp (fdivO i j) P := wp_bind (wp_grd (.inl h)) fun _ _ => wp_some k
theorem wp_modO {i j : Int} {P : Int → Prop} (h : j ≠ 0) (k : P (i.fmod j)) : Wp (modO i j) P := wp_bind (wp_grd h) fun _ _ => wp_some k
theorem wp_powO {i j : Int} {P : Int → Prop} (h : CPow i j) (k : P (i ^ j.toNat)) : Wp (powO i j) P := wp_bind (wp_grd h) fun _ _ => wp_some k
theorem cdivw {i j : Int} {n : Nat} (h1 : 0 < j) (h2 : j < 2 ^ 200) : CDivW i j := ⟨h1, Nat.lt_of_lt_of_le (PySem.Flt.log2_lt_of (k := 200) (by decide) (by omega)) (by decide)⟩
theorem wp_dmO {i j : Int} {P : Int × Int → Prop} (h : CDivW i j) (k : P (i / j, i % j)) : Wp (dmO i j) P := wp_bind (wp_grd h) fun _ _ => wp_some k
theorem wp_is {o : Option α} {x : α} {P : α → Prop} (h : o = some x) (k : P x) : Wp o P := ⟨x, h, k⟩
theorem wp_appO {xs : List α} {x : α} {P : List α → Prop} (h : xs.length < 16777216) (k : P (xs ++ [x])) : Wp (appO xs x) P := wp_bind (wp_grd h) fun _ _ => wp_some k
theorem wp_rngO {n : Int} {P : List Int → Prop} (h : -(2 ^ 62) ≤ n ∧ n < 2 ^ 62) (k : P (irange 0 n)) : Wp (rngO n) P := wp_bind (wp_grd h) fun _ _ => wp_some k
theorem wp_rngN {n : Nat} {P : List Int → Prop} (h : n ≤ 16777216) (k : P (irange 0 (n : Int))) : Wp (rngO (n : Int)) P := wp_rngO (by omega) k
theorem atI_nat' {xs : List α} {i : Nat} (h : i < xs.length) : atI xs (i : Int) = some xs[i] := by
  unfold atI ixN
  rw [if_pos (by omega), if_pos (by omega)]
  show xs[(i : Int).toNat]? = _
  rw [Int.toNat_natCast]
  exact List.getElem?_eq_getElem h
theorem wp_atI {xs : List α} {i : Nat} {P : α → Prop} (h : i < xs.length) (k : P xs[i]) : Wp (atI xs (i : Int)) P := ⟨_, atI_nat' h, k⟩
/-- a comprehension: each element by what is wanted of it -/
theorem wp_mapO {f : α → Option β} {T : α → β → Prop} : ∀ {xs : List α}, (∀ x ∈ xs, Wp (f x) (T x)) → Wp (mapO f xs) fun ys => ys.length = xs.length ∧ ∀ (i : Nat) (x : α) (y : β), xs[i]? = some x → ys[i]? = some y → T x y
  | [], _ => wp_some ⟨rfl, fun i x y h => by simp at h⟩
  | a :: xs, h => by
    refine wp_bind (h a List.mem_cons_self) fun b hb => wp_bind (wp_mapO fun x hx => h x (List.mem_cons_of_mem _ hx)) fun ys hys => wp_some ⟨congrArg (· + 1) hys.1, fun i x y hx hy => ?_⟩
    cases i with
    | zero => simp at hx hy; subst hx; subst hy; exact hb
    | succ i => exact hys.2 i x y (by simpa using hx) (by simpa using hy)
theorem wp_lcO {f : α → Option β} {xs : List α} {P : List β → Prop} (T : α → β → Prop) (hl : xs.length ≤ 16777216) (h : ∀ x ∈ xs, Wp (f x) (T x)) (k : ∀ ys, ys.length = xs.length → (∀ (i : Nat) (x : α) (y : β), xs[i]? = some x → ys[i]? = some y → T x y) → P ys) : Wp (lcO f xs) P :=
  wp_bind (wp_grd hl) fun _ _ => (wp_mapO h).imp fun ys hy => k ys hy.1 hy.2
/-- its elements are a function of the items -/
theorem wp_lcO_map {f : α → Option β} {xs : List α} {P : List β → Prop} (g : α → β) (hl : xs.length ≤ 16777216) (h : ∀ x ∈ xs, f x = some (g x)) (k : P (xs.map g)) : Wp (lcO f xs) P :=
  wp_lcO (fun x y => y = g x) hl (fun x hx => ⟨g x, h x hx, rfl⟩) fun ys h1 h2 => by
    have : ys = xs.map g := by
      apply List.ext_getElem?
      intro i
      rw [List.getElem?_map]
      by_cases hi : i < xs.length
      · rw [List.getElem?_eq_getElem hi, List.getElem?_eq_getElem (by omega)]
        exact congrArg some (h2 i xs[i] ys[i] (List.getElem?_eq_getElem hi) (List.getElem?_eq_getElem (by omega)))
      · rw [List.getElem?_eq_none (by omega), List.getElem?_eq_none (by omega)]
        rfl
    rw [this]
    exact k
theorem wp_mapS {f : α → Sto → Option (β × Sto)} {T : α → β → Prop} : ∀ {xs : List α} {z : Sto}, (∀ x ∈ xs, ∀ z, Wp (f x z) fun r => T x r.1) → Wp (mapS f xs z) fun r => r.1.length = xs.length ∧ ∀ (i : Nat) (x : α) (y : β), xs[i]? = some x → r.1[i]? = some y → T x y
  | [], z, _ => wp_some ⟨rfl, fun i x y h => by simp at h⟩
  | a :: xs, z, h => by
    refine wp_bind (h a List.mem_cons_self z) fun b hb => wp_bind (wp_mapS fun x hx => h x (List.mem_cons_of_mem _ hx)) fun ys hys => wp_some ⟨congrArg (· + 1) hys.1, fun i x y hx hy => ?_⟩
    cases i with
    | zero => simp at hx hy; subst hx; subst hy; exact hb
    | succ i => exact hys.2 i x y (by simpa using hx) (by simpa using hy)
theorem wp_lcS {f : α → Sto → Option (β × Sto)} {xs : List α} {z : Sto} {P : List β × Sto → Prop} (T : α → β → Prop) (hl : xs.length ≤ 16777216) (h : ∀ x ∈ xs, ∀ z, Wp (f x z) fun r => T x r.1) (k : ∀ r : List β × Sto, r.1.length = xs.length → (∀ (i : Nat) (x : α) (y : β), xs[i]? = some x → r.1[i]? = some y → T x y) → P r) : Wp (lcS f xs z) P :=
  wp_bind (wp_grd hl) fun _ _ => (wp_mapS h).imp fun ys hy => k ys hy.1 hy.2
/-- a for, by an invariant over the turn -/
theorem wp_forO_at {f : S → α → Option S} {xs : List α} {P : S → Prop} (I : Nat → S → Prop) (hs : ∀ (i : Nat) (x : α) (s : S), xs[i]? = some x → I i s → Wp (f s x) (I (i + 1))) (hd : ∀ s, I xs.length s → P s) : ∀ (i : Nat) (s : S), i ≤ xs.length → I i s → Wp (forO f (xs.drop i) s) P := by
  intro i
  generalize hn : xs.length - i = n
  induction n generalizing i with
  | zero =>
    intro s hi h
    have e : i = xs.length := by omega
    subst e
    rw [List.drop_length]
    exact wp_some (hd s h)
  | succ n ih =>
    intro s hi h
    have hlt : i < xs.length := by omega
    rw [List.drop_eq_getElem_cons hlt]
    exact wp_bind (hs i xs[i] s (List.getElem?_eq_getElem hlt) h) fun s' h' => ih (i + 1) (by omega) s' (by omega) h'
theorem wp_forO {f : S → α → Option S} {xs : List α} {s : S} {P : S → Prop} (I : Nat → S → Prop) (h0 : I 0 s) (hs : ∀ (i : Nat) (x : α) (s : S), xs[i]? = some x → I i s → Wp (f s x) (I (i + 1))) (hd : ∀ s, I xs.length s → P s) : Wp (forO f xs s) P :=
  wp_forO_at I hs hd 0 s (Nat.zero_le _) h0
/-- a for that may return: J of what is handed on, Pr of what is returned -/
theorem wp_forR {f : S → α → Option (S ⊕ R)} {xs : List α} {s : S} {P : S ⊕ R → Prop} (I : S → Prop) (h0 : I s) (hs : ∀ x ∈ xs, ∀ s, I s → Wp (f s x) fun r => ∃ s', r = .inl s' ∧ I s') (hd : ∀ s, I s → P (.inl s)) : Wp (forR f xs s) P := by
  induction xs generalizing s with
  | nil => exact wp_some (hd s h0)
  | cons a xs ih =>
    refine wp_bind (hs a List.mem_cons_self s h0) fun r hr => ?_
    obtain ⟨s', rfl, h'⟩ := hr
    exact ih h' fun x hx => hs x (List.mem_cons_of_mem _ hx)
end
/-! ### ranges -/
theorem irange_nat_len (n : Nat) : (irange 0 (n : Int)).length = n := by rw [irange_len]; omega
theorem irange_at {n i : Nat} {x : Int} (h : (irange 0 (n : Int))[i]? = some x) : i < n ∧ x = (i : Int) := by
  have hl : i < (irange 0 (n : Int)).length := (List.getElem?_eq_some_iff.mp h).1
  rw [irange_nat_len] at hl
  rw [irange_get (by omega)] at h
  cases h
  exact ⟨hl, by omega⟩
theorem irange_mem {n : Nat} {x : Int} (h : x ∈ irange 0 (n : Int)) : ∃ i : Nat, i < n ∧ x = (i : Int) := by
  obtain ⟨i, hi, e⟩ := List.mem_iff_getElem.mp h
  exact ⟨i, irange_at (by rw [← e]; exact List.getElem?_eq_getElem hi)⟩
theorem enum_at {α : Type} {xs : List α} {i : Nat} {p : Int × α} (h : (enum xs)[i]? = some p) : ∃ x, xs[i]? = some x ∧ p = ((i : Int), x) := by
  unfold enum at h
  rw [List.getElem?_mapIdx] at h
  cases e : xs[i]? with
  | none => rw [e] at h; cases h
  | some x => rw [e] at h; cases h; exact ⟨x, rfl, rfl⟩
theorem cut_from {α : Type} (xs : List α) (p : Nat) : cut xs (some (p : Int)) none = xs.drop p := by
  unfold cut
  rw [HT.sIx_none, HT.sIx_nat, show List.take (xs.length - min p xs.length) (List.drop (min p xs.length) xs) = List.drop (min p xs.length) xs from List.take_of_length_le (by rw [List.length_drop]; omega)]
  by_cases h : p ≤ xs.length
  · rw [Nat.min_eq_left h]
  · rw [Nat.min_eq_right (by omega), List.drop_length, List.drop_of_length_le (by omega)]
theorem cut_to {α : Type} (xs : List α) (p : Nat) : cut xs none (some (p : Int)) = xs.take p := by
  unfold cut
  rw [HT.sIx_none, HT.sIx_nat, List.drop_zero, Nat.sub_zero]
  by_cases h : p ≤ xs.length
  · rw [Nat.min_eq_left h]
  · rw [Nat.min_eq_right (by omega), List.take_length, List.take_of_length_le (by omega)]
end Mx
end
section
set_option maxHeartbeats 2000000
namespace Mx
/-! ### rows of numbers as functions -/
abbrev Vc := Nat → Int
def vf (l : List Int) : Vc := fun i => l.getD i 0
theorem vf_at {l : List Int} {i : Nat} (h : i < l.length) : vf l i = l[i] := by unfold vf; simp [List.getD, h]
/-! ### all that is spanned -/
inductive Spn (S : Vc → Prop) : Vc → Prop
  | zero : Spn S fun _ => 0
  | add {x g : Vc} : Spn S x → S g → Spn S fun i => x i + g i
  | sub {x g : Vc} : Spn S x → S g → Spn S fun i => x i - g i
section
variable {S T : Vc → Prop}
theorem Spn.is {x y : Vc} (h : Spn S x) (e : ∀ i, x i = y i) : Spn S y := by
  have : x = y := funext e
  exact this ▸ h
theorem Spn.of {g : Vc} (h : S g) : Spn S g := (Spn.add .zero h).is fun i => by (try dsimp only); omega
end
/-! ### rungs: noughts ahead, a step above 0 at the place -/
/-- by place: what can be gone down to nothing -/
def Down (n : Nat) (r : Nat → Vc) : Nat → Nat → Vc → Prop
  | 0, _, x => ∀ i, x i = 0
  | m + 1, p, x => ∃ c : Int, x p = c * r p p ∧ Down n r m (p + 1) fun i => x i - c * r p i
theorem Down.is {n : Nat} {r : Nat → Vc} : ∀ {m p : Nat} {x y : Vc}, Down n r m p x → (∀ i, x i = y i) → Down n r m p y := fun {m p x y} h e => by
  have : x = y := funext e
  exact this ▸ h
end Mx
end
section
set_option maxHeartbeats 2000000
namespace K04
open PySem L2 Kx Mx
theorem fm {a b : Int} (h : 0 < b) : a.fmod b = a % b := Int.fmod_eq_emod_of_nonneg a (by omega)
theorem fd {a b : Int} (h : 0 < b) : a.fdiv b = a / b := Int.fdiv_eq_ediv_of_nonneg a (by omega)
/-- moduli -/
structure Mdl (m : List Int) : Prop where
  l1 : 1 ≤ m.length
  l2 : m.length ≤ 12
  b : ∀ x ∈ m, 1 ≤ x ∧ x ≤ 99
theorem Mdl.at {m : List Int} (h : Mdl m) {i : Nat} (hi : i < m.length) : 1 ≤ vf m i ∧ vf m i ≤ 99 := by
  rw [vf_at hi]
  exact h.b _ (List.getElem_mem hi)
theorem small_mul {i j : Int} (h : -(2 ^ 64) < j ∧ j < 2 ^ 64) : CMulO i j := .inl (.inr h)
theorem small_mul' {i j : Int} (h : -(2 ^ 64) < i ∧ i < 2 ^ 64) : CMulO i j := .inl (.inl h)
end K04
end
section
set_option maxHeartbeats 2000000
namespace K04
open PySem L2 Kx Mx
theorem pull_spec {a : Int} (z : Sto) (h1 : 0 < a) (h2 : a < 2 ^ 200) : Wp (m__law_pull a z) fun r => 0 ≤ r.1 ∧ r.1 < a := by
  unfold m__law_pull pullM
  refine wp_cond (fun e => ?_) (fun e => ?_)
  · refine wp_bind (wp_dmO (P := fun t => t = (z.1 / a, z.1 % a)) (cdivw (n := 0) h1 h2) rfl) fun t ht => wp_some ?_
    subst ht
    exact ⟨Int.emod_nonneg _ (by omega), Int.emod_lt_of_pos _ h1⟩
  · refine wp_bind (wp_modO (P := fun t => 0 ≤ t ∧ t < 40961) (by decide) ?_) fun t1 ⟨g1, g2⟩ => ?_
    · rw [fm (by decide)]
      exact ⟨Int.emod_nonneg _ (by decide), Int.emod_lt_of_pos _ (by decide)⟩
    refine wp_bind (wp_mulO (P := fun _ => True) (small_mul ⟨by omega, by omega⟩) trivial) fun t2 _ => wp_bind (wp_mulO (P := fun _ => True) (small_mul' ⟨by decide, by decide⟩) trivial) fun t3 _ => ?_
    refine wp_bind (wp_modO (P := fun _ => True) (by decide) trivial) fun t4 _ => wp_bind (wp_fdivO (P := fun _ => True) ⟨by decide, by decide⟩ trivial) fun t5 _ => wp_bind (wp_modO (P := fun t => 0 ≤ t ∧ t < a) (by omega) ?_) fun t6 h6 => wp_some h6
    rw [fm h1]
    exact ⟨Int.emod_nonneg _ (by omega), Int.emod_lt_of_pos _ h1⟩
theorem opened_spec (ns : List Int) (k : Nat) : Wp (m__law_opened (ns, (k : Int))) fun _ => True := by
  unfold m__law_opened
  dsimp only
  refine wp_bind (wp_mulO (P := fun _ => True) (small_mul' ⟨by decide, by decide⟩) trivial) fun t1 _ => ?_
  refine wp_bind (P := fun _ => True) (wp_cond (fun e => ?_) (fun e => wp_some trivial)) fun j2 _ => ?_
  · have : (k : Int) < (ns.length : Int) := of_decide_eq_true e
    exact wp_bind (wp_atI (i := k) (P := fun _ => True) (by omega) trivial) fun t4 _ => wp_some trivial
  refine wp_bind (P := fun _ => True) (wp_cond (fun e => wp_some trivial) (fun e => wp_bind (wp_powO (P := fun _ => True) ⟨by decide, by decide, by decide⟩ trivial) fun t6 _ => wp_some trivial)) fun t7 _ => ?_
  refine wp_bind (wp_mulO (P := fun _ => True) (small_mul (by split <;> omega)) trivial) fun t8 _ => wp_bind (wp_mulO (P := fun _ => True) (small_mul' ⟨by decide, by decide⟩) trivial) fun t9 _ => wp_bind (wp_mulO (P := fun _ => True) (small_mul' ⟨by decide, by decide⟩) trivial) fun t10 _ => wp_bind (wp_modO (P := fun _ => True) (by decide) trivial) fun t11 _ => wp_some trivial
end K04
end
section
set_option maxHeartbeats 2000000
namespace K04
open PySem L2 Kx Mx
/-! ### names -/
structure NameOk (z : Str) : Prop where
  l1 : 1 ≤ z.cps.toList.length
  l2 : z.cps.toList.length ≤ 6
  b : ∀ c ∈ z.cps.toList, 97 ≤ c ∧ c ≤ 122
theorem letters : (Str.ofString "abcdefghijklmnopqrstuvwxyz").cps.toList = List.range' 97 26 := by decide +kernel
theorem str_len (z : Str) : z.length = z.cps.toList.length := by
  show z.cps.size = _
  rw [Array.length_toList]
theorem letter_at {i : Nat} (h : i < 26) : atS (Str.ofString "abcdefghijklmnopqrstuvwxyz") (i : Int) = some ⟨#[97 + i]⟩ := by
  unfold atS
  rw [grd_yes (by rw [str_len, letters]; decide)]
  show (atI (Str.ofString "abcdefghijklmnopqrstuvwxyz").cps.toList (i : Int)).bind _ = _
  rw [letters, atI_nat' (by simpa using h)]
  simp
theorem is_name_spec {z : Str} (h : NameOk z) : m_is_name z = some true := by
  have W : Wp (m_is_name z) fun b => b = true := by
    unfold m_is_name
    refine wp_bind (P := fun t => t = false) (wp_cond (fun e => by cases e) fun _ => ?_) fun t2 e2 => ?_
    · refine wp_bind (P := fun t => t = (z.cps.toList.length : Int)) ?_ fun t1 e1 => wp_some ?_
      · unfold lenS
        exact wp_bind (wp_grd (by rw [str_len]; have := h.l2; omega)) fun _ _ => wp_some (by rw [str_len])
      · subst e1
        have := h.l1
        have := h.l2
        simp only [Bool.not_eq_false', Bool.and_eq_true, decide_eq_true_eq]
        omega
    · subst e2
      refine wp_cond (fun e => by cases e) fun _ => ?_
      refine wp_bind (P := fun t : List Bool => t.all id = true) (wp_lcO (fun _ y => y = true) ?_ (fun x hx => ?_) ?_) fun t10 h => wp_some h
      · unfold signs
        rw [List.length_map]
        have := h.l2
        omega
      · unfold signs at hx
        obtain ⟨c, hc, rfl⟩ := List.mem_map.mp hx
        have hb := h.b c hc
        refine wp_bind (P := fun t => t = true) (wp_some ?_) fun t9 e => wp_some e
        rw [letters]
        refine decide_eq_true (List.mem_range'.mpr ⟨c - 97, by omega, by omega⟩)
      · intro ys hl h
        rw [List.all_eq_true]
        intro y hy
        obtain ⟨i, hi⟩ := List.mem_iff_getElem?.mp hy
        have hil := (List.getElem?_eq_some_iff.mp hi).1
        have := h i _ y (List.getElem?_eq_getElem (by omega)) hi
        rw [this]; rfl
  obtain ⟨r, hr, e⟩ := W
  rw [hr, e]
/-! ### spelling -/
def dg : Nat → Nat → List Nat
  | 0, _ => []
  | i + 1, n => (97 + n / 26 ^ i % 26) :: dg i n
theorem dg_len : ∀ (w n : Nat), (dg w n).length = w
  | 0, _ => rfl
  | w + 1, n => by rw [dg, List.length_cons, dg_len w n]
theorem dg_b : ∀ (w n : Nat), ∀ c ∈ dg w n, 97 ≤ c ∧ c ≤ 122
  | 0, _, c, h => by simp [dg] at h
  | w + 1, n, c, h => by
    rw [dg] at h
    rcases List.mem_cons.mp h with e | h
    · rw [e]
      have := Nat.mod_lt (n / 26 ^ w) (show 0 < 26 by decide)
      omega
    · exact dg_b w n c h
theorem dg_inj : ∀ {w n m : Nat}, dg w n = dg w m → n % 26 ^ w = m % 26 ^ w
  | 0, n, m, _ => by rw [Nat.pow_zero, Nat.mod_one, Nat.mod_one]
  | w + 1, n, m, h => by
    rw [dg, dg] at h
    obtain ⟨h1, h2⟩ := List.cons.inj h
    have ih := dg_inj h2
    rw [Nat.mod_pow_succ, Nat.mod_pow_succ, ih]
    have : n / 26 ^ w % 26 = m / 26 ^ w % 26 := by omega
    rw [this]
theorem spelt_spec {n w : Nat} (hw : w ≤ 6) : Wp (m__law_spelt ((n : Int), (w : Int))) fun r => r.cps.toList = dg w n := by
  unfold m__law_spelt
  refine wp_bind (wp_rngN (P := fun t => t = irange 0 (w : Int)) (by omega) rfl) fun t1 e1 => ?_
  subst e1
  refine wp_bind (wp_forO (P := fun s => s.1.cps.toList = dg w n) (fun i s => s.1.cps.toList = dg i n ∧ s.2 = ((n / 26 ^ i : Nat) : Int)) ⟨rfl, by simp⟩ ?_ ?_) fun fin h => wp_some h
  · intro i x s hx ⟨h1, h2⟩
    obtain ⟨hi, rfl⟩ := irange_at hx
    refine wp_bind (wp_modO (P := fun t => t = ((n / 26 ^ i % 26 : Nat) : Int)) (by decide) (by rw [fm (by decide), h2]; exact (Int.natCast_emod _ _).symm)) fun t9 e9 => ?_
    subst e9
    have hl := Nat.mod_lt (n / 26 ^ i) (show 0 < 26 by decide)
    refine wp_bind (wp_is (P := fun t : Str => t = ⟨#[97 + n / 26 ^ i % 26]⟩) (letter_at hl) rfl) fun t10 e10 => ?_
    subst e10
    refine wp_bind (P := fun t : Str => t.cps.toList = dg (i + 1) n) ?_ fun t11 h11 => ?_
    · unfold addS
      have ls : s.1.cps.toList.length = i := by rw [h1, dg_len]
      refine wp_bind (wp_grd (by rw [str_len, str_len, ls]; simp; omega)) fun _ _ => wp_some ?_
      show ((#[97 + n / 26 ^ i % 26] : Array Nat) ++ s.1.cps).toList = _
      rw [Array.toList_append, h1]
      rfl
    refine wp_bind (wp_fdivO (P := fun t => t = ((n / 26 ^ (i + 1) : Nat) : Int)) ⟨by decide, by decide⟩ ?_) fun t12 e12 => wp_some ⟨h11, e12⟩
    rw [fd (by decide), h2, Nat.pow_succ, ← Nat.div_div_eq_div_mul]
    exact (Int.natCast_ediv _ _).symm
  · intro s h
    rw [irange_nat_len] at h
    exact h.1
end K04
end
section
set_option maxHeartbeats 2000000
namespace K04
open PySem L2 Kx Mx
theorem pull_nat {a : Int} (z : Sto) (h1 : 0 < a) (h2 : a < 2 ^ 200) : Wp (m__law_pull a z) fun r => ∃ k : Nat, r.1 = (k : Int) ∧ (k : Int) < a :=
  (pull_spec z h1 h2).imp fun r ⟨g1, g2⟩ => ⟨r.1.toNat, by omega, by omega⟩
theorem srt_strict {xs : List Str} (h : xs.Nodup) : (srt xs).Pairwise fun a b => sLt a b = true := by
  have n : (srt xs).Nodup := (srt_perm xs).nodup_iff.mpr h
  refine ((srt_sorted xs).and n).imp fun {a b} ⟨h1, h2⟩ => ?_
  cases e : sLt a b with
  | true => rfl
  | false =>
    unfold sLe at h1
    exact absurd (sLt_tri e (by simpa using h1)) h2
def Nms (cs : List Str) : Prop := (∀ x ∈ cs, NameOk x) ∧ cs.Pairwise fun a b => sLt a b = true
theorem nodup_at {α : Type} {xs : List α} (h : ∀ (i j : Nat) (x y : α), i < j → xs[i]? = some x → xs[j]? = some y → x ≠ y) : xs.Nodup := by
  refine List.pairwise_iff_getElem.mpr fun i j hi hj hij => ?_
  exact h i j _ _ hij (List.getElem?_eq_getElem hi) (List.getElem?_eq_getElem hj)
theorem sort_nmsM {xs : List Str} {P : List Str → Prop} (hl : xs.length < 64) (hn : ∀ x ∈ xs, NameOk x) (hd : xs.Nodup) (k : ∀ ys, ys.length = xs.length → Nms ys → (∀ y ∈ ys, y ∈ xs) → P ys) : Wp (sortS xs) P :=
  wp_bind (wp_grd hl) fun _ _ => wp_some (k _ (srt_perm xs).length_eq ⟨fun x hx => hn x ((srt_perm xs).mem_iff.mp hx), srt_strict hd⟩ fun y hy => (srt_perm xs).mem_iff.mp hy)
def nameB (z : Str) : Bool := decide (1 ≤ z.cps.toList.length) && decide (z.cps.toList.length ≤ 6) && z.cps.toList.all fun c => decide (97 ≤ c) && decide (c ≤ 122)
theorem nameB_of {z : Str} (h : nameB z = true) : NameOk z := by
  unfold nameB at h
  simp only [Bool.and_eq_true, decide_eq_true_eq, List.all_eq_true] at h
  exact ⟨h.1.1, h.1.2, fun c hc => h.2 c hc⟩
abbrev W12 : List Str := [(Str.ofString "bell"), (Str.ofString "turns"), (Str.ofString "ring"), (Str.ofString "go"), (Str.ofString "tell"), (Str.ofString "hang"), (Str.ofString "down"), (Str.ofString "put"), (Str.ofString "strike"), (Str.ofString "back"), (Str.ofString "lots"), (Str.ofString "home")]
theorem w12_ok : W12.all nameB = true := by decide +kernel
theorem w12_nd : W12.Nodup := by decide +kernel
theorem mem4 {α : Type} {a b c d x : α} {k : Nat} (h : ([a, b, c, d] : List α)[k]? = some x) : x = a ∨ x = b ∨ x = c ∨ x = d := by
  have := List.mem_of_getElem? h
  simpa using this
theorem wp_at4 {a b c d : Int} {k : Nat} (hk : k < 4) : Wp (atI ([a, b, c, d] : List Int) (k : Int)) fun x => x = a ∨ x = b ∨ x = c ∨ x = d :=
  wp_atI (by simpa using hk) (mem4 (List.getElem?_eq_getElem (by simpa using hk)))
theorem pow6 {k : Nat} (h : k < 6) : atI ([(26 : Int), (676 : Int), (17576 : Int), (456976 : Int), (11881376 : Int), (308915776 : Int)] : List Int) (k : Int) = some ((26 ^ (k + 1) : Nat) : Int) := by
  match k, h with
  | 0, _ => rfl
  | 1, _ => rfl
  | 2, _ => rfl
  | 3, _ => rfl
  | 4, _ => rfl
  | 5, _ => rfl
/-- words, or of one width -/
def Wd (cs : List Str) : Prop := (∀ x ∈ cs, x ∈ W12) ∨ ∃ w, ∀ x ∈ cs, x.cps.toList.length = w
theorem calls_specW {n : Nat} (z : Sto) (h2 : n ≤ 8) : Wp (m__law_calls (n : Int) z) fun r => r.1.length = n ∧ Nms r.1 ∧ Wd r.1 := by
  unfold m__law_calls
  refine wp_bind (pull_nat z (by decide) (by decide)) fun t1 _ => wp_cond (fun _ => ?_) fun _ => ?_
  · refine wp_bind (pull_nat _ (by decide) (by decide)) fun t2 ⟨f, e2, hf⟩ => wp_bind (pull_nat _ (by decide) (by decide)) fun t3 ⟨l, e3, hl⟩ => ?_
    rw [e2, e3]
    refine wp_bind (wp_at4 (by omega)) fun t4 h4 => ?_
    refine wp_bind (wp_rngN (P := fun t => t = irange 0 (n : Int)) (by omega) rfl) fun t5 e5 => ?_
    subst e5
    refine wp_bind (P := fun t : List Str => t.length = n ∧ (∀ x ∈ t, NameOk x) ∧ t.Nodup ∧ ∀ x ∈ t, x ∈ W12) (wp_lcO (fun x y => W12[((f : Int) + t4 * x).toNat % 12]? = some y) (by rw [irange_nat_len]; omega) (fun x hx => ?_) ?_) fun t15 ⟨a1, a2, a3, a4⟩ => ?_
    · obtain ⟨j, hj, rfl⟩ := irange_mem hx
      refine wp_bind (wp_mulO (P := fun t => t = t4 * (j : Int)) (small_mul ⟨by omega, by omega⟩) rfl) fun t12 e12 => ?_
      subst e12
      obtain ⟨l4, rfl⟩ : ∃ l4 : Nat, t4 = (l4 : Int) := ⟨t4.toNat, by omega⟩
      have en : (f : Int) + (l4 : Int) * (j : Int) = ((f + l4 * j : Nat) : Int) := by push_cast; rfl
      rw [en]
      refine wp_bind (wp_modO (P := fun t => t = (((f + l4 * j) % 12 : Nat) : Int)) (by decide) (by rw [fm (by decide)]; exact (Int.natCast_emod _ _).symm)) fun t13 e13 => ?_
      subst e13
      have hm := Nat.mod_lt (f + l4 * j) (show 0 < 12 by decide)
      refine wp_bind (wp_atI (xs := W12) (P := fun y => W12[(f + l4 * j) % 12]? = some y) (by simpa using hm) (List.getElem?_eq_getElem (by simpa using hm))) fun t14 h14 => wp_some ?_
      rw [Int.toNat_natCast]
      exact h14
    · intro ys hl hy
      rw [irange_nat_len] at hl
      have at' : ∀ i y, ys[i]? = some y → i < n ∧ W12[((f : Int) + t4 * (i : Int)).toNat % 12]? = some y := fun i y e => by
        have hi : i < n := by have := (List.getElem?_eq_some_iff.mp e).1; omega
        have hx : (irange 0 (n : Int))[i]? = some (i : Int) := by rw [irange_get (by omega)]; simp
        exact ⟨hi, hy i (i : Int) y hx e⟩
      refine ⟨hl, fun x hx => ?_, nodup_at fun i j x y hij hx hy' e => ?_, fun x hx => ?_⟩
      · obtain ⟨i, hi⟩ := List.mem_iff_getElem?.mp hx
        exact nameB_of ((List.all_eq_true.mp w12_ok) x (List.mem_of_getElem? (at' i x hi).2))
      · subst e
        obtain ⟨b1, b2⟩ := at' i x hx
        obtain ⟨b3, b4⟩ := at' j x hy'
        have q : ((f : Int) + t4 * (i : Int)).toNat % 12 = ((f : Int) + t4 * (j : Int)).toNat % 12 := by
          have hi := (List.getElem?_eq_some_iff.mp b2).1
          exact (List.getElem?_inj hi w12_nd).mp (b2.trans b4.symm)
        rcases h4 with rfl | rfl | rfl | rfl <;> omega
      · obtain ⟨i, hi⟩ := List.mem_iff_getElem?.mp hx
        exact List.mem_of_getElem? (at' i x hi).2
    · exact wp_bind (sort_nmsM (P := fun ys => ys.length = n ∧ Nms ys ∧ Wd ys) (by omega) a2 a3 fun ys h1 h2 h3 => ⟨by omega, h2, .inl fun y hy => a4 y (h3 y hy)⟩) fun t16 h => wp_some h
  · refine wp_bind (pull_nat _ (by decide) (by decide)) fun t17 ⟨w, e17, hw⟩ => wp_bind (pull_nat _ (by decide) (by decide)) fun t18 ⟨l, e18, hl⟩ => ?_
    rw [e17, e18]
    refine wp_bind (wp_at4 (by omega)) fun t19 h19 => ?_
    have ew : ((1 : Int) + (w : Int)) - 1 = (w : Int) := by omega
    rw [ew]
    have hw6 : w < 6 := by omega
    refine wp_bind (wp_is (P := fun t => t = ((26 ^ (w + 1) : Nat) : Int)) (pow6 hw6) rfl) fun t20 e20 => ?_
    subst e20
    have hpos : 0 < 26 ^ (w + 1) := Nat.pos_of_ne_zero (by simp)
    have hbig : 26 ^ (w + 1) ≤ 308915776 := Nat.le_trans (Nat.pow_le_pow_right (by decide) (by omega : w + 1 ≤ 6)) (by decide)
    refine wp_bind (pull_nat _ (by omega) (by omega)) fun t21 ⟨f, e21, hf⟩ => ?_
    rw [e21]
    refine wp_bind (wp_rngN (P := fun t => t = irange 0 (n : Int)) (by omega) rfl) fun t22 e22 => ?_
    subst e22
    refine wp_bind (P := fun t : List Str => t.length = n ∧ (∀ x ∈ t, NameOk x) ∧ t.Nodup ∧ ∀ x ∈ t, x.cps.toList.length = w + 1) (wp_lcO (fun x y => y.cps.toList = dg (w + 1) (((f : Int) + t19 * x).toNat % 26 ^ (w + 1))) (by rw [irange_nat_len]; omega) (fun x hx => ?_) ?_) fun t32 ⟨a1, a2, a3, a4⟩ => ?_
    · obtain ⟨j, hj, rfl⟩ := irange_mem hx
      refine wp_bind (wp_mulO (P := fun t => t = t19 * (j : Int)) (small_mul ⟨by omega, by omega⟩) rfl) fun t29 e29 => ?_
      subst e29
      obtain ⟨l4, rfl⟩ : ∃ l4 : Nat, t19 = (l4 : Int) := ⟨t19.toNat, by omega⟩
      have en : (f : Int) + (l4 : Int) * (j : Int) = ((f + l4 * j : Nat) : Int) := by push_cast; rfl
      rw [en]
      refine wp_bind (wp_modO (P := fun t => t = (((f + l4 * j) % 26 ^ (w + 1) : Nat) : Int)) (by omega) (by rw [fm (by omega)]; exact (Int.natCast_emod _ _).symm)) fun t30 e30 => ?_
      subst e30
      have e1 : (1 : Int) + (w : Int) = ((w + 1 : Nat) : Int) := by omega
      rw [e1]
      refine wp_bind (spelt_spec (by omega)) fun t31 h31 => wp_some ?_
      rw [Int.toNat_natCast]
      exact h31
    · intro ys hl hy
      rw [irange_nat_len] at hl
      have at' : ∀ i y, ys[i]? = some y → i < n ∧ y.cps.toList = dg (w + 1) (((f : Int) + t19 * (i : Int)).toNat % 26 ^ (w + 1)) := fun i y e => by
        have hi : i < n := by have := (List.getElem?_eq_some_iff.mp e).1; omega
        have hx : (irange 0 (n : Int))[i]? = some (i : Int) := by rw [irange_get (by omega)]; simp
        exact ⟨hi, hy i (i : Int) y hx e⟩
      refine ⟨hl, fun x hx => ?_, nodup_at fun i j x y hij hx hy' e => ?_, fun x hx => ?_⟩
      · obtain ⟨i, hi⟩ := List.mem_iff_getElem?.mp hx
        have e := (at' i x hi).2
        exact ⟨by rw [e, dg_len]; omega, by rw [e, dg_len]; omega, fun c hc => dg_b _ _ c (by rw [← e]; exact hc)⟩
      · subst e
        obtain ⟨b1, b2⟩ := at' i x hx
        obtain ⟨b3, b4⟩ := at' j x hy'
        have q := dg_inj (b2.symm.trans b4)
        rw [Nat.mod_mod, Nat.mod_mod] at q
        clear b2 b4
        by_cases hw0 : w = 0
        · subst hw0
          rw [show (26 : Nat) ^ (0 + 1) = 26 from rfl] at q
          rcases h19 with rfl | rfl | rfl | rfl <;> omega
        · have hM : 676 ≤ 26 ^ (w + 1) := Nat.le_trans (by decide : 676 ≤ 26 ^ 2) (Nat.pow_le_pow_right (by decide) (by omega))
          have hlt : ((f : Int) + t19 * (i : Int)).toNat < ((f : Int) + t19 * (j : Int)).toNat ∧ ((f : Int) + t19 * (j : Int)).toNat - ((f : Int) + t19 * (i : Int)).toNat < 676 := by
            rcases h19 with rfl | rfl | rfl | rfl <;> omega
          have z := Nat.sub_mod_eq_zero_of_mod_eq q.symm
          rw [Nat.mod_eq_of_lt (by omega)] at z
          omega
      · obtain ⟨i, hi⟩ := List.mem_iff_getElem?.mp hx
        rw [(at' i x hi).2, dg_len]
    · exact wp_bind (sort_nmsM (P := fun ys => ys.length = n ∧ Nms ys ∧ Wd ys) (by omega) a2 a3 fun ys h1 h2 h3 => ⟨by omega, h2, .inr ⟨w + 1, fun y hy => a4 y (h3 y hy)⟩⟩) fun t16 h => wp_some h
theorem figure_spec {m : Nat} {s : Int} (z : Sto) (hm : m ≤ 5) (h1 : 2 ≤ s) (h2 : s ≤ 24) : Wp (m__law_figure ((m : Int), s) z) fun r => 0 ≤ r.1 ∧ r.1 ≤ 99 := by
  unfold m__law_figure
  refine wp_bind (pull_nat z (by omega) (by omega)) fun t1 ⟨a, e1, ha⟩ => wp_bind (pull_nat _ (by decide) (by decide)) fun t2 ⟨b, e2, hb⟩ => ?_
  rw [e1, e2]
  refine wp_bind (wp_mulO (P := fun t => t = 2 * s) (small_mul' ⟨by decide, by decide⟩) rfl) fun t3 e3 => wp_bind (wp_fdivO (P := fun t => t = s / 2) ⟨by decide, by decide⟩ (fd (by decide))) fun t4 e4 => ?_
  subst e3; subst e4
  refine wp_bind (pull_nat _ (by decide) (by decide)) fun t5 ⟨c, e5, hc⟩ => ?_
  rw [e5]
  refine wp_bind (wp_at4 (by omega)) fun t6 h6 => ?_
  have b6 : 0 ≤ t6 ∧ t6 ≤ 99 := by rcases h6 with rfl | rfl | rfl | rfl <;> omega
  refine wp_bind (wp_appO (P := fun t => t = [(1 : Int), 1 + (a : Int), 1 + (b : Int), t6]) (by simp) rfl) fun t7 e7 => ?_
  subst e7
  refine wp_cond (fun e => ?_) fun e => ?_
  · have : (m : Int) < 4 := of_decide_eq_true e
    refine wp_bind (wp_at4 (by omega)) fun t8 h8 => wp_some ?_
    rcases h8 with rfl | rfl | rfl | rfl <;> constructor <;> dsimp only <;> omega
  · have : ¬ (m : Int) < 4 := of_decide_eq_false e
    refine wp_bind (wp_is (P := fun t => t = 1 + (a : Int)) rfl rfl) fun t9 e9 => ?_
    subst e9
    refine wp_bind (pull_nat _ (by omega) (by omega)) fun t10 _ => ?_
    refine wp_bind (wp_mulO (P := fun t => 0 ≤ t ∧ t ≤ 99) (small_mul (by split <;> omega)) ?_) fun t11 h => wp_some h
    split
    · rw [Int.mul_one]; omega
    · rw [Int.mul_zero]; omega
end K04
end
section
set_option maxHeartbeats 2000000
namespace K04
open PySem L2 Kx Mx
/-! ### kits -/
def NotOk (cs : List Str) (ns : List (Str × Str × Int)) : Prop :=
  (∀ n ∈ ns, n.1 ∈ cs ∧ n.2.1 ∈ cs ∧ n.1 ≠ n.2.1 ∧ 1 ≤ n.2.2 ∧ n.2.2 ≤ 99) ∧ ns.Pairwise fun a b => ltP (a.1, a.2.1) (b.1, b.2.1) = true
structure Kit (k : List (Str × Int) × List (Str × Str × Int)) : Prop where
  l1 : 1 ≤ k.1.length
  l2 : k.1.length ≤ 8
  nm : Nms (k.1.map (·.1))
  sz : ∀ x ∈ k.1, 2 ≤ x.2 ∧ x.2 ≤ 24
  nt : NotOk (k.1.map (·.1)) k.2
  nl : k.2.length ≤ 64
theorem slt_ne {a b : Str} (h : sLt a b = true) : a ≠ b := fun e => by
  rw [e, sLt_irr] at h
  cases h
theorem pw_at {α : Type} {R : α → α → Prop} {xs : List α} (h : xs.Pairwise R) {i j : Nat} {x y : α} (hij : i < j) (hx : xs[i]? = some x) (hy : xs[j]? = some y) : R x y := by
  obtain ⟨h1, rfl⟩ := List.getElem?_eq_some_iff.mp hx
  obtain ⟨h2, rfl⟩ := List.getElem?_eq_some_iff.mp hy
  exact List.pairwise_iff_getElem.mp h i j h1 h2 hij
theorem pw_snoc {α : Type} {R : α → α → Prop} {xs : List α} {x : α} (h : xs.Pairwise R) (hx : ∀ y ∈ xs, R y x) : (xs ++ [x]).Pairwise R :=
  List.pairwise_append.mpr ⟨h, List.pairwise_singleton _ _, fun a ha b hb => by rw [List.mem_singleton.mp hb]; exact hx a ha⟩
theorem kit_specW {u m : Int} (z : Sto) (hu1 : 1 ≤ u) (hu2 : u ≤ 8) (hm1 : 2 ≤ m) (hm2 : m ≤ 24) : Wp (m__law_kit (u, m) z) fun r => Kit r.1 ∧ (r.1.1.length : Int) ≤ u ∧ (∀ b ∈ r.1.1, b.2 ≤ m) ∧ Wd (r.1.1.map (·.1)) := by
  unfold m__law_kit
  dsimp only
  refine wp_bind (pull_nat z (by omega) (by omega)) fun t1 ⟨n, e1, hn⟩ => ?_
  rw [e1]
  have en : (1 : Int) + (n : Int) = ((n + 1 : Nat) : Int) := by omega
  rw [en]
  refine wp_bind (calls_specW _ (by omega)) fun t2 ⟨hl2, hc, hwd⟩ => wp_bind (pull_nat _ (by omega) (by omega)) fun t3 ⟨s3, e3, h3⟩ => wp_bind (pull_nat _ (by decide) (by decide)) fun t4 _ => wp_bind (pull_nat _ (by decide) (by decide)) fun t5 ⟨md, e5, h5⟩ => ?_
  rw [e3, e5]
  generalize hcs : t2.1 = cs at hl2 hc hwd
  refine wp_bind (wp_lcS (P := fun r : List Int × Sto => r.1.length = n + 1 ∧ ∀ s ∈ r.1, 2 ≤ s ∧ s ≤ m) (fun _ y => 2 ≤ y ∧ y ≤ m) (by omega) (fun x hx z => ?_) ?_) fun t14 ⟨hl14, h14⟩ => ?_
  · refine wp_bind (P := fun t : Int × Sto => 2 ≤ t.1 ∧ t.1 ≤ m) (wp_cond (fun _ => wp_some ⟨by dsimp only; omega, by dsimp only; omega⟩) fun _ => wp_bind (pull_nat _ (by omega) (by omega)) fun t12 ⟨a, e, h⟩ => wp_some ⟨by dsimp only; omega, by dsimp only; omega⟩) fun t13 h => wp_some h
  · intro r hl h
    refine ⟨by omega, fun s hs => ?_⟩
    obtain ⟨i, hi⟩ := List.mem_iff_getElem?.mp hs
    have hil := (List.getElem?_eq_some_iff.mp hi).1
    exact h i _ s (List.getElem?_eq_getElem (by omega)) hi
  have uq : ∀ {i j : Nat} {x y : Str}, i < j → cs[i]? = some x → cs[j]? = some y → sLt x y = true := fun hij hx hy => pw_at hc.2 hij hx hy
  refine wp_bind (wp_forO (P := fun s : List (Str × Str × Int) × Sto => NotOk cs s.1 ∧ s.1.length ≤ 64) (fun i s => NotOk cs s.1 ∧ (∀ q ∈ s.1, ∃ j, j < i ∧ cs[j]? = some q.1) ∧ s.1.length ≤ i * 8) ⟨⟨fun q hq => (nomatch hq), List.Pairwise.nil⟩, fun q hq => (nomatch hq), by simp⟩ ?_ ?_) fun fin ⟨hf, hf2⟩ => ?_
  · intro i x s hx ⟨g1, g2, g3⟩
    have hi : i < n + 1 := by have := (List.getElem?_eq_some_iff.mp hx).1; omega
    rw [hl2]
    refine wp_bind (wp_rngN (P := fun t => t = irange 0 ((n + 1 : Nat) : Int)) (by omega) rfl) fun t22 e22 => ?_
    subst e22
    refine wp_bind (wp_forO (P := fun s : List (Str × Str × Int) × Sto => NotOk cs s.1 ∧ (∀ q ∈ s.1, ∃ j, j < i + 1 ∧ cs[j]? = some q.1) ∧ s.1.length ≤ (i + 1) * 8) (fun k s => NotOk cs s.1 ∧ (∀ q ∈ s.1, (∃ j, j < i ∧ cs[j]? = some q.1) ∨ (q.1 = x ∧ ∃ j, j < k ∧ cs[j]? = some q.2.1)) ∧ s.1.length ≤ i * 8 + k) ⟨g1, fun q hq => .inl (g2 q hq), by dsimp only; omega⟩ ?_ ?_) fun f2 h => wp_some h
    · intro k y s hy ⟨b1, b2, b3⟩
      obtain ⟨hk, rfl⟩ := irange_at hy
      refine wp_bind (wp_atI (P := fun t => 2 ≤ t ∧ t ≤ m) (by omega) (h14 _ (List.getElem_mem _))) fun t30 h30 => ?_
      refine wp_bind (figure_spec _ (by omega) h30.1 (by omega)) fun t31 h31 => ?_
      have hk' : k < cs.length := by omega
      have ey : cs[k]? = some cs[k] := List.getElem?_eq_getElem hk'
      refine wp_bind (wp_is (P := fun t => t = cs[k]) (atI_nat' hk') rfl) fun t32 e32 => ?_
      subst e32
      refine wp_cond (fun e => ?_) fun e => wp_some ⟨b1, fun q hq => (b2 q hq).imp id fun ⟨c1, j, c2, c3⟩ => ⟨c1, j, by omega, c3⟩, by dsimp only; omega⟩
      rw [Bool.and_eq_true] at e
      have e1 : cs[k] ≠ x := by simpa using e.1
      have e2 : 0 < t31.1 := by simpa using e.2
      refine wp_bind (wp_is (P := fun t => t = cs[k]) (atI_nat' hk') rfl) fun t33 e33 => ?_
      subst e33
      refine wp_bind (wp_appO (P := fun t => t = s.1 ++ [(x, cs[k], t31.1)]) (by omega) rfl) fun t34 e34 => wp_some ?_
      subst e34
      refine ⟨⟨fun q hq => ?_, pw_snoc b1.2 fun q hq => ?_⟩, fun q hq => ?_, by dsimp only; rw [List.length_append]; simp; omega⟩
      · rcases List.mem_append.mp hq with hq | hq
        · exact b1.1 q hq
        · rw [List.mem_singleton.mp hq]
          exact ⟨List.mem_of_getElem? hx, List.mem_of_getElem? ey, fun z => e1 z.symm, by dsimp only; omega, by dsimp only; omega⟩
      · unfold ltP
        dsimp only
        rcases b2 q hq with ⟨j, c1, c2⟩ | ⟨c1, j, c2, c3⟩
        · have := uq c1 c2 hx
          rw [if_neg (slt_ne this)]
          exact this
        · rw [if_pos c1]
          exact uq c2 c3 ey
      · rcases List.mem_append.mp hq with hq | hq
        · exact (b2 q hq).imp id fun ⟨c1, j, c2, c3⟩ => ⟨c1, j, by omega, c3⟩
        · rw [List.mem_singleton.mp hq]
          exact .inr ⟨rfl, k, by omega, ey⟩
    · intro s ⟨b1, b2, b3⟩
      rw [irange_nat_len] at b2 b3
      refine ⟨b1, fun q hq => ?_, by omega⟩
      rcases b2 q hq with ⟨j, c1, c2⟩ | ⟨c1, j, c2, c3⟩
      · exact ⟨j, by omega, c2⟩
      · exact ⟨i, by omega, by rw [c1]; exact hx⟩
  · intro s ⟨g1, g2, g3⟩
    exact ⟨g1, by omega⟩
  rw [hl2]
  refine wp_bind (wp_rngN (P := fun t => t = irange 0 ((n + 1 : Nat) : Int)) (by omega) rfl) fun t35 e35 => ?_
  subst e35
  refine wp_bind (P := fun t : List (Str × Int) => t.length = n + 1 ∧ t.map (·.1) = cs ∧ ∀ x ∈ t, 2 ≤ x.2 ∧ x.2 ≤ m) (wp_lcO (fun x y => ∃ k : Nat, x = (k : Int) ∧ cs[k]? = some y.1 ∧ 2 ≤ y.2 ∧ y.2 ≤ m) (by rw [irange_nat_len]; omega) (fun x hx => ?_) ?_) fun t44 ⟨d1, d2, d3⟩ => wp_some ?_
  · obtain ⟨k, hk, rfl⟩ := irange_mem hx
    have hk' : k < cs.length := by omega
    refine wp_bind (wp_is (P := fun t => t = cs[k]) (atI_nat' hk') rfl) fun t42 e42 => ?_
    subst e42
    refine wp_bind (wp_atI (P := fun t => 2 ≤ t ∧ t ≤ m) (by omega) (h14 _ (List.getElem_mem _))) fun t43 h43 => wp_some ⟨k, rfl, List.getElem?_eq_getElem hk', h43⟩
  · intro ys hl h
    rw [irange_nat_len] at hl
    have at' : ∀ (i : Nat) (y : Str × Int), ys[i]? = some y → cs[i]? = some y.1 ∧ 2 ≤ y.2 ∧ y.2 ≤ m := fun i y e => by
      have hi : i < n + 1 := by have := (List.getElem?_eq_some_iff.mp e).1; omega
      obtain ⟨k, c1, c2⟩ := h i (i : Int) y (by rw [irange_get (by omega)]; simp) e
      have : i = k := by omega
      subst this
      exact c2
    refine ⟨hl, List.ext_getElem? fun i => ?_, fun x hx => ?_⟩
    · rw [List.getElem?_map]
      by_cases hi : i < n + 1
      · have := (at' i _ (List.getElem?_eq_getElem (by omega))).1
        rw [List.getElem?_eq_getElem (by omega : i < ys.length), this]
        rfl
      · rw [List.getElem?_eq_none (by omega), List.getElem?_eq_none (by omega)]
        rfl
    · obtain ⟨i, hi⟩ := List.mem_iff_getElem?.mp hx
      exact (at' i x hi).2
  · refine ⟨⟨by dsimp only; omega, by dsimp only; omega, ?_, fun x hx => (by have := d3 x hx; omega), ?_, hf2⟩, by dsimp only; omega, fun x hx => (d3 x hx).2, by dsimp only; rw [d2]; exact hwd⟩
    · dsimp only; rw [d2]; exact hc
    · dsimp only; rw [d2]; exact hf
theorem kit_spec {u m : Int} (z : Sto) (hu1 : 1 ≤ u) (hu2 : u ≤ 8) (hm1 : 2 ≤ m) (hm2 : m ≤ 24) : Wp (m__law_kit (u, m) z) fun r => Kit r.1 ∧ (r.1.1.length : Int) ≤ u ∧ ∀ b ∈ r.1.1, b.2 ≤ m := (kit_specW z hu1 hu2 hm1 hm2).imp fun _ h => ⟨h.1, h.2.1, h.2.2.1⟩
end K04
end
section
set_option maxHeartbeats 2000000
namespace K04
open PySem L2 Kx Mx
theorem within_spec {x lo hi : Int} (h1 : lo ≤ x) (h2 : x ≤ hi) : m_is_within (x, lo, hi) = some true := by
  unfold m_is_within m_is_whole
  simp [h1, h2]
/-! ### tables whose keys differ -/
section
variable {α β : Type} [DecidableEq α]
theorem putA_new {xs : List (α × β)} {k : α} {v : β} (h : k ∉ xs.map (·.1)) : putA xs k v = xs ++ [(k, v)] := by
  unfold putA
  rw [if_neg]
  intro e
  obtain ⟨x, hx, e⟩ := List.any_eq_true.mp e
  exact h (List.mem_map.mpr ⟨x, hx, of_decide_eq_true e⟩)
theorem mergeA_nodup : ∀ {more acc : List (α × β)}, ((acc ++ more).map (·.1)).Nodup → mergeA acc more = acc ++ more
  | [], acc, _ => by rw [List.append_nil]; rfl
  | p :: more, acc, h => by
    have hn : p.1 ∉ acc.map (·.1) := fun e => by
      rw [List.map_append] at h
      have := (List.nodup_append.mp h).2.2 p.1 e p.1 (by simp)
      exact this rfl
    show mergeA (putA acc p.1 p.2) more = _
    rw [putA_new hn, mergeA_nodup (by simpa using h)]
    simp
theorem dictO_nodup {xs : List (α × β)} (hl : xs.length ≤ 16777216) (h : (xs.map (·.1)).Nodup) : dictO xs = some xs := by
  unfold dictO
  rw [grd_yes hl, mergeA_nodup (by simpa using h)]
  rfl
theorem getA_mem {xs : List (α × β)} {k : α} (h : k ∈ xs.map (·.1)) : ∃ b, getA xs k = some b := by
  induction xs with
  | nil => simp at h
  | cons p xs ih =>
    by_cases e : p.1 = k
    · exact ⟨_, getA_pos e⟩
    · rw [getA_neg e]
      refine ih ?_
      rcases List.mem_cons.mp h with q | q
      · exact absurd q.symm e
      · exact q
end
def cs (k : List (Str × Int) × List (Str × Str × Int)) : List Str := k.1.map (·.1)
def tb (k : List (Str × Int) × List (Str × Str × Int)) : List ((Str × Str) × Int) := k.2.map fun n => ((n.1, n.2.1), n.2.2)
abbrev pl (k : List (Str × Int) × List (Str × Str × Int)) : List (Str × Int) × List (Str × Str × Int) × List (Str × Int) × List ((Str × Str) × Int) := (k.1, k.2, k.1, tb k)
def tk (k : List (Str × Int) × List (Str × Str × Int)) (a b : Str) : Int := getD' (tb k) (a, b) 0
theorem nms_nodup {xs : List Str} (h : Nms xs) : xs.Nodup := h.2.imp fun h => slt_ne h
theorem ltP_ne {a b : Str × Str} (h : ltP a b = true) : a ≠ b := fun e => by
  unfold ltP at h
  rw [e, if_pos rfl, sLt_irr] at h
  cases h
section
variable {k : List (Str × Int) × List (Str × Str × Int)}
theorem Kit.nd (h : Kit k) : (cs k).Nodup := nms_nodup h.nm
theorem Kit.tnd (h : Kit k) : ((tb k).map (·.1)).Nodup := by
  unfold tb
  rw [List.map_map]
  exact (List.pairwise_map.mpr (h.nt.2.imp fun h => ltP_ne h))
theorem dcO_spec (h : Kit k) : dcO (fun x : Str × Str × Int => some ((x.1, x.2.1), x.2.2)) k.2 = some (tb k) := by
  unfold dcO
  have : lcO (fun x : Str × Str × Int => some ((x.1, x.2.1), x.2.2)) k.2 = some (tb k) := by
    obtain ⟨r, e1, e2⟩ := wp_lcO_map (P := fun t => t = tb k) (f := fun x : Str × Str × Int => some ((x.1, x.2.1), x.2.2)) (fun n => ((n.1, n.2.1), n.2.2)) (by have := h.nl; omega) (fun _ _ => rfl) rfl
    rw [e1, e2]
  rw [this]
  show some (mergeA [] (tb k)) = _
  rw [mergeA_nodup (by simpa using h.tnd)]
  rfl
theorem is_bell_spec {b : Str × Int} (h1 : NameOk b.1) (h2 : 2 ≤ b.2 ∧ b.2 ≤ 24) : m_is_bell b = some true := by
  unfold m_is_bell
  rw [is_name_spec h1, within_spec h2.1 h2.2]
  rfl
theorem Kit.name (h : Kit k) {x : Str × Int} (hx : x ∈ k.1) : NameOk x.1 := h.nm.1 _ (List.mem_map.mpr ⟨x, hx, rfl⟩)
theorem check_bells_spec (h : Kit k) : m_check_bells k.1 = some () := by
  have W : Wp (m_check_bells k.1) fun _ => True := by
    unfold m_check_bells
    refine wp_cond (fun e => ?_) fun _ => ?_
    · have h1 := h.l1
      have h2 := h.l2
      have e1 : decide ((1 : Int) ≤ (k.1.length : Int)) = true := decide_eq_true (by omega)
      have e2 : decide ((k.1.length : Int) ≤ 8) = true := decide_eq_true (by omega)
      rw [e1, e2] at e
      cases e
    refine wp_bind (wp_forO (P := fun _ => True) (fun _ _ => True) trivial (fun i p s hp _ => ?_) fun _ _ => trivial) fun _ _ => wp_some trivial
    obtain ⟨x, hx, rfl⟩ := enum_at hp
    have hxm := List.mem_of_getElem? hx
    refine wp_bind (wp_is (P := fun t => t = true) (is_bell_spec (h.name hxm) (h.sz x hxm)) rfl) fun t e => ?_
    subst e
    refine wp_bind (P := fun t => t = false) (wp_cond (fun e => by cases e) fun _ => wp_bind (P := fun t => t = false) (wp_cond (fun e => ?_) fun _ => wp_some rfl) fun t e => wp_some e) fun t e => ?_
    · have hi : 0 < i := by have : (0 : Int) < (i : Int) := of_decide_eq_true e; omega
      have hil := (List.getElem?_eq_some_iff.mp hx).1
      have e1 : (i : Int) - 1 = ((i - 1 : Nat) : Int) := by omega
      dsimp only
      rw [e1]
      refine wp_bind (wp_is (P := fun t => t = k.1[i - 1]) (atI_nat' (by omega)) rfl) fun t13 e13 => wp_some ?_
      subst e13
      have := pw_at h.nm.2 (i := i - 1) (j := i) (x := (k.1[i - 1]).1) (y := x.1) (by omega) (by rw [List.getElem?_map, List.getElem?_eq_getElem (by omega)]; rfl) (by rw [List.getElem?_map, hx]; rfl)
      rw [this]
      rfl
    · subst e
      exact wp_cond (fun e => by cases e) fun _ => wp_some trivial
  obtain ⟨⟨⟩, hr, _⟩ := W
  exact hr
theorem is_notch_spec (h : Kit k) {n : Str × Str × Int} (hn : n ∈ k.2) : m_is_notch (n, cs k) = some true := by
  obtain ⟨h1, h2, h3, h4, h5⟩ := h.nt.1 n hn
  have n1 := h.nm.1 _ h1
  have n2 := h.nm.1 _ h2
  have W : Wp (m_is_notch (n, cs k)) fun b => b = true := by
    unfold m_is_notch
    refine wp_cond (fun e => by cases e) fun _ => ?_
    refine wp_bind (P := fun t : List Bool => t.all id = true) ?_ fun t8 h8 => ?_
    · refine (wp_is (x := [true, true]) ?_ rfl)
      unfold lcO
      rw [grd_yes (by simp)]
      have m1 : memB n.1 (cs k) = true := decide_eq_true h1
      have m2 : memB n.2.1 (cs k) = true := decide_eq_true h2
      simp [mapO, is_name_spec n1, is_name_spec n2, m1, m2]
    · rw [h8]
      refine wp_cond (fun e => by cases e) fun _ => wp_bind (P := fun t => t = true) (wp_cond (fun _ => ?_) fun e => ?_) fun t e => wp_some e
      · rw [within_spec h4 h5]
        exact wp_some rfl
      · exact absurd (by simpa using e) h3
  obtain ⟨r, hr, e⟩ := W
  rw [hr, e]
theorem check_notches_spec (h : Kit k) : m_check_notches (k.2, cs k) = some () := by
  have W : Wp (m_check_notches (k.2, cs k)) fun _ => True := by
    unfold m_check_notches
    refine wp_cond (fun e => by cases e) fun _ => ?_
    refine wp_bind (wp_forO (P := fun _ => True) (fun _ _ => True) trivial (fun i p s hp _ => ?_) fun _ _ => trivial) fun _ _ => wp_some trivial
    obtain ⟨x, hx, rfl⟩ := enum_at hp
    have hxm := List.mem_of_getElem? hx
    refine wp_bind (wp_is (P := fun t => t = true) (is_notch_spec h hxm) rfl) fun t e => ?_
    subst e
    refine wp_bind (P := fun t => t = false) (wp_cond (fun e => by cases e) fun _ => wp_bind (P := fun t => t = false) (wp_cond (fun e => ?_) fun _ => wp_some rfl) fun t e => wp_some e) fun t e => ?_
    · have hi : 0 < i := by have : (0 : Int) < (i : Int) := of_decide_eq_true e; omega
      have hil := (List.getElem?_eq_some_iff.mp hx).1
      have e1 : (i : Int) - 1 = ((i - 1 : Nat) : Int) := by omega
      dsimp only at hil ⊢
      rw [e1]
      refine wp_bind (wp_is (P := fun t => t = k.2[i - 1]) (atI_nat' (by omega)) rfl) fun t13 e13 => wp_some ?_
      subst e13
      have := pw_at h.nt.2 (i := i - 1) (j := i) (x := k.2[i - 1]) (y := x) (by omega) (List.getElem?_eq_getElem (by omega)) hx
      rw [this]
      rfl
    · subst e
      exact wp_cond (fun e => by cases e) fun _ => wp_some trivial
  obtain ⟨⟨⟩, hr, _⟩ := W
  exact hr
theorem names_lc (h : Kit k) : lcO (fun x : Str × Int => some x.1) k.1 = some (cs k) := by
  obtain ⟨r, e1, e2⟩ := wp_lcO_map (P := fun t => t = cs k) (f := fun x : Str × Int => some x.1) (fun n => n.1) (by have := h.l2; omega) (fun _ _ => rfl) rfl
  rw [e1, e2]
theorem init_spec (h : Kit k) : m_Peal___init__ (k.1, k.2) = some (pl k) := by
  unfold m_Peal___init__
  rw [check_bells_spec h]
  show (lcO _ k.1).bind _ = _
  rw [names_lc h]
  show (m_check_notches (k.2, cs k)).bind _ = _
  rw [check_notches_spec h]
  show (dictO k.1).bind _ = _
  rw [dictO_nodup (by have := h.l2; omega) h.nd]
  show (dcO _ k.2).bind _ = _
  rw [dcO_spec h]
  rfl
theorem check_name_spec (h : Kit k) {a : Str} (ha : a ∈ cs k) : m_check_name (pl k, a) = some () := by
  unfold m_check_name
  rw [is_name_spec (h.nm.1 _ ha)]
  obtain ⟨b, e⟩ := getA_mem (xs := k.1) ha
  show cond ((!true) || !hasA k.1 a) none (some ()) = _
  unfold hasA
  rw [e]
  rfl
end
end K04
end
section
set_option maxHeartbeats 2000000
namespace K04
open PySem L2 Kx Mx
section
variable {k : List (Str × Int) × List (Str × Str × Int)}
theorem seq_nat {i n : Nat} (h : i < n) : seqIndex? (i : Int) n = some i := by
  unfold seqIndex?
  have e1 : ¬ ((i : Int) < 0) := by omega
  simp only [e1, if_false]
  rw [if_pos (by simp; omega), Int.toNat_natCast]
theorem wp_popO {α : Type} {xs : List α} {i : Nat} {P : α × List α → Prop} (h : i < xs.length) (hl : xs.length ≤ 16777216) (q : P (xs[i], xs.eraseIdx i)) : Wp (popO xs (i : Int)) P := by
  unfold popO
  refine wp_bind (wp_grd (by omega)) fun _ _ => wp_bind (wp_is (P := fun t => t = i) (seq_nat h) rfl) fun t e => ?_
  subst e
  exact wp_bind (wp_is (P := fun y => y = xs[t]) (List.getElem?_eq_getElem h) rfl) fun y e => by subst e; exact wp_some q
end
end K04
end
section
set_option maxHeartbeats 2000000
namespace K04
open PySem L2 Kx Mx
abbrev KT0 := List (Str × Int) × List (Str × Str × Int)
end K04
end
section
set_option maxHeartbeats 2000000
namespace K04
open PySem L2 Kx Mx
/-! ### standings: the row, each dial by its bell -/
abbrev SS := List Str × (Str × Int → Int)
section
variable {k : KT0} {s : SS} {x : Str}
theorem without (h : Kit k) : Kit (k.1, []) := ⟨h.l1, h.l2, h.nm, h.sz, ⟨fun n hn => (nomatch hn), .nil⟩, by simp⟩
end
end K04
end
section
set_option maxHeartbeats 2000000
namespace K04
open PySem L2 Kx Mx
/-! ### repr of standings -/
structure Rep (n m : Nat) (x : PyData) : Prop where
  w : x.weight + 1 ≤ n
  i : x.intsShort 40 = true
  s : x.showable = true
  d : x.depth ≤ m
theorem Rep.ok {n m : Nat} {x : PyData} (h : Rep n m x) (hn : n ≤ 100000) (hm : m ≤ 50) : ∃ t, reprO x = some t := by
  refine ⟨x.shown, ?_⟩
  unfold reprO
  rw [if_pos]
  unfold repOk
  have h1 := h.w
  have h2 := h.d
  rw [h.i, h.s, decide_eq_true (by omega), decide_eq_true (by omega)]
  rfl
theorem Rep.mono {n m n' m' : Nat} {x : PyData} (h : Rep n m x) (hn : n ≤ n') (hm : m ≤ m') : Rep n' m' x := ⟨Nat.le_trans h.w hn, h.i, h.s, Nat.le_trans h.d hm⟩
end K04
end
section
set_option maxHeartbeats 2000000
namespace K04
open PySem L2 Kx Mx
section
variable {k : KT0}
theorem mapF_some {γ δ : Type} {f : γ → Option (Option δ)} {c : γ → Bool} {g : γ → δ} : ∀ {xs : List γ}, (∀ x ∈ xs, f x = some (if c x = true then some (g x) else none)) → mapF f xs = some ((xs.filter c).map g)
  | [], _ => rfl
  | x :: xs, h => by
    unfold mapF
    rw [h x List.mem_cons_self, mapF_some fun y hy => h y (List.mem_cons_of_mem _ hy)]
    by_cases e : c x = true
    · rw [if_pos e, List.filter_cons_of_pos e]; rfl
    · rw [if_neg e, List.filter_cons_of_neg e]; rfl
theorem lcF_some {γ δ : Type} {f : γ → Option (Option δ)} {xs : List γ} (c : γ → Bool) (g : γ → δ) (hl : xs.length ≤ 16777216) (h : ∀ x ∈ xs, f x = some (if c x = true then some (g x) else none)) : lcF f xs = some ((xs.filter c).map g) := by
  unfold lcF
  rw [grd_yes hl]
  exact mapF_some h
end
end K04
end
section
set_option maxHeartbeats 2000000
namespace K04
open PySem L2 Kx Mx
/-! ### things of any kind -/
inductive Adm : Dat → Prop
  | non : Adm .none
  | bl (b : Bool) : Adm (.bool b)
  | int (i : Int) : Adm (.int i)
  | str {z : Str} (h : z.length ≤ 1000) : Adm (.str z)
  | lst (xs : List Dat) : Adm (.list xs)
  | tup {xs : List Dat} (h : ∀ x ∈ xs, Adm x) (hl : xs.length ≤ 1000) : Adm (.tuple xs)
  | dK (ks : List Key) (xs : List Dat) : Adm (.dK ks xs)
  | ins (ns : List Str) (xs : List Dat) : Adm (.ins "Peal" ns xs)
theorem Adm.is {d : Dat} (h : Adm d) (f : Dat → Bool) : isO1 "Peal" f d = some (f d) := by
  cases h with
  | ins ns xs =>
    show cond (decide (("Peal" : Str) = "Peal")) (some (f (.ins "Peal" ns xs))) none = _
    rw [decide_eq_true rfl]
    rfl
  | _ => rfl
theorem Adm.row {r : List Str} (h : ∀ x ∈ r, x.length ≤ 1000) (hl : r.length ≤ 1000) : Adm (.tuple (r.map Dat.str)) := .tup (fun x hx => by
  obtain ⟨y, hy, rfl⟩ := List.mem_map.mp hx
  exact .str (h y hy)) (by rw [List.length_map]; exact hl)
theorem cat_ok {α : Type} {x y : List α} (h : x.length + y.length ≤ 16777216) : catO x y = some (x ++ y) := by
  unfold catO
  rw [grd_yes h]
  rfl
end K04
end
section
set_option maxHeartbeats 4000000
namespace K04
open PySem L2 Kx Mx TL
/-! ### checks of things of any kind, told whole -/
theorem add_yes {a b : Str} (h : (tl a).length + (tl b).length ≤ 16777216) : addS a b = some (a ++ b) := by
  unfold addS
  rw [grd_yes (by rw [len_tl, len_tl]; exact h)]
  rfl
/-! names -/
def nmB (z : Str) : Bool := (decide (1 ≤ z.length) && decide (z.length ≤ 6)) && (tl z).all fun c => decide (97 ≤ c ∧ c ≤ 122)
theorem nmB_ok {z : Str} (h : nmB z = true) : NameOk z := by
  unfold nmB at h
  rw [len_tl] at h
  simp only [Bool.and_eq_true, decide_eq_true_eq, List.all_eq_true] at h
  exact ⟨h.1.1, h.1.2, fun c hc => h.2 c hc⟩
section
variable {k : KT0}
theorem hasA_cs {z : Str} : hasA k.1 z = memB z (cs k) := by
  unfold memB
  by_cases q : z ∈ cs k
  · obtain ⟨b, e⟩ := getA_mem (xs := k.1) q
    unfold hasA
    rw [e, decide_eq_true q]
    rfl
  · rw [decide_eq_false q]
    unfold hasA getA
    rw [List.find?_eq_none.mpr fun x hx => ?_]
    · rfl
    · simp
      intro e
      exact q (e ▸ List.mem_map.mpr ⟨x, hx, rfl⟩)
/-! peals -/
/-! rows -/
end
end K04
end
section
set_option maxHeartbeats 4000000
namespace K04
open PySem L2 Kx Mx TL
/-! ### texts of a Peal, things that are none -/
structure SmS (n : Nat) (z : Str) : Prop where
  l : z.length ≤ n
  s : ∀ c ∈ tl z, c < 0x110000
theorem SmS.sok {n : Nat} {z : Str} (h : SmS n z) : sok z = true := sok_iff.mpr h.s
theorem SmS.app {n m : Nat} {a b : Str} (h : SmS n a) (g : SmS m b) : SmS (n + m) (a ++ b) := ⟨by rw [len_app]; have := h.l; have := g.l; omega, fun c hc => by
  rw [tl_append] at hc
  rcases List.mem_append.mp hc with hc | hc
  · exact h.s c hc
  · exact g.s c hc⟩
theorem SmS.mono {n m : Nat} {a : Str} (h : SmS n a) (hm : n ≤ m) : SmS m a := ⟨Nat.le_trans h.l hm, h.s⟩
theorem char_lt (c : Char) : c.toNat < 0x110000 := by
  have h := c.valid
  rcases h with h | h
  · have : c.toNat < 0xd800 := h
    omega
  · exact h.2
theorem smS_of (s : String) {n : Nat} (h : (Str.ofString s).length ≤ n) : SmS n (Str.ofString s) := ⟨h, fun c hc => by
  have hc : c ∈ (Str.ofString s).cps.toList := hc
  rw [Str.ofString_eq_toList] at hc
  simp at hc
  obtain ⟨a, _, rfl⟩ := hc
  exact char_lt a⟩
theorem smS_name {z : Str} (h : NameOk z) : SmS 6 z := ⟨by rw [str_len]; exact h.l2, fun c hc => by have := h.b c hc; omega⟩
theorem smS_fmt {n : Nat} : ∀ {xs : List Str}, (∀ x ∈ xs, SmS n x) → SmS (n * xs.length) (fmtS xs)
  | [], _ => ⟨by show Str.empty.length ≤ _; exact Nat.zero_le _, fun c hc => by cases hc⟩
  | x :: xs, h => ((h x List.mem_cons_self).app (smS_fmt fun y hy => h y (List.mem_cons_of_mem _ hy))).mono (by rw [List.length_cons, Nat.mul_add, Nat.mul_one, Nat.add_comm]; exact Nat.le_refl _)
theorem fmt_ok {n : Nat} {xs : List Str} (h : ∀ x ∈ xs, SmS n x) (hn : n * xs.length ≤ 16777216) : fmtO xs = some (fmtS xs) ∧ SmS (n * xs.length) (fmtS xs) := by
  have g := smS_fmt h
  refine ⟨?_, g⟩
  unfold fmtO
  rw [grd_yes ⟨Nat.le_trans g.l hn, g.sok⟩]
  rfl
theorem fit_ok {z : Str} {n : Nat} (h : SmS n z) (hn : n ≤ 16777216) : fitO z = some z := by
  unfold fitO
  rw [grd_yes (Nat.le_trans h.l hn)]
  rfl
theorem strI_sm {i : Int} (h0 : 0 ≤ i) (h : i < 1000) : ∃ t, strIO i = some t ∧ SmS 100 t := by
  obtain ⟨n, rfl⟩ : ∃ n : Nat, i = (n : Int) := ⟨i.toNat, by omega⟩
  refine ⟨Str.ofString (toString (n : Int)), ?_, ?_, ?_⟩
  · unfold strIO
    rw [grd_yes]
    · rfl
    · refine ⟨?_, (smS_of (toString (n : Int)) (Nat.le_refl _)).sok⟩
      have hl : (n : Int).natAbs.log2 ≤ (n : Int).natAbs := Nat.log2_le_self _
      omega
  · rw [len_tl, tl_num]
    have := numL_len (n := n) (k := 3) (by decide) (by omega)
    omega
  · exact (smS_of (toString (n : Int)) (Nat.le_refl _)).s
theorem join_ok {n : Nat} {sep : Str} (hs : SmS 1 sep) : ∀ {xs : List Str}, (∀ x ∈ xs, SmS n x) → (n + 1) * xs.length ≤ 16777216 → ∃ t, joinO sep xs = some t := by
  intro xs h hl
  have g1 : ∀ ys : List Str, (∀ x ∈ ys, SmS n x) → (ys.map (·.length)).sum + ys.length * sep.length ≤ (n + 1) * ys.length := by
    intro ys
    induction ys with
    | nil => intro _; simp
    | cons y ys ih =>
      intro h
      have := ih fun x hx => h x (List.mem_cons_of_mem _ hx)
      have h1 := (h y List.mem_cons_self).l
      have h2 := hs.l
      rw [List.map_cons, List.sum_cons, List.length_cons, Nat.mul_add, Nat.mul_one, Nat.add_mul, Nat.one_mul]
      omega
  have g2 : ∀ ys : List (List Nat), (∀ u ∈ ys, ∀ c ∈ u, c < 0x110000) → ∀ c ∈ joinL (tl sep) ys, c < 0x110000 := by
    intro ys
    induction ys with
    | nil => intro _ c hc; cases hc
    | cons u r ih =>
      intro h c hc
      cases r with
      | nil => exact h u List.mem_cons_self c hc
      | cons v w =>
        rcases List.mem_append.mp (show c ∈ u ++ (tl sep ++ joinL (tl sep) (v :: w)) from hc) with hc | hc
        · exact h u List.mem_cons_self c hc
        · rcases List.mem_append.mp hc with hc | hc
          · exact hs.s c hc
          · exact ih (fun u hu => h u (List.mem_cons_of_mem _ hu)) c hc
  have hs2 : sok (Txt.join sep xs) = true := sok_iff.mpr fun c hc => by
    have hc : c ∈ tl (Txt.join sep xs) := hc
    rw [join_eq, tl_join] at hc
    refine g2 _ (fun u hu => ?_) c hc
    obtain ⟨x, hx, rfl⟩ := List.mem_map.mp hu
    exact (h x hx).s
  refine ⟨Txt.join sep xs, ?_⟩
  unfold joinO
  rw [grd_yes ⟨Nat.le_trans (g1 xs h) hl, hs2⟩]
  rfl
end K04
end
section
set_option maxHeartbeats 4000000
namespace K04
open PySem L2 Kx Mx TL
/-! ### order of bells and notches; a Peal that stands as told -/
theorem lex_asym {a b : List (Int ⊕ List Nat)} (h : PyProof.Rows.lexLt PyProof.Rows.itemOrd a b = true) : PyProof.Rows.lexLt PyProof.Rows.itemOrd b a = false := by
  cases e : PyProof.Rows.lexLt PyProof.Rows.itemOrd b a with
  | false => rfl
  | true =>
    have := PyProof.Rows.lex_trans (O := PyProof.Rows.itemOrd) _ _ _ h e
    rw [PyProof.Rows.lex_irrefl] at this
    cases this
theorem lex_cons_ne {x y : Str} {xs ys : List (Int ⊕ List Nat)} (n : x ≠ y) : PyProof.Rows.lexLt PyProof.Rows.itemOrd (Sum.inr x.cps.toList :: xs) (Sum.inr y.cps.toList :: ys) = sLt x y := by
  rw [PySem.W.lex_atom (fun z => n (str_ext (Sum.inr.inj z))), lex_str]
theorem leF_SI {a b : Str × Int} (h : sLt a.1 b.1 = true) : leF fSI a b = true := by
  have n : a.1 ≠ b.1 := slt_ne h
  have : PyProof.Rows.lexLt PyProof.Rows.itemOrd ((fSI a).map kTok) ((fSI b).map kTok) = true := by
    show PyProof.Rows.lexLt PyProof.Rows.itemOrd (Sum.inr a.1.cps.toList :: _) (Sum.inr b.1.cps.toList :: _) = true
    rw [lex_cons_ne n, h]
  unfold leF
  rw [lex_asym this]
  rfl
theorem leF_SSI {a b : Str × Str × Int} (h : ltP (a.1, a.2.1) (b.1, b.2.1) = true) : leF fSSI a b = true := by
  have : PyProof.Rows.lexLt PyProof.Rows.itemOrd ((fSSI a).map kTok) ((fSSI b).map kTok) = true := by
    show PyProof.Rows.lexLt PyProof.Rows.itemOrd (Sum.inr a.1.cps.toList :: Sum.inr a.2.1.cps.toList :: _) (Sum.inr b.1.cps.toList :: Sum.inr b.2.1.cps.toList :: _) = true
    unfold ltP at h
    by_cases q : a.1 = b.1
    · rw [if_pos q] at h
      rw [q, PyProof.Rows.lex_self, lex_cons_ne (slt_ne h), h]
    · rw [if_neg q] at h
      rw [lex_cons_ne q, h]
  unfold leF
  rw [lex_asym this]
  rfl
theorem sLt_of_leF {a b : Str × Int} (h : leF fSI a b = true) (n : a.1 ≠ b.1) : sLt a.1 b.1 = true := by
  cases e : sLt a.1 b.1 with
  | true => rfl
  | false =>
    cases e2 : sLt b.1 a.1 with
    | false => exact absurd (sLt_tri e e2) n
    | true =>
      have := leF_SI (a := b) (b := a) e2
      have e3 := leF_anti flatSI.i a b h this
      exact absurd (congrArg Prod.fst e3) n
theorem ltP_of_leF {a b : Str × Str × Int} (h : leF fSSI a b = true) (n : (a.1, a.2.1) ≠ (b.1, b.2.1)) : ltP (a.1, a.2.1) (b.1, b.2.1) = true := by
  cases e : ltP (a.1, a.2.1) (b.1, b.2.1) with
  | true => rfl
  | false =>
    cases e2 : ltP (b.1, b.2.1) (a.1, a.2.1) with
    | false =>
      exact absurd (leP_anti (a.1, a.2.1) (b.1, b.2.1) (by unfold leP; rw [e2]; rfl) (by unfold leP; rw [e]; rfl)) n
    | true =>
      have := leF_SSI (a := b) (b := a) e2
      have e3 := leF_anti flatSSI.i a b h this
      exact absurd (by rw [e3]) n
section
variable {k : KT0}
theorem getA_nodup {α β : Type} [DecidableEq α] {xs : List (α × β)} (nd : (xs.map (·.1)).Nodup) {x : α × β} (hx : x ∈ xs) : getA xs x.1 = some x.2 := by
  induction xs with
  | nil => cases hx
  | cons p xs ih =>
    rw [List.map_cons] at nd
    obtain ⟨n1, n2⟩ := List.nodup_cons.mp nd
    rcases List.mem_cons.mp hx with rfl | hx
    · exact getA_pos rfl
    · rw [getA_neg (fun e => n1 (by rw [e]; exact List.mem_map.mpr ⟨x, hx, rfl⟩))]
      exact ih n2 hx
theorem getA_in {α β : Type} [DecidableEq α] {xs : List (α × β)} {a : α} {v : β} (e : getA xs a = some v) : (a, v) ∈ xs := by
  induction xs with
  | nil => cases e
  | cons p xs ih =>
    by_cases q : p.1 = a
    · rw [getA_pos q] at e
      cases e
      rw [← q]
      exact List.mem_cons_self
    · rw [getA_neg q] at e
      exact List.mem_cons_of_mem _ (ih e)
theorem rep_i {i : Int} (h0 : 0 ≤ i) (h1 : i < 1000) : ∃ t, reprX (.int i) = some t := by
  obtain ⟨t, e, _⟩ := strI_sm h0 h1
  exact ⟨t, e⟩
end
end K04
end
section
set_option maxHeartbeats 4000000
namespace K04
open PySem L2 Kx Mx TL
/-! ### a bell more, a bell fewer, a notch told -/
section
variable {k : KT0}
theorem nd_len {α : Type} [DecidableEq α] : ∀ {xs ys : List α}, xs.Nodup → (∀ x ∈ xs, x ∈ ys) → xs.length ≤ ys.length
  | [], _, _, _ => Nat.zero_le _
  | x :: xs, ys, n, h => by
    have hx := h x List.mem_cons_self
    have h1 := List.nodup_cons.mp n
    have ih := nd_len (xs := xs) (ys := ys.erase x) h1.2 fun y hy => (List.mem_erase_of_ne fun e => h1.1 (by rw [← e]; exact hy)).mpr (h y (List.mem_cons_of_mem _ hy))
    rw [List.length_erase_of_mem hx] at ih
    have : 0 < ys.length := List.length_pos_of_mem hx
    rw [List.length_cons]
    omega
/-- some word is no bell's name -/
theorem far_of {ws : List Str} (nd : ws.Nodup) (hl : k.1.length < ws.length) : 1 ≤ (ws.filter fun x => !memB x (cs k)).length := by
  cases e : ws.filter fun x => !memB x (cs k) with
  | cons a l => simp
  | nil =>
    exfalso
    have := nd_len (xs := ws) (ys := cs k) nd fun x hx => by
      have := List.filter_eq_nil_iff.mp e x hx
      unfold memB at this
      simpa using this
    have l : (cs k).length = k.1.length := by unfold cs; rw [List.length_map]
    omega
def hungK (k : KT0) (c : Str) (m : Int) : KT0 := (srtF fSI (k.1 ++ [(c, m)]), k.2)
theorem hung_len {c : Str} {m : Int} : (hungK k c m).1.length = k.1.length + 1 := by
  show (srtF fSI (k.1 ++ [(c, m)])).length = _
  rw [(srtF_perm _ _).length_eq, List.length_append, List.length_singleton]
theorem hung_mem {c : Str} {m : Int} {b : Str × Int} : b ∈ (hungK k c m).1 ↔ b ∈ k.1 ∨ b = (c, m) := by
  show b ∈ srtF fSI (k.1 ++ [(c, m)]) ↔ _
  rw [(srtF_perm _ _).mem_iff, List.mem_append, List.mem_singleton]
theorem Kit.hung (h : Kit k) {c : Str} {m : Int} (hc : c ∉ cs k) (nc : NameOk c) (hm : 2 ≤ m ∧ m ≤ 24) (h8 : k.1.length < 8) : Kit (hungK k c m) := by
  have p := srtF_perm fSI (k.1 ++ [(c, m)])
  have nd : ((k.1 ++ [(c, m)]).map (·.1)).Nodup := by
    rw [List.map_append]
    refine List.nodup_append.mpr ⟨h.nd, by simp, fun a ha b hb => ?_⟩
    have : b = c := by simpa using hb
    subst this
    exact fun e => hc (by rw [← e]; exact ha)
  have nd2 : (srtF fSI (k.1 ++ [(c, m)])).Pairwise fun a b => a.1 ≠ b.1 := by
    have := (p.map (·.1)).nodup_iff.mpr nd
    exact List.pairwise_map.mp this
  refine ⟨by rw [hung_len]; omega, by rw [hung_len]; omega, ⟨fun x hx => ?_, ?_⟩, fun b hb => ?_, ⟨fun n hn => ?_, h.nt.2⟩, h.nl⟩
  · obtain ⟨b, hb, rfl⟩ := List.mem_map.mp hx
    rcases hung_mem.mp hb with hb | rfl
    · exact h.name hb
    · exact nc
  · refine List.pairwise_map.mpr ?_
    exact ((srtF_sorted fSI (k.1 ++ [(c, m)])).and nd2).imp fun z => sLt_of_leF z.1 z.2
  · rcases hung_mem.mp hb with hb | rfl
    · exact h.sz b hb
    · exact hm
  · obtain ⟨h1, h2, h3⟩ := h.nt.1 n hn
    have up : ∀ x, x ∈ cs k → x ∈ (hungK k c m).1.map (·.1) := fun x hx => by
      obtain ⟨b, hb, rfl⟩ := List.mem_map.mp hx
      exact List.mem_map.mpr ⟨b, hung_mem.mpr (.inl hb), rfl⟩
    exact ⟨up _ h1, up _ h2, h3⟩
theorem hung_spec (h : Kit k) {c : Str} {m : Int} (hc : c ∉ cs k) (nc : NameOk c) (hm : 2 ≤ m ∧ m ≤ 24) (h8 : k.1.length < 8) : m_Peal_hung (pl k, c, m) = some (pl (hungK k c m)) := by
  unfold m_Peal_hung
  dsimp only
  rw [is_name_spec nc, Option.bind_some, hasA_cs, show memB c (cs k) = false from decide_eq_false hc, Bool.not_true, Bool.or_false, cond_false, within_spec hm.1 hm.2, Option.bind_some, Bool.not_true, cond_false, decide_eq_false (show ¬ ((k.1.length : Int) = 8) by omega), cond_false, cat_ok (by rw [List.length_singleton]; omega), Option.bind_some]
  rw [show m_Peal___init__ (srtF fSI (k.1 ++ [(c, m)]), k.2) = some (pl (hungK k c m)) from init_spec (h.hung hc nc hm h8)]
  rfl
def withoutK (k : KT0) (c : Str) : KT0 := (k.1.filter (fun b => !decide (b.1 = c)), k.2.filter fun n => !memB c [n.1, n.2.1])
theorem Kit.without (h : Kit k) {c : Str} (h1 : 1 < k.1.length) : Kit (withoutK k c) := by
  have l1 : (withoutK k c).1.length ≤ k.1.length := List.length_filter_le _ _
  have l2 : (withoutK k c).2.length ≤ k.2.length := List.length_filter_le _ _
  have hl2 := h.l2
  have hnl := h.nl
  refine ⟨?_, by omega, ⟨fun x hx => ?_, ?_⟩, fun b hb => h.sz b (List.mem_filter.mp hb).1, ⟨fun n hn => ?_, ?_⟩, by omega⟩
  · have n01 : k.1[0].1 ≠ k.1[1].1 := by
      have := pw_at h.nm.2 (i := 0) (j := 1) (x := k.1[0].1) (y := k.1[1].1) (by decide) (by rw [List.getElem?_map, List.getElem?_eq_getElem (by omega)]; rfl) (by rw [List.getElem?_map, List.getElem?_eq_getElem (by omega)]; rfl)
      exact slt_ne this
    by_cases q : k.1[0].1 = c
    · have : k.1[1] ∈ (withoutK k c).1 := List.mem_filter.mpr ⟨List.getElem_mem _, by rw [decide_eq_false (fun e => n01 (q.trans e.symm))]; rfl⟩
      exact List.length_pos_of_mem this
    · have : k.1[0] ∈ (withoutK k c).1 := List.mem_filter.mpr ⟨List.getElem_mem _, by rw [decide_eq_false q]; rfl⟩
      exact List.length_pos_of_mem this
  · obtain ⟨b, hb, rfl⟩ := List.mem_map.mp hx
    exact h.name (List.mem_filter.mp hb).1
  · exact List.Pairwise.sublist (List.filter_sublist.map _) h.nm.2
  · obtain ⟨hn, hq⟩ := List.mem_filter.mp hn
    obtain ⟨a1, a2, a3⟩ := h.nt.1 n hn
    have hq : c ∉ [n.1, n.2.1] := by
      unfold memB at hq
      simpa using hq
    have up : ∀ x, x ∈ cs k → x ≠ c → x ∈ (withoutK k c).1.map (·.1) := fun x hx hne => by
      obtain ⟨b, hb, rfl⟩ := List.mem_map.mp hx
      exact List.mem_map.mpr ⟨b, List.mem_filter.mpr ⟨hb, by rw [decide_eq_false hne]; rfl⟩, rfl⟩
    exact ⟨up _ a1 fun e => hq (by rw [e]; simp), up _ a2 fun e => hq (by rw [← e]; simp), a3⟩
  · exact List.Pairwise.sublist List.filter_sublist h.nt.2
theorem lcF_filter {α : Type} {xs : List α} (c : α → Bool) (hl : xs.length ≤ 16777216) : lcF (fun x => cond (c x) (some (some x)) (some none)) xs = some (xs.filter c) := by
  rw [lcF_some c (fun x => x) hl (fun x _ => by cases c x <;> rfl), List.map_id']
theorem without_spec (h : Kit k) {c : Str} (hc : c ∈ cs k) (h1 : 1 < k.1.length) : m_Peal_without (pl k, c) = some (pl (withoutK k c)) := by
  unfold m_Peal_without
  dsimp only
  have hl2 := h.l2
  have hnl := h.nl
  rw [check_name_spec h hc, Option.bind_some, decide_eq_false (show ¬ ((k.1.length : Int) = 1) by omega), cond_false]
  rw [lcF_filter (fun x2 : Str × Str × Int => !memB c [x2.1, x2.2.1]) (by omega), Option.bind_some, lcF_filter (fun x9 : Str × Int => !decide (x9.1 = c)) (by omega), Option.bind_some]
  rw [show m_Peal___init__ (k.1.filter (fun x9 : Str × Int => !decide (x9.1 = c)), k.2.filter fun x2 : Str × Str × Int => !memB c [x2.1, x2.2.1]) = some (pl (withoutK k c)) from init_spec (h.without h1)]
  rfl
theorem far_spec (h : Kit k) : Wp (m__law_far (cs k)) fun f => f ∉ cs k ∧ NameOk f := by
  unfold m__law_far
  have h8 := h.l2
  rw [lcF_filter (fun x1 : Str => !memB x1 (cs k)) (by simp), Option.bind_some]
  have l := far_of (k := k) (ws := [(Str.ofString "zzzzzz"), (Str.ofString "yyyyyy"), (Str.ofString "xxxxxx"), (Str.ofString "q"), (Str.ofString "qq"), (Str.ofString "wq"), (Str.ofString "vq"), (Str.ofString "uq"), (Str.ofString "tq")]) (by decide +kernel) (by show _ < 9; omega)
  refine wp_bind (wp_atI (i := 0) (P := fun f => f ∉ cs k ∧ NameOk f) (by omega) ?_) fun f hf => wp_some hf
  refine (fun (all : ∀ x ∈ _, x ∉ cs k ∧ NameOk x) => all _ (List.getElem_mem _)) fun x hx => ?_
  obtain ⟨hm, hq⟩ := List.mem_filter.mp hx
  refine ⟨by unfold memB at hq; simpa using hq, ?_⟩
  simp only [List.mem_cons, List.not_mem_nil, or_false] at hm
  rcases hm with e | e | e | e | e | e | e | e | e <;> (rw [e]; exact nmB_ok (by decide +kernel))
theorem nl_of {c : List Str} {ns : List (Str × Str × Int)} (hc : c.length ≤ 8) (h : NotOk c ns) : ns.length ≤ 64 := by
  have nd : (ns.map fun n => (n.1, n.2.1)).Nodup := List.pairwise_map.mpr (h.2.imp fun z => ltP_ne z)
  have q := nd_len (xs := ns.map fun n => (n.1, n.2.1)) (ys := c.flatMap fun a => c.map fun b => (a, b)) nd fun x hx => by
    obtain ⟨n, hn, rfl⟩ := List.mem_map.mp hx
    obtain ⟨h1, h2, _⟩ := h.1 n hn
    exact List.mem_flatMap.mpr ⟨_, h1, List.mem_map.mpr ⟨_, h2, rfl⟩⟩
  have e : (c.flatMap fun a => c.map fun b => (a, b)).length = c.length * c.length := by
    rw [List.length_flatMap]
    have e2 : ∀ l : List Str, (l.map fun a => (c.map fun b => (a, b)).length).sum = l.length * c.length := fun l => by
      induction l with
      | nil => simp
      | cons a l ih => rw [List.map_cons, List.sum_cons, ih, List.length_cons, Nat.succ_mul, Nat.add_comm, List.length_map]
    exact e2 c
  rw [List.length_map, e] at q
  have := Nat.mul_le_mul hc hc
  omega
theorem cs_len : (cs k).length = k.1.length := by unfold cs; rw [List.length_map]
theorem Kit.with5 (h : Kit k) {ns : List (Str × Str × Int)} (h1 : NotOk (cs k) ns) : Kit (k.1, ns) := ⟨h.l1, h.l2, h.nm, h.sz, h1, nl_of (by rw [cs_len]; exact h.l2) h1⟩
/-- what stands in order is one with what it is a permutation of -/
theorem Kit.same {k' : KT0} (h : Kit k) (h' : Kit k') (p1 : k'.1.Perm k.1) (p2 : k'.2.Perm k.2) : k' = k := by
  have s : ∀ {q : KT0}, Kit q → q.1.Pairwise fun a b => leF fSI a b = true := fun hq => (List.pairwise_map.mp hq.nm.2).imp fun z => leF_SI z
  have e1 : k'.1 = k.1 := (srtF_is flatSI.i p1 (s h')).trans (srtF_is flatSI.i (List.Perm.refl _) (s h)).symm
  have e2 : k'.2 = k.2 := (srtF_is flatSSI.i p2 (h'.nt.2.imp fun z => leF_SSI z)).trans (srtF_is flatSSI.i (List.Perm.refl _) (h.nt.2.imp fun z => leF_SSI z)).symm
  exact Prod.ext e1 e2
theorem NotOk.nd {c : List Str} {ns : List (Str × Str × Int)} (h : NotOk c ns) : (ns.map fun n => (n.1, n.2.1)).Nodup := List.pairwise_map.mpr (h.2.imp fun z => ltP_ne z)
theorem notOk_srt {c : List Str} {ns : List (Str × Str × Int)} (h : ∀ n ∈ ns, n.1 ∈ c ∧ n.2.1 ∈ c ∧ n.1 ≠ n.2.1 ∧ 1 ≤ n.2.2 ∧ n.2.2 ≤ 99) (nd : (ns.map fun n => (n.1, n.2.1)).Nodup) : NotOk c (srtF fSSI ns) := by
  have p := srtF_perm fSSI ns
  have nd2 : (srtF fSSI ns).Pairwise fun a b => (a.1, a.2.1) ≠ (b.1, b.2.1) := List.pairwise_map.mp ((p.map fun n : Str × Str × Int => (n.1, n.2.1)).nodup_iff.mpr nd)
  exact ⟨fun n hn => h n (p.mem_iff.mp hn), ((srtF_sorted fSSI ns).and nd2).imp fun z => ltP_of_leF z.1 z.2⟩
def offN (ns : List (Str × Str × Int)) (a b : Str) : List (Str × Str × Int) := ns.filter fun m => !decide ((m.1, m.2.1) = (a, b))
def onN (ns : List (Str × Str × Int)) (a b : Str) (n : Int) : List (Str × Str × Int) := offN ns a b ++ cond (decide (0 < n)) [(a, b, n)] []
def toldK (k : KT0) (a b : Str) (n : Int) : KT0 := (k.1, srtF fSSI (onN k.2 a b n))
theorem offN_mem {ns : List (Str × Str × Int)} {a b : Str} {m : Str × Str × Int} : m ∈ offN ns a b ↔ m ∈ ns ∧ (m.1, m.2.1) ≠ (a, b) := by
  unfold offN
  rw [List.mem_filter, Bool.not_eq_true', decide_eq_false_iff_not]
theorem onN_ok (h : Kit k) {a b : Str} {n : Int} (ha : a ∈ cs k) (hb : b ∈ cs k) (ne : a ≠ b) (hn : 0 ≤ n ∧ n ≤ 99) : (∀ m ∈ onN k.2 a b n, m.1 ∈ cs k ∧ m.2.1 ∈ cs k ∧ m.1 ≠ m.2.1 ∧ 1 ≤ m.2.2 ∧ m.2.2 ≤ 99) ∧ ((onN k.2 a b n).map fun m => (m.1, m.2.1)).Nodup := by
  unfold onN
  refine ⟨fun m hm => ?_, ?_⟩
  · rcases List.mem_append.mp hm with hm | hm
    · exact h.nt.1 m (offN_mem.mp hm).1
    · by_cases q : 0 < n
      · rw [decide_eq_true q, cond_true, List.mem_singleton] at hm
        subst hm
        exact ⟨ha, hb, ne, q, hn.2⟩
      · rw [decide_eq_false q, cond_false] at hm
        cases hm
  · rw [List.map_append]
    refine List.nodup_append.mpr ⟨List.Pairwise.sublist (List.filter_sublist.map _) h.nt.nd, ?_, fun x hx y hy => ?_⟩
    · cases decide (0 < n) <;> simp
    · obtain ⟨m, hm, rfl⟩ := List.mem_map.mp hx
      obtain ⟨m', hm', rfl⟩ := List.mem_map.mp hy
      have e : (m'.1, m'.2.1) = (a, b) := by
        cases q : decide (0 < n) with
        | true => rw [q, cond_true, List.mem_singleton] at hm'; rw [hm']
        | false => rw [q, cond_false] at hm'; cases hm'
      rw [e]
      exact (offN_mem.mp hm).2
theorem Kit.told (h : Kit k) {a b : Str} {n : Int} (ha : a ∈ cs k) (hb : b ∈ cs k) (ne : a ≠ b) (hn : 0 ≤ n ∧ n ≤ 99) : Kit (toldK k a b n) :=
  h.with5 (notOk_srt (onN_ok h ha hb ne hn).1 (onN_ok h ha hb ne hn).2)
theorem told_spec (h : Kit k) {a b : Str} {n : Int} (ha : a ∈ cs k) (hb : b ∈ cs k) (ne : a ≠ b) (hn : 0 ≤ n ∧ n ≤ 99) : m_Peal_told (pl k, a, b, n) = some (pl (toldK k a b n)) := by
  have l := h.nl
  have i1 : m_Peal___init__ (k.1, srtF fSSI (onN k.2 a b n)) = some (pl (toldK k a b n)) := init_spec (h.told ha hb ne hn)
  have e2 : m_check_two (pl k, a, b) = some () := by
    unfold m_check_two
    dsimp only
    rw [check_name_spec h ha, Option.bind_some, check_name_spec h hb, Option.bind_some, decide_eq_false (fun e => ne e.symm), cond_false]
  unfold m_Peal_told
  dsimp only
  rw [e2, Option.bind_some, within_spec hn.1 hn.2, Option.bind_some, Bool.not_true, cond_false]
  show (lcF (fun x3 : (Str × Str × Int) => cond (!decide ((x3.1, x3.2.1) = (a, b))) (some (some x3)) (some none)) k.2).bind _ = _
  have ll : (offN k.2 a b).length ≤ k.2.length := List.length_filter_le _ _
  rw [lcF_filter (fun x3 : (Str × Str × Int) => !decide ((x3.1, x3.2.1) = (a, b))) (by omega), Option.bind_some]
  have e3 : (cond (decide ((0 : Int) < n)) ((appO (offN k.2 a b) (a, b, n)).bind fun t12 => some t12) (some (offN k.2 a b))) = some (onN k.2 a b n) := by
    unfold onN
    cases q : decide ((0 : Int) < n) with
    | true =>
      rw [cond_true, cond_true]
      unfold appO
      rw [grd_yes (by omega)]
      rfl
    | false => rw [cond_false, cond_false, List.append_nil]
  show (Option.bind (cond (decide ((0 : Int) < n)) ((appO (offN k.2 a b) (a, b, n)).bind fun t12 => some t12) (some (offN k.2 a b))) _) = _
  rw [e3, Option.bind_some]
  show (m_Peal___init__ (k.1, srtF fSSI (onN k.2 a b n))).bind _ = _
  rw [i1]
  rfl
end
end K04
end
section
set_option maxHeartbeats 4000000
namespace K04
open PySem L2 Kx Mx TL
/-! ### k05: rows of a Peal's text -/
def sp : Str := Str.ofString " "
def nl : Str := Str.ofString "\n"
theorem tl_sp : tl sp = [32] := by decide +kernel
def numS (i : Int) : Str := Str.ofString (toString i)
theorem strI_num {i : Int} (h0 : 0 ≤ i) (h : i < 1000) : strIO i = some (numS i) ∧ SmS 3 (numS i) ∧ ∀ s, (s < 48 ∨ 57 < s) → s ∉ tl (numS i) := by
  obtain ⟨n, rfl⟩ : ∃ n : Nat, i = (n : Int) := ⟨i.toNat, by omega⟩
  have hs := smS_of (toString (n : Int)) (Nat.le_refl _)
  refine ⟨?_, ⟨?_, hs.s⟩, fun s h => ?_⟩
  · unfold strIO
    rw [grd_yes]
    · rfl
    · refine ⟨?_, hs.sok⟩
      have hl : (n : Int).natAbs.log2 ≤ (n : Int).natAbs := Nat.log2_le_self _
      omega
  · unfold numS
    rw [len_tl, tl_num]
    exact numL_len (by decide) (by omega)
  · unfold numS
    rw [tl_num]
    exact numL_free h
/-- a text put together of parts, cut again -/
theorem cut_join {y : Str} {s : Nat} (ey : tl y = [s]) (hy : (y.length == 0) = false) (hk : y.cps.all (· < 256) = true) {ps : List Str} {n : Nat} (hne : ps ≠ []) (hp : ∀ p ∈ ps, s ∉ tl p) (hs : ∀ p ∈ ps, SmS n p) (hl : (n + 1) * ps.length ≤ 16000000) :
    splitO (Str.join y ps) y = some ps ∧ SmS ((n + 1) * ps.length) (Str.join y ps) := by
  have sy : s < 0x110000 := by
    have : tl y = [s] := ey
    have h1 := hk
    rw [← Array.all_toList] at h1
    have h2 : (tl y).all (fun x => decide (x < 256)) = true := h1
    rw [ey] at h2
    have : s < 256 := by simpa using h2
    omega
  have ly : y.length = 1 := by rw [len_tl, ey]; rfl
  have len : (Str.join y ps).length ≤ (n + 1) * ps.length := by
    refine Nat.le_trans (PySem.StrLaws.join_length_le y ps) ?_
    rw [ly]
    clear hp hne hl
    induction ps with
    | nil => simp
    | cons p ps ih =>
      have := ih fun q hq => hs q (List.mem_cons_of_mem _ hq)
      have h1 := (hs p List.mem_cons_self).l
      rw [List.map_cons, List.sum_cons, List.length_cons, Nat.mul_add, Nat.mul_one, Nat.mul_one] at *
      omega
  refine ⟨?_, len, fun c hc => ?_⟩
  · unfold splitO
    have e : Txt.split (Str.join y ps) y = ps := by
      have := split_join ey hk hne hp
      rw [join_eq] at this
      exact this
    rw [e, grd_yes ⟨hy, by rw [sizeLine_eq]; omega, List.all_eq_true.mpr fun p hp => (hs p hp).sok⟩]
    rfl
  · rw [tl_join, ey] at hc
    have g : ∀ ys : List (List Nat), (∀ u ∈ ys, ∀ c ∈ u, c < 0x110000) → ∀ c ∈ joinL [s] ys, c < 0x110000 := by
      intro ys
      induction ys with
      | nil => intro _ c hc; cases hc
      | cons u r ih =>
        intro h c hc
        cases r with
        | nil => exact h u List.mem_cons_self c hc
        | cons v w =>
          rcases List.mem_append.mp (show c ∈ u ++ ([s] ++ joinL [s] (v :: w)) from hc) with hc | hc
          · exact h u List.mem_cons_self c hc
          · rcases List.mem_append.mp hc with hc | hc
            · rw [List.mem_singleton.mp hc]; exact sy
            · exact ih (fun u hu => h u (List.mem_cons_of_mem _ hu)) c hc
    refine g _ (fun u hu => ?_) c hc
    obtain ⟨p, hp, rfl⟩ := List.mem_map.mp hu
    exact (hs p hp).s
theorem join_no {y : Str} {s t : Nat} (ey : tl y = [s]) (n : t ≠ s) {ps : List Str} (h : ∀ p ∈ ps, t ∉ tl p) : t ∉ tl (Str.join y ps) := by
  rw [tl_join, ey]
  have g : ∀ ys : List (List Nat), (∀ u ∈ ys, t ∉ u) → t ∉ joinL [s] ys := by
    intro ys
    induction ys with
    | nil => intro _ hc; cases hc
    | cons u r ih =>
      intro h hc
      cases r with
      | nil => exact h u List.mem_cons_self hc
      | cons v w =>
        rcases List.mem_append.mp (show t ∈ u ++ ([s] ++ joinL [s] (v :: w)) from hc) with hc | hc
        · exact h u List.mem_cons_self hc
        · rcases List.mem_append.mp hc with hc | hc
          · exact n (List.mem_singleton.mp hc)
          · exact ih (fun u hu => h u (List.mem_cons_of_mem _ hu)) hc
  refine g _ fun u hu => ?_
  obtain ⟨p, hp, rfl⟩ := List.mem_map.mp hu
  exact h p hp
def bWs (b : Str × Int) : List Str := [Str.ofString "bell", b.1, numS b.2]
def nWs (n : Str × Str × Int) : List Str := [n.1, Str.ofString "turns", n.2.1, numS n.2.2]
def bRow (b : Str × Int) : Str := Str.join sp (bWs b)
def nRow (n : Str × Str × Int) : Str := Str.join sp (nWs n)
def rowsOf (k : KT0) : List Str := k.1.map bRow ++ k.2.map nRow
def textOf (k : KT0) : Str := Str.join nl (rowsOf k)
theorem name_free {z : Str} (h : NameOk z) {s : Nat} (hs : s < 97) : s ∉ tl z := fun hm => by
  have := h.b s hm
  omega
section
variable {k : KT0}
theorem bWs_ok (h : Kit k) {b : Str × Int} (hb : b ∈ k.1) : (∀ p ∈ bWs b, SmS 6 p) ∧ ∀ s, (s = 32 ∨ s = 10) → ∀ p ∈ bWs b, s ∉ tl p := by
  have hs := h.sz b hb
  obtain ⟨_, n2, n3⟩ := strI_num (i := b.2) (by omega) (by omega)
  refine ⟨fun p hp => ?_, fun s hs p hp => ?_⟩
  · simp only [bWs, List.mem_cons, List.not_mem_nil, or_false] at hp
    rcases hp with rfl | rfl | rfl
    · exact smS_of _ (by decide +kernel)
    · exact smS_name (h.name hb)
    · exact n2.mono (by decide)
  · simp only [bWs, List.mem_cons, List.not_mem_nil, or_false] at hp
    rcases hp with rfl | rfl | rfl
    · rcases hs with rfl | rfl <;> decide +kernel
    · exact name_free (h.name hb) (by omega)
    · exact n3 s (by omega)
theorem nWs_ok (h : Kit k) {n : Str × Str × Int} (hn : n ∈ k.2) : (∀ p ∈ nWs n, SmS 6 p) ∧ ∀ s, (s = 32 ∨ s = 10) → ∀ p ∈ nWs n, s ∉ tl p := by
  obtain ⟨a1, a2, _, a4, a5⟩ := h.nt.1 n hn
  obtain ⟨_, n2, n3⟩ := strI_num (i := n.2.2) (by omega) (by omega)
  refine ⟨fun p hp => ?_, fun s hs p hp => ?_⟩
  · simp only [nWs, List.mem_cons, List.not_mem_nil, or_false] at hp
    rcases hp with rfl | rfl | rfl | rfl
    · exact smS_name (h.nm.1 _ a1)
    · exact smS_of _ (by decide +kernel)
    · exact smS_name (h.nm.1 _ a2)
    · exact n2.mono (by decide)
  · simp only [nWs, List.mem_cons, List.not_mem_nil, or_false] at hp
    rcases hp with rfl | rfl | rfl | rfl
    · exact name_free (h.nm.1 _ a1) (by omega)
    · rcases hs with rfl | rfl <;> decide +kernel
    · exact name_free (h.nm.1 _ a2) (by omega)
    · exact n3 s (by omega)
theorem bRow_ok (h : Kit k) {b : Str × Int} (hb : b ∈ k.1) : splitO (bRow b) (Str.ofString " ") = some (bWs b) ∧ SmS 21 (bRow b) ∧ 10 ∉ tl (bRow b) := by
  obtain ⟨h1, h2⟩ := bWs_ok h hb
  obtain ⟨a, c⟩ := cut_join (y := sp) tl_sp (by decide +kernel) (by decide +kernel) (ps := bWs b) (n := 6) (by simp [bWs]) (h2 32 (.inl rfl)) h1 (by simp [bWs])
  exact ⟨a, c.mono (by simp [bWs]), join_no tl_sp (by decide) (h2 10 (.inr rfl))⟩
theorem nRow_ok (h : Kit k) {n : Str × Str × Int} (hn : n ∈ k.2) : splitO (nRow n) (Str.ofString " ") = some (nWs n) ∧ SmS 28 (nRow n) ∧ 10 ∉ tl (nRow n) := by
  obtain ⟨h1, h2⟩ := nWs_ok h hn
  obtain ⟨a, c⟩ := cut_join (y := sp) tl_sp (by decide +kernel) (by decide +kernel) (ps := nWs n) (n := 6) (by simp [nWs]) (h2 32 (.inl rfl)) h1 (by simp [nWs])
  exact ⟨a, c.mono (by simp [nWs]), join_no tl_sp (by decide) (h2 10 (.inr rfl))⟩
theorem rows_ok (h : Kit k) : (∀ p ∈ rowsOf k, SmS 28 p) ∧ ∀ p ∈ rowsOf k, 10 ∉ tl p := by
  refine ⟨fun p hp => ?_, fun p hp => ?_⟩
  · rcases List.mem_append.mp hp with hp | hp
    · obtain ⟨b, hb, rfl⟩ := List.mem_map.mp hp
      exact (bRow_ok h hb).2.1.mono (by decide)
    · obtain ⟨n, hn, rfl⟩ := List.mem_map.mp hp
      exact (nRow_ok h hn).2.1
  · rcases List.mem_append.mp hp with hp | hp
    · obtain ⟨b, hb, rfl⟩ := List.mem_map.mp hp
      exact (bRow_ok h hb).2.2
    · obtain ⟨n, hn, rfl⟩ := List.mem_map.mp hp
      exact (nRow_ok h hn).2.2
theorem rows_len : (rowsOf k).length = k.1.length + k.2.length := by unfold rowsOf; rw [List.length_append, List.length_map, List.length_map]
theorem text_join (h : Kit k) : joinO (Str.ofString "\n") (rowsOf k) = some (textOf k) := by
  have h2 := h.l2
  have h3 := h.nl
  obtain ⟨t, et⟩ := join_ok (n := 28) (sep := Str.ofString "\n") (smS_of _ (by decide +kernel)) (rows_ok h).1 (by rw [rows_len]; omega)
  have : t = textOf k := by
    unfold joinO at et
    obtain ⟨_, _, e⟩ := bs et
    cases e
    exact join_eq _ _
  rw [et, this]
/-! the text told by __str__ and by the law -/
theorem bRow_fmt {b : Str × Int} : fmtS [Str.ofString "bell ", b.1, Str.ofString " ", numS b.2] = bRow b := by
  refine ext_tl ?_
  show tl (Str.ofString "bell " ++ (b.1 ++ (Str.ofString " " ++ (numS b.2 ++ Str.empty)))) = tl (Str.join sp (bWs b))
  rw [tl_join, tl_append, tl_append, tl_append, tl_append, tl_sp]
  rw [show tl (Str.ofString "bell ") = tl (Str.ofString "bell") ++ [32] by decide +kernel, show tl (Str.ofString " ") = [32] by decide +kernel, show tl Str.empty = [] from rfl, List.append_nil]
  show _ = tl (Str.ofString "bell") ++ ([32] ++ (tl b.1 ++ ([32] ++ tl (numS b.2))))
  simp only [List.append_assoc]
theorem nRow_fmt {n : Str × Str × Int} : fmtS [n.1, Str.ofString " turns ", n.2.1, Str.ofString " ", numS n.2.2] = nRow n := by
  refine ext_tl ?_
  show tl (n.1 ++ (Str.ofString " turns " ++ (n.2.1 ++ (Str.ofString " " ++ (numS n.2.2 ++ Str.empty))))) = tl (Str.join sp (nWs n))
  rw [tl_join, tl_append, tl_append, tl_append, tl_append, tl_append, tl_sp]
  rw [show tl (Str.ofString " turns ") = [32] ++ (tl (Str.ofString "turns") ++ [32]) by decide +kernel, show tl (Str.ofString " ") = [32] by decide +kernel, show tl Str.empty = [] from rfl, List.append_nil]
  show _ = tl n.1 ++ ([32] ++ (tl (Str.ofString "turns") ++ ([32] ++ (tl n.2.1 ++ ([32] ++ tl (numS n.2.2))))))
  simp only [List.append_assoc]
theorem str_spec (h : Kit k) : m_Peal___str__ (pl k) = some (textOf k) := by
  unfold m_Peal___str__
  dsimp only
  have h2 := h.l2
  have h3 := h.nl
  have e1 : lcO (fun x1 : (Str × Int) => (fitO x1.1).bind fun t9 => (strIO x1.2).bind fun t10 => (fmtO [(Str.ofString "bell "), t9, (Str.ofString " "), t10]).bind fun t11 => some t11) k.1 = some (k.1.map bRow) := by
    obtain ⟨r, a, e⟩ := wp_lcO_map (P := fun r => r = k.1.map bRow) (f := fun x1 : (Str × Int) => (fitO x1.1).bind fun t9 => (strIO x1.2).bind fun t10 => (fmtO [(Str.ofString "bell "), t9, (Str.ofString " "), t10]).bind fun t11 => some t11) bRow (by omega) (fun b hb => by
      have hs := h.sz b hb
      obtain ⟨n1, n2, _⟩ := strI_num (i := b.2) (by omega) (by omega)
      have hn := smS_name (h.name hb)
      rw [fit_ok hn (by decide), Option.bind_some, n1, Option.bind_some, (fmt_ok (n := 6) (fun x hx => by
        simp only [List.mem_cons, List.not_mem_nil, or_false] at hx
        rcases hx with rfl | rfl | rfl | rfl
        · exact smS_of _ (by decide +kernel)
        · exact hn
        · exact smS_of _ (by decide +kernel)
        · exact n2.mono (by decide)) (by simp)).1, bRow_fmt]
      rfl) rfl
    rw [a, e]
  have e2 : lcO (fun x13 : (Str × Str × Int) => (fitO x13.1).bind fun t22 => (fitO x13.2.1).bind fun t23 => (strIO x13.2.2).bind fun t24 => (fmtO [t22, (Str.ofString " turns "), t23, (Str.ofString " "), t24]).bind fun t25 => some t25) k.2 = some (k.2.map nRow) := by
    obtain ⟨r, a, e⟩ := wp_lcO_map (P := fun r => r = k.2.map nRow) (f := fun x13 : (Str × Str × Int) => (fitO x13.1).bind fun t22 => (fitO x13.2.1).bind fun t23 => (strIO x13.2.2).bind fun t24 => (fmtO [t22, (Str.ofString " turns "), t23, (Str.ofString " "), t24]).bind fun t25 => some t25) nRow (by omega) (fun n hn => by
      obtain ⟨a1, a2, _, a4, a5⟩ := h.nt.1 n hn
      obtain ⟨n1, n2, _⟩ := strI_num (i := n.2.2) (by omega) (by omega)
      have s1 := smS_name (h.nm.1 _ a1)
      have s2 := smS_name (h.nm.1 _ a2)
      rw [fit_ok s1 (by decide), Option.bind_some, fit_ok s2 (by decide), Option.bind_some, n1, Option.bind_some, (fmt_ok (n := 7) (fun x hx => by
        simp only [List.mem_cons, List.not_mem_nil, or_false] at hx
        rcases hx with rfl | rfl | rfl | rfl | rfl
        · exact s1.mono (by decide)
        · exact smS_of _ (by decide +kernel)
        · exact s2.mono (by decide)
        · exact smS_of _ (by decide +kernel)
        · exact n2.mono (by decide)) (by simp)).1, nRow_fmt]
      rfl) rfl
    rw [a, e]
  rw [e1, Option.bind_some, e2, Option.bind_some, cat_ok (by rw [List.length_map, List.length_map]; omega), Option.bind_some]
  show (joinO (Str.ofString "\n") (rowsOf k)).bind _ = _
  rw [text_join h]
  rfl
theorem law_text_spec (h : Kit k) : m__law_text (k.1, k.2) = some (textOf k) := by
  unfold m__law_text
  dsimp only
  have h2 := h.l2
  have h3 := h.nl
  have e1 : lcO (fun x1 : (Str × Int) => (addS (Str.ofString "bell ") x1.1).bind fun t9 => (addS t9 (Str.ofString " ")).bind fun t10 => (strIO x1.2).bind fun t11 => (addS t10 t11).bind fun t12 => some t12) k.1 = some (k.1.map bRow) := by
    obtain ⟨r, a, e⟩ := wp_lcO_map (P := fun r => r = k.1.map bRow) (f := fun x1 : (Str × Int) => (addS (Str.ofString "bell ") x1.1).bind fun t9 => (addS t9 (Str.ofString " ")).bind fun t10 => (strIO x1.2).bind fun t11 => (addS t10 t11).bind fun t12 => some t12) bRow (by omega) (fun b hb => by
      have hs := h.sz b hb
      obtain ⟨n1, n2, _⟩ := strI_num (i := b.2) (by omega) (by omega)
      have hn := smS_name (h.name hb)
      have s1 := (smS_of "bell " (n := 5) (by decide +kernel)).app hn
      have s2 := s1.app (smS_of " " (n := 1) (by decide +kernel))
      rw [add_yes (by rw [← len_tl, ← len_tl]; have := hn.l; have := (smS_of "bell " (n := 5) (by decide +kernel)).l; omega), Option.bind_some, add_yes (by rw [← len_tl, ← len_tl]; have := s1.l; have := (smS_of " " (n := 1) (by decide +kernel)).l; omega), Option.bind_some, n1, Option.bind_some, add_yes (by rw [← len_tl, ← len_tl]; have := s2.l; have := n2.l; omega), Option.bind_some, ← bRow_fmt]
      congr 1
      show _ = Str.ofString "bell " ++ (b.1 ++ (Str.ofString " " ++ (numS b.2 ++ Str.empty)))
      rw [app_nil, app_assoc, app_assoc]) rfl
    rw [a, e]
  have e2 : lcO (fun x14 : (Str × Str × Int) => (addS x14.1 (Str.ofString " turns ")).bind fun t23 => (addS t23 x14.2.1).bind fun t24 => (addS t24 (Str.ofString " ")).bind fun t25 => (strIO x14.2.2).bind fun t26 => (addS t25 t26).bind fun t27 => some t27) k.2 = some (k.2.map nRow) := by
    obtain ⟨r, a, e⟩ := wp_lcO_map (P := fun r => r = k.2.map nRow) (f := fun x14 : (Str × Str × Int) => (addS x14.1 (Str.ofString " turns ")).bind fun t23 => (addS t23 x14.2.1).bind fun t24 => (addS t24 (Str.ofString " ")).bind fun t25 => (strIO x14.2.2).bind fun t26 => (addS t25 t26).bind fun t27 => some t27) nRow (by omega) (fun n hn => by
      obtain ⟨a1, a2, _, a4, a5⟩ := h.nt.1 n hn
      obtain ⟨n1, n2, _⟩ := strI_num (i := n.2.2) (by omega) (by omega)
      have s1 := smS_name (h.nm.1 _ a1)
      have s2 := smS_name (h.nm.1 _ a2)
      have q1 := smS_of " turns " (n := 7) (by decide +kernel)
      have q2 := smS_of " " (n := 1) (by decide +kernel)
      have p1 := s1.app q1
      have p2 := p1.app s2
      have p3 := p2.app q2
      rw [add_yes (by rw [← len_tl, ← len_tl]; have := s1.l; have := q1.l; omega), Option.bind_some, add_yes (by rw [← len_tl, ← len_tl]; have := p1.l; have := s2.l; omega), Option.bind_some, add_yes (by rw [← len_tl, ← len_tl]; have := p2.l; have := q2.l; omega), Option.bind_some, n1, Option.bind_some, add_yes (by rw [← len_tl, ← len_tl]; have := p3.l; have := n2.l; omega), Option.bind_some, ← nRow_fmt]
      congr 1
      show _ = n.1 ++ (Str.ofString " turns " ++ (n.2.1 ++ (Str.ofString " " ++ (numS n.2.2 ++ Str.empty))))
      rw [app_nil, app_assoc, app_assoc, app_assoc]) rfl
    rw [a, e]
  rw [e1, Option.bind_some, e2, Option.bind_some, cat_ok (by rw [List.length_map, List.length_map]; omega), Option.bind_some]
  show (joinO (Str.ofString "\n") (rowsOf k)).bind _ = _
  rw [text_join h]
  rfl
end
end K04
end
section
set_option maxHeartbeats 4000000
namespace K04
open PySem L2 Kx Mx TL
/-! ### k04: Peals alike -/
section
variable {k : KT0}
theorem onN_perm {ns ms : List (Str × Str × Int)} {a b : Str} {n : Int} (p : ns.Perm ms) : (onN ns a b n).Perm (onN ms a b n) := (p.filter _).append_right _
theorem offN_self {ns : List (Str × Str × Int)} {a b : Str} (h : ∀ m ∈ ns, (m.1, m.2.1) ≠ (a, b)) : offN ns a b = ns := List.filter_eq_self.mpr fun m hm => by rw [decide_eq_false (h m hm)]; rfl
/-- a notch told anew as it is -/
theorem onN_self {ns : List (Str × Str × Int)} {t : Str × Str × Int} (nd : (ns.map fun n => (n.1, n.2.1)).Nodup) (ht : t ∈ ns) (h0 : 0 < t.2.2) : (onN ns t.1 t.2.1 t.2.2).Perm ns := by
  unfold onN
  rw [decide_eq_true h0, cond_true]
  obtain ⟨s, u, rfl⟩ := List.append_of_mem ht
  rw [List.map_append, List.map_cons] at nd
  have nd' := List.nodup_append.mp nd
  have ndu := List.nodup_cons.mp nd'.2.1
  have e1 : offN s t.1 t.2.1 = s := offN_self fun m hm e => by
    exact nd'.2.2 _ (List.mem_map.mpr ⟨m, hm, rfl⟩) _ (List.mem_cons_self) e
  have e2 : offN u t.1 t.2.1 = u := offN_self fun m hm e => ndu.1 (by rw [← e]; exact List.mem_map.mpr ⟨m, hm, rfl⟩)
  have e3 : offN (s ++ t :: u) t.1 t.2.1 = s ++ u := by
    show (s ++ t :: u).filter _ = _
    rw [List.filter_append, List.filter_cons_of_neg (by simp)]
    exact (congrArg (· ++ _) e1).trans (congrArg (s ++ ·) e2)
  rw [e3, List.append_assoc]
  exact List.Perm.append_left s List.perm_append_comm
theorem off_onN {ns : List (Str × Str × Int)} {a b : Str} {n : Int} : offN (onN ns a b n) a b = offN ns a b := by
  unfold onN offN
  rw [List.filter_append, List.filter_filter]
  cases decide (0 < n) with
  | true => simp
  | false => simp
theorem told_told {k : KT0} {a b : Str} {n m : Int} : (toldK (toldK k a b n) a b m).2.Perm (onN k.2 a b m) := by
  refine (srtF_perm _ _).trans ?_
  refine (onN_perm (srtF_perm _ _)).trans ?_
  unfold onN
  rw [show offN (offN k.2 a b ++ cond (decide (0 < n)) [(a, b, n)] []) a b = offN k.2 a b from off_onN]
theorem told_as (h : Kit k) {t : Str × Str × Int} (ht : t ∈ k.2) {n m : Int} (hn : 0 ≤ n ∧ n ≤ 99) (hm : 0 ≤ m ∧ m ≤ 99) : toldK (toldK (toldK k t.1 t.2.1 n) t.1 t.2.1 m) t.1 t.2.1 t.2.2 = k := by
  obtain ⟨a1, a2, a3, a4, a5⟩ := h.nt.1 t ht
  have h1 := h.told a1 a2 a3 hn
  have h2 := h1.told (a := t.1) (b := t.2.1) a1 a2 a3 hm
  have h3 := h2.told (a := t.1) (b := t.2.1) (n := t.2.2) a1 a2 a3 ⟨by omega, a5⟩
  refine h.same h3 (List.Perm.refl _) ?_
  refine told_told.trans ?_
  refine (onN_perm (srtF_perm _ _)).trans ?_
  unfold onN
  rw [show offN (offN k.2 t.1 t.2.1 ++ cond (decide (0 < n)) [(t.1, t.2.1, n)] []) t.1 t.2.1 = offN k.2 t.1 t.2.1 from off_onN]
  exact onN_self h.nt.nd ht (by omega)
/-- a bell more with notches, and down again -/
theorem hung_down (h : Kit k) {f : Str} (hf : f ∉ cs k) (nf : NameOk f) (h8 : k.1.length < 8) {c : Str} (hc : c ∈ cs k) {m p q : Int} (hm : 2 ≤ m ∧ m ≤ 24) (hp : 0 ≤ p ∧ p ≤ 99) (hq : 0 ≤ q ∧ q ≤ 99) :
    withoutK (toldK (toldK (hungK k f m) f c p) c f q) f = k ∧ Kit (hungK k f m) ∧ f ∈ cs (hungK k f m) ∧ c ∈ cs (hungK k f m) ∧ f ≠ c := by
  have h1 := h.hung hf nf hm h8
  have i1 : f ∈ cs (hungK k f m) := List.mem_map.mpr ⟨(f, m), hung_mem.mpr (.inr rfl), rfl⟩
  have i2 : c ∈ cs (hungK k f m) := by
    obtain ⟨b, hb, rfl⟩ := List.mem_map.mp hc
    exact List.mem_map.mpr ⟨b, hung_mem.mpr (.inl hb), rfl⟩
  have ne : f ≠ c := fun e => hf (by rw [e]; exact hc)
  have h2 := h1.told i1 i2 ne hp
  have h3 := h2.told (a := c) (b := f) (n := q) i2 i1 (fun e => ne e.symm) hq
  have l1 : 1 < (toldK (toldK (hungK k f m) f c p) c f q).1.length := by
    show 1 < (hungK k f m).1.length
    rw [hung_len]
    have := h.l1
    omega
  refine ⟨h.same (h3.without l1) ?_ ?_, h1, i1, i2, ne⟩
  · show ((srtF fSI (k.1 ++ [(f, m)])).filter fun b => !decide (b.1 = f)).Perm k.1
    refine ((srtF_perm _ _).filter _).trans ?_
    rw [List.filter_append]
    have e1 : (k.1.filter fun b => !decide (b.1 = f)) = k.1 := List.filter_eq_self.mpr fun b hb => by rw [decide_eq_false (fun e => hf (by rw [← e]; exact List.mem_map.mpr ⟨b, hb, rfl⟩))]; rfl
    rw [e1]
    simp
  · show ((srtF fSSI (onN (srtF fSSI (onN k.2 f c p)) c f q)).filter fun n => !memB f [n.1, n.2.1]).Perm k.2
    refine ((srtF_perm _ _).filter _).trans ?_
    refine ((onN_perm (srtF_perm _ _)).filter _).trans ?_
    have no : ∀ n ∈ k.2, f ∉ [n.1, n.2.1] := fun n hn hm => by
      obtain ⟨a1, a2, _⟩ := h.nt.1 n hn
      simp only [List.mem_cons, List.not_mem_nil, or_false] at hm
      rcases hm with e | e
      · exact hf (by rw [e]; exact a1)
      · exact hf (by rw [e]; exact a2)
    have e1 : offN k.2 f c = k.2 := offN_self fun n hn e => no n hn (by rw [← (Prod.mk.inj e).1]; simp)
    have e2 : offN k.2 c f = k.2 := offN_self fun n hn e => no n hn (by rw [← (Prod.mk.inj e).2]; simp)
    have e3 : (k.2.filter fun n => !memB f [n.1, n.2.1]) = k.2 := List.filter_eq_self.mpr fun n hn => by rw [show memB f [n.1, n.2.1] = false from decide_eq_false (no n hn)]; rfl
    have x1 : ∀ z : Int, (cond (decide (0 < z)) [(f, c, z)] [] : List (Str × Str × Int)).filter (fun n => !memB f [n.1, n.2.1]) = [] := fun z => by
      cases decide (0 < z) with
      | true => rw [cond_true]; exact List.filter_eq_nil_iff.mpr fun y hy => by rw [List.mem_singleton.mp hy]; unfold memB; simp
      | false => rfl
    have x2 : ∀ z : Int, (cond (decide (0 < z)) [(c, f, z)] [] : List (Str × Str × Int)).filter (fun n => !memB f [n.1, n.2.1]) = [] := fun z => by
      cases decide (0 < z) with
      | true => rw [cond_true]; exact List.filter_eq_nil_iff.mpr fun y hy => by rw [List.mem_singleton.mp hy]; unfold memB; simp
      | false => rfl
    unfold onN
    rw [e1, List.filter_append, x2, List.append_nil]
    unfold offN
    rw [List.filter_filter]
    have e4 : ((k.2 ++ cond (decide (0 < p)) [(f, c, p)] []).filter fun a => (!memB f [a.1, a.2.1]) && !decide ((a.1, a.2.1) = (c, f))) = k.2 := by
      rw [List.filter_append]
      have y1 : (k.2.filter fun a => (!memB f [a.1, a.2.1]) && !decide ((a.1, a.2.1) = (c, f))) = k.2 := List.filter_eq_self.mpr fun n hn => by
        rw [show memB f [n.1, n.2.1] = false from decide_eq_false (no n hn), decide_eq_false (fun e => no n hn (by rw [← (Prod.mk.inj e).2]; simp))]
        rfl
      have y2 : ((cond (decide (0 < p)) [(f, c, p)] [] : List (Str × Str × Int)).filter fun a => (!memB f [a.1, a.2.1]) && !decide ((a.1, a.2.1) = (c, f))) = [] := by
        cases decide (0 < p) with
        | true => rw [cond_true]; exact List.filter_eq_nil_iff.mpr fun y hy => by rw [List.mem_singleton.mp hy]; unfold memB; simp
        | false => rfl
      rw [y1, y2, List.append_nil]
    rw [e4]
theorem perm_at {α : Type} : ∀ {xs : List α} {n : Nat} (h : n < xs.length), (xs[n] :: xs.eraseIdx n).Perm xs
  | x :: xs, 0, _ => .refl _
  | x :: xs, n + 1, h => (List.Perm.swap x _ _).trans (.cons x (perm_at (xs := xs) (n := n) (Nat.lt_of_succ_lt_succ h)))
theorem popO_at {α : Type} {xs : List α} {n : Nat} (h : n < xs.length) (hl : xs.length ≤ 16777216) : popO xs (n : Int) = some (xs[n], xs.eraseIdx n) := by
  obtain ⟨r, e1, e2⟩ := wp_popO (P := fun r => r = (xs[n], xs.eraseIdx n)) h hl rfl
  rw [e1, e2]
theorem anew_spec (h : Kit k) (z : Sto) : Wp (m__law_anew k z) fun r => r.1 = pl k := by
  have h1 := h.l1
  have h8 := h.l2
  have h6 := h.nl
  have k0 : Kit (k.1, ([] : List (Str × Str × Int))) := h.with5 ⟨fun n hn => (by cases hn), List.Pairwise.nil⟩
  have i0 : m_Peal___init__ (k.1, ([] : List (Str × Str × Int))) = some (pl (k.1, [])) := init_spec k0
  unfold m__law_anew
  rw [i0, Option.bind_some]
  refine wp_bind (wp_rngN (P := fun t => t = irange 0 (k.2.length : Int)) (by omega) rfl) fun t2 e2 => ?_
  subst e2
  refine wp_bind (P := fun s : _ × _ × Sto => s.1 = pl k) (wp_forO (fun i s => ∃ ns, Kit (k.1, ns) ∧ s.1 = pl (k.1, ns) ∧ (ns ++ s.2.1).Perm k.2 ∧ s.2.1.length + i = k.2.length) ⟨[], k0, rfl, List.Perm.refl _, rfl⟩ (fun i x s hx ⟨ns, kn, b1, b2, b3⟩ => ?_) fun s ⟨ns, kn, b1, b2, b3⟩ => ?_) fun fin e => ?_
  · have hi := (irange_at hx).1
    refine wp_bind (pull_nat _ (by omega) (by omega)) fun t10 ⟨n, en, hn⟩ => ?_
    rw [en]
    have hl : n < s.2.1.length := by omega
    rw [popO_at hl (by omega), Option.bind_some]
    have pm : (s.2.1[n] :: s.2.1.eraseIdx n).Perm s.2.1 := perm_at hl
    have p2 : (ns ++ (s.2.1[n] :: s.2.1.eraseIdx n)).Perm k.2 := (List.Perm.append_left ns pm).trans b2
    have ht : s.2.1[n] ∈ k.2 := p2.mem_iff.mp (List.mem_append_right _ List.mem_cons_self)
    generalize s.2.1[n] = t at *
    obtain ⟨a1, a2, a3, a4, a5⟩ := h.nt.1 t ht
    have nd := (p2.map fun n => (n.1, n.2.1)).nodup_iff.mpr h.nt.nd
    rw [List.map_append, List.map_cons] at nd
    have nd' := List.nodup_append.mp nd
    have off : offN ns t.1 t.2.1 = ns := offN_self fun m hm e => nd'.2.2 _ (List.mem_map.mpr ⟨m, hm, rfl⟩) _ List.mem_cons_self e
    have kt := kn.told (a := t.1) (b := t.2.1) (n := t.2.2) a1 a2 a3 ⟨by omega, a5⟩
    have st := told_spec kn (a := t.1) (b := t.2.1) (n := t.2.2) a1 a2 a3 ⟨by omega, a5⟩
    dsimp only
    rw [b1, st, Option.bind_some]
    refine wp_some ⟨(toldK (k.1, ns) t.1 t.2.1 t.2.2).2, kt, rfl, ?_, ?_⟩
    · refine ((srtF_perm _ _).append_right _).trans ?_
      unfold onN
      rw [off, decide_eq_true (show (0 : Int) < t.2.2 by omega), cond_true, List.append_assoc]
      exact p2
    · show (s.2.1.eraseIdx n).length + (i + 1) = _
      rw [List.length_eraseIdx_of_lt hl]
      omega
  · have hl : (irange 0 (k.2.length : Int)).length = k.2.length := irange_nat_len _
    have e : s.2.1 = [] := List.length_eq_zero_iff.mp (by omega)
    rw [e, List.append_nil] at b2
    rw [b1, h.same kn (List.Perm.refl _) b2]
  · rw [e]
    have s1 : Wp (cond (decide ((k.1.length : Int) < (8 : Int))) ((lcO (fun x22 : (Str × Int) => some x22.1) k.1).bind fun t28 => (m__law_far t28).bind fun t29 => (m_Peal_hung (pl k, t29, (5 : Int))).bind fun t30 => (atI k.1 (0 : Int)).bind fun t31 => (m_Peal_told (t30, t29, t31.1, (7 : Int))).bind fun t32 => (atI k.1 (0 : Int)).bind fun t33 => (m_Peal_told (t32, t33.1, t29, (9 : Int))).bind fun t34 => (m_Peal_without (t34, t29)).bind fun t35 => some t35) (some (pl k))) fun j => j = pl k := by
      refine wp_cond (fun q => ?_) fun _ => wp_some rfl
      have q := of_decide_eq_true q
      rw [names_lc h, Option.bind_some]
      refine wp_bind (far_spec h) fun f ⟨hf, nf⟩ => ?_
      have at0 : atI k.1 (0 : Int) = some k.1[0] := atI_nat' (i := 0) (by omega)
      have hc : k.1[0].1 ∈ cs k := List.mem_map.mpr ⟨_, List.getElem_mem _, rfl⟩
      obtain ⟨w1, w2, w3, w4, w5⟩ := hung_down h hf nf (by omega) hc (m := 5) (p := 7) (q := 9) (by decide) (by decide) (by decide)
      rw [hung_spec h hf nf (by decide) (by omega), Option.bind_some, at0, Option.bind_some, told_spec w2 w3 w4 w5 (by decide), Option.bind_some, Option.bind_some]
      have k2 := w2.told w3 w4 w5 (n := 7) (by decide)
      have k3 := k2.told (a := k.1[0].1) (b := f) (n := 9) w4 w3 (fun e => w5 e.symm) (by decide)
      rw [told_spec k2 (a := k.1[0].1) (b := f) (n := 9) w4 w3 (fun e => w5 e.symm) (by decide), Option.bind_some, without_spec k3 (c := f) w3 (by show 1 < (hungK k f 5).1.length; rw [hung_len]; omega), w1]
      exact wp_some rfl
    refine wp_bind s1 fun j20 e20 => ?_
    subst e20
    refine wp_bind (P := fun j : _ × Sto => j.1 = pl k) (wp_cond (fun q => ?_) fun _ => wp_some rfl) fun j ej => wp_some ej
    have q0 : 0 < k.2.length := by
      cases e2 : k.2 with
      | nil => rw [e2] at q; simp at q
      | cons a l => simp
    refine wp_bind (pull_nat _ (by omega) (by omega)) fun t39 ⟨n, en, hn⟩ => ?_
    rw [en]
    refine wp_bind (wp_atI (P := fun t => t ∈ k.2) (by omega) (List.getElem_mem _)) fun t ht => ?_
    obtain ⟨a1, a2, a3, a4, a5⟩ := h.nt.1 t ht
    have k1 := h.told (a := t.1) (b := t.2.1) (n := 100 - t.2.2) a1 a2 a3 (by omega)
    have k2 := k1.told (a := t.1) (b := t.2.1) (n := 0) a1 a2 a3 (by decide)
    rw [told_spec h (a := t.1) (b := t.2.1) (n := 100 - t.2.2) a1 a2 a3 (by omega), Option.bind_some, told_spec k1 (a := t.1) (b := t.2.1) (n := 0) a1 a2 a3 (by decide), Option.bind_some, told_spec k2 (a := t.1) (b := t.2.1) (n := t.2.2) a1 a2 a3 (by omega), Option.bind_some, told_as h ht (by omega) (by decide)]
    exact wp_some rfl
end
end K04
end
section
set_option maxHeartbeats 4000000
namespace K04
open PySem L2 Kx Mx TL
/-! ### k04: alike and unlike -/
section
variable {k : KT0}
theorem eq_spec {k k' : KT0} {b : Bool} (h : decide (k = k') = b) : m_Peal___eq__ (pl k, pl k') = some b := by
  unfold m_Peal___eq__
  subst h
  show some (true && decide (((k.1, k.2) : KT0) = (k'.1, k'.2))) = _
  rw [Bool.true_and]
theorem is_same (b : Bool) : m__law_is (b, b) = some true := by
  unfold m__law_is
  rw [decide_eq_true rfl]
  rfl
theorem both_spec {k k' : KT0} {b : Bool} (h : decide (k = k') = b) : m__law_both (pl k, pl k', b) = some true := by
  have h' : decide (k' = k) = b := by rw [← h]; exact decide_eq_decide.mpr ⟨Eq.symm, Eq.symm⟩
  unfold m__law_both
  dsimp only
  rw [eq_spec h, Option.bind_some, is_same, Option.bind_some, eq_spec h', Option.bind_some, is_same, Option.bind_some, Option.bind_some, is_same, Option.bind_some, Option.bind_some, is_same, Option.bind_some]
  rfl
theorem eq2_spec {d : Dat} (h : isIns d = false) : m_Peal___eq___2 (pl k, d) = some false := by
  unfold m_Peal___eq___2
  dsimp only
  have e : isP "Peal" d = some false := by cases d <;> first | rfl | cases h
  rw [e, Option.bind_some, cond_false, Option.bind_some]
theorem both2_spec {d : Dat} (h : isIns d = false) : m__law_both_2 (pl k, d, false) = some true := by
  unfold m__law_both_2
  dsimp only
  have e : thO d = some () := by unfold thO; rw [h]; rfl
  rw [e, Option.bind_some, eq2_spec h, Option.bind_some, is_same, Option.bind_some, Option.bind_some, Option.bind_some, is_same, Option.bind_some, Option.bind_some, Option.bind_some]
  rfl
/-! others -/
theorem kit_srt {bs : List (Str × Int)} {ns : List (Str × Str × Int)} (l1 : 1 ≤ bs.length) (l2 : bs.length ≤ 8) (nd : (bs.map (·.1)).Nodup) (ok : ∀ b ∈ bs, NameOk b.1 ∧ 2 ≤ b.2 ∧ b.2 ≤ 24) (hn : ∀ n ∈ ns, n.1 ∈ bs.map (·.1) ∧ n.2.1 ∈ bs.map (·.1) ∧ n.1 ≠ n.2.1 ∧ 1 ≤ n.2.2 ∧ n.2.2 ≤ 99) (hp : ns.Pairwise fun a b => ltP (a.1, a.2.1) (b.1, b.2.1) = true) (l3 : ns.length ≤ 64) : Kit (srtF fSI bs, ns) := by
  have p := srtF_perm fSI bs
  have nd2 : (srtF fSI bs).Pairwise fun a b => a.1 ≠ b.1 := List.pairwise_map.mp ((p.map (fun b : Str × Int => b.1)).nodup_iff.mpr nd)
  have pm := p.map (·.1)
  refine ⟨by rw [show (srtF fSI bs, ns).1 = srtF fSI bs from rfl, p.length_eq]; exact l1, by rw [show (srtF fSI bs, ns).1 = srtF fSI bs from rfl, p.length_eq]; exact l2, ⟨fun x hx => ?_, ?_⟩, fun b hb => (ok b (p.mem_iff.mp hb)).2, ⟨fun n hx => ?_, hp⟩, l3⟩
  · obtain ⟨b, hb, rfl⟩ := List.mem_map.mp hx
    exact (ok b (p.mem_iff.mp hb)).1
  · exact List.pairwise_map.mpr (((srtF_sorted fSI bs).and nd2).imp fun z => sLt_of_leF z.1 z.2)
  · obtain ⟨a1, a2, a3⟩ := hn n hx
    exact ⟨pm.mem_iff.mpr a1, pm.mem_iff.mpr a2, a3⟩
/-- one bell's marks otherwise -/
theorem Kit.marked (h : Kit k) {n : Nat} (hn : n < k.1.length) {m : Int} (hm : 2 ≤ m ∧ m ≤ 24) : Kit (k.1.set n (k.1[n].1, m), k.2) := by
  have e : (k.1.set n (k.1[n].1, m)).map (·.1) = k.1.map (·.1) := by
    rw [List.map_set]
    show (k.1.map (·.1)).set n k.1[n].1 = _
    have : (k.1.map (·.1))[n]'(by rw [List.length_map]; exact hn) = k.1[n].1 := List.getElem_map _
    rw [← this, List.set_getElem_self]
  refine ⟨by show 1 ≤ (k.1.set _ _).length; rw [List.length_set]; exact h.l1, by show (k.1.set _ _).length ≤ 8; rw [List.length_set]; exact h.l2, by show Nms ((k.1.set _ _).map (·.1)); rw [e]; exact h.nm, fun x hx => ?_, by show NotOk ((k.1.set _ _).map (·.1)) k.2; rw [e]; exact h.nt, h.nl⟩
  rcases List.mem_or_eq_of_mem_set hx with hx | rfl
  · exact h.sz x hx
  · exact hm
theorem set_cat {α : Type} {xs : List α} {n : Nat} (h : n < xs.length) (x : α) : (xs.take n ++ [x]) ++ xs.drop (n + 1) = xs.set n x := by
  rw [List.set_eq_take_append_cons_drop, if_pos h, List.append_assoc]
  rfl
/-- one bell's name otherwise, its notches gone -/
def awayK (k : KT0) (c f : Str) (m : Int) : KT0 := (srtF fSI ((withoutK k c).1 ++ [(f, m)]), (withoutK k c).2)
theorem Kit.away (h : Kit k) {c f : Str} (hc : c ∈ cs k) (hf : f ∉ cs k) (nf : NameOk f) {m : Int} (hm : 2 ≤ m ∧ m ≤ 24) : Kit (awayK k c f m) := by
  have l2 : (withoutK k c).1.length < k.1.length := by
    obtain ⟨b, hb, e⟩ := List.mem_map.mp hc
    refine List.length_filter_lt_length_iff_exists.mpr ⟨b, hb, ?_⟩
    rw [decide_eq_true e]
    decide
  have l3 : (withoutK k c).2.length ≤ k.2.length := List.length_filter_le _ _
  have h2 := h.l2
  have h3 := h.nl
  have sub : ∀ b ∈ (withoutK k c).1, b ∈ k.1 := fun b hb => (List.mem_filter.mp hb).1
  refine kit_srt (by simp) (by rw [List.length_append, List.length_singleton]; omega) ?_ (fun b hb => ?_) (fun n hn => ?_) (List.Pairwise.sublist List.filter_sublist h.nt.2) (by omega)
  · rw [List.map_append]
    refine List.nodup_append.mpr ⟨List.Pairwise.sublist (List.filter_sublist.map _) h.nd, by simp, fun a ha b hb => ?_⟩
    have : b = f := by simpa using hb
    subst this
    obtain ⟨x, hx, rfl⟩ := List.mem_map.mp ha
    exact fun e => hf (by rw [← e]; exact List.mem_map.mpr ⟨x, sub x hx, rfl⟩)
  · rcases List.mem_append.mp hb with hb | hb
    · exact ⟨h.name (sub b hb), h.sz b (sub b hb)⟩
    · rw [List.mem_singleton.mp hb]
      exact ⟨nf, hm⟩
  · obtain ⟨hn, hq⟩ := List.mem_filter.mp hn
    obtain ⟨a1, a2, a3⟩ := h.nt.1 n hn
    have hq : c ∉ [n.1, n.2.1] := by
      unfold memB at hq
      simpa using hq
    have up : ∀ x, x ∈ cs k → x ≠ c → x ∈ ((withoutK k c).1 ++ [(f, m)]).map (·.1) := fun x hx hne => by
      obtain ⟨b, hb, rfl⟩ := List.mem_map.mp hx
      exact List.mem_map.mpr ⟨b, List.mem_append_left _ (List.mem_filter.mpr ⟨hb, by rw [decide_eq_false hne]; rfl⟩), rfl⟩
    exact ⟨up _ a1 fun e => hq (by rw [e]; simp), up _ a2 fun e => hq (by rw [← e]; simp), a3⟩
theorem tk_told_ne (h : Kit k) {a b : Str} {n : Int} (ha : a ∈ cs k) (hb : b ∈ cs k) (ne : a ≠ b) (hn : 0 ≤ n ∧ n ≤ 99) (hx : tk k a b ≠ n) : toldK k a b n ≠ k := fun e => hx (by
  have e2 : srtF fSSI (onN k.2 a b n) = k.2 := congrArg Prod.snd e
  have mem : ∀ x, x ∈ onN k.2 a b n ↔ x ∈ k.2 := fun x => by rw [← (srtF_perm fSSI _).mem_iff, e2]
  unfold tk getD'
  by_cases q : 0 < n
  · have : (a, b, n) ∈ k.2 := (mem _).mp (by unfold onN; rw [decide_eq_true q, cond_true]; simp)
    have e3 := getA_nodup h.tnd (x := ((a, b), n)) (List.mem_map.mpr ⟨_, this, rfl⟩)
    rw [show getA (tb k) (a, b) = some n from e3]
    rfl
  · cases e3 : getA (tb k) (a, b) with
    | none => show (0 : Int) = n; omega
    | some v =>
      obtain ⟨y, hy, e4⟩ := List.mem_map.mp (getA_in e3)
      have := (mem y).mpr hy
      unfold onN at this
      rw [decide_eq_false q, cond_false, List.append_nil] at this
      exact absurd (congrArg Prod.fst e4) (offN_mem.mp this).2)
theorem tk_in (h : Kit k) (a b : Str) : 0 ≤ tk k a b ∧ tk k a b ≤ 99 := by
  unfold tk getD'
  cases e : getA (tb k) (a, b) with
  | none => exact ⟨by decide, by decide⟩
  | some v =>
    obtain ⟨n, hn, e2⟩ := List.mem_map.mp (getA_in e)
    have := (h.nt.1 n hn).2.2.2
    have e3 : n.2.2 = v := congrArg Prod.snd e2
    show 0 ≤ v ∧ v ≤ 99
    omega
theorem atI_lst {α : Type} {xs : List α} (h : 0 < xs.length) : atI xs (-(1 : Int)) = some (xs[xs.length - 1]'(by omega)) := by
  unfold atI ixN
  rw [if_neg (by omega)]
  first
    | rw [if_pos (by omega)]
    | skip
  show xs[_]? = _
  rw [show (-(1 : Int) + (xs.length : Int)).toNat = xs.length - 1 by omega]
  exact List.getElem?_eq_getElem (by omega)
/-- the bell ahead of the n-th, round about -/
theorem mate_at (h : Kit k) {n : Nat} (hn : n < k.1.length) (h1 : 1 < k.1.length) : ∃ b, atI k.1 ((n : Int) - 1) = some b ∧ b ∈ k.1 ∧ k.1[n].1 ≠ b.1 := by
  have lt : ∀ {i j : Nat} (hi : i < k.1.length) (hj : j < k.1.length), i < j → (k.1[i]).1 ≠ (k.1[j]).1 := fun {i j} hi hj hij => slt_ne (pw_at h.nm.2 hij (by rw [List.getElem?_map, List.getElem?_eq_getElem hi]; rfl) (by rw [List.getElem?_map, List.getElem?_eq_getElem hj]; rfl))
  have inj : ∀ {i j : Nat} (hi : i < k.1.length) (hj : j < k.1.length), i ≠ j → (k.1[i]).1 ≠ (k.1[j]).1 := fun {i j} hi hj hne => by
    rcases Nat.lt_or_gt_of_ne hne with q | q
    · exact lt hi hj q
    · exact fun e => lt hj hi q e.symm
  cases n with
  | zero =>
    have e : atI k.1 (((0 : Nat) : Int) - 1) = some (k.1[k.1.length - 1]) := atI_lst (by omega)
    exact ⟨_, e, List.getElem_mem _, inj _ _ (by omega)⟩
  | succ n =>
    rw [show (((n + 1 : Nat) : Int) - 1) = (n : Int) by omega]
    exact ⟨_, atI_nat' (by omega), List.getElem_mem _, inj _ _ (by omega)⟩
abbrev PEv := (List (Str × Int)) × (List (Str × Str × Int)) × (List (Str × Int)) × (List ((Str × Str) × Int))
def Oth (k : KT0) (r : List PEv) : Prop := r.length ≤ 6 ∧ ∀ x ∈ r, ∃ k', x = pl k' ∧ k ≠ k'
theorem Oth.app {r : List PEv} (h : Oth k r) {k' : KT0} (hl : r.length < 6) (ne : k ≠ k') : Oth k (r ++ [pl k']) := ⟨by rw [List.length_append, List.length_singleton]; omega, fun x hx => by
  rcases List.mem_append.mp hx with hx | hx
  · exact h.2 x hx
  · exact ⟨k', List.mem_singleton.mp hx, ne⟩⟩
theorem others_spec (h : Kit k) (z : Sto) : Wp (m__law_others (k.1, k.2) z) fun r => Oth k r.1 := by
  unfold m__law_others
  dsimp only
  have h1 := h.l1
  have h2 := h.l2
  have h3 := h.nl
  refine wp_bind (pull_nat _ (by omega) (by omega)) fun t1 ⟨n, en, hn⟩ => ?_
  rw [en]
  have hl : n < k.1.length := by omega
  refine wp_bind (wp_atI (P := fun t => t = k.1[n]) hl rfl) fun t2 e2 => ?_
  subst e2
  rw [names_lc h, Option.bind_some]
  refine wp_bind (far_spec h) fun f ⟨hf, nf⟩ => ?_
  have sz := h.sz k.1[n] (List.getElem_mem _)
  have hc : k.1[n].1 ∈ cs k := List.mem_map.mpr ⟨_, List.getElem_mem _, rfl⟩
  refine wp_bind (wp_modO (P := fun t => t = (k.1[n].2 - 1).fmod 23) (by decide) rfl) fun t15 e15 => ?_
  have hm : (2 ≤ 2 + t15 ∧ 2 + t15 ≤ 24) ∧ 2 + t15 ≠ k.1[n].2 := by
    rw [e15, Int.fmod_eq_emod_of_nonneg _ (by decide)]
    omega
  have c1 : ((catO (cut k.1 none (some (n : Int))) ([(k.1[n].1, ((2 : Int) + t15))] : (List (Str × Int)))).bind fun t16 => catO t16 (cut k.1 (some ((n : Int) + (1 : Int))) none)) = some (k.1.set n (k.1[n].1, 2 + t15)) := by
    have ln : ((n : Int) + (1 : Int)) = ((n + 1 : Nat) : Int) := by omega
    have l1 : (k.1.take n).length ≤ 8 := by rw [List.length_take]; omega
    have l2 : (k.1.drop (n + 1)).length ≤ 8 := by rw [List.length_drop]; omega
    rw [ln, cut_to, cut_from, cat_ok (by simp only [List.length_singleton]; omega), Option.bind_some, cat_ok (by rw [List.length_append, List.length_singleton]; omega), set_cat hl]
  have i18 : m_Peal___init__ (k.1.set n (k.1[n].1, 2 + t15), k.2) = some (pl (k.1.set n (k.1[n].1, 2 + t15), k.2)) := init_spec (h.marked hl hm.1)
  have ne18 : k ≠ (k.1.set n (k.1[n].1, 2 + t15), k.2) := fun e => hm.2 (by
    have e1 : k.1 = k.1.set n (k.1[n].1, 2 + t15) := congrArg Prod.fst e
    have e2 : k.1[n]? = some (k.1[n].1, 2 + t15) := by
      conv => lhs; rw [e1]
      exact List.getElem?_set_self hl
    rw [List.getElem?_eq_getElem hl] at e2
    exact (congrArg Prod.snd (Option.some.inj e2)).symm)
  obtain ⟨u, eu, ev⟩ := Option.bind_eq_some_iff.mp c1
  rw [eu, Option.bind_some, ev, Option.bind_some, i18, Option.bind_some]
  rw [lcF_filter (fun x2 : Str × Str × Int => !memB k.1[n].1 [x2.1, x2.2.1]) (by omega), Option.bind_some, lcF_filter (fun x9 : Str × Int => !decide (x9.1 = k.1[n].1)) (by omega), Option.bind_some]
  have lf : (k.1.filter fun x9 : Str × Int => !decide (x9.1 = k.1[n].1)).length ≤ k.1.length := List.length_filter_le _ _
  rw [cat_ok (by rw [List.length_singleton]; omega), Option.bind_some]
  have i34 : m_Peal___init__ (srtF fSI ((k.1.filter fun x9 : Str × Int => !decide (x9.1 = k.1[n].1)) ++ [(f, k.1[n].2)]), k.2.filter fun x2 : Str × Str × Int => !memB k.1[n].1 [x2.1, x2.2.1]) = some (pl (awayK k k.1[n].1 f k.1[n].2)) := init_spec (h.away hc hf nf sz)
  have ne34 : k ≠ awayK k k.1[n].1 f k.1[n].2 := fun e => hf (by
    have : (f, k.1[n].2) ∈ (awayK k k.1[n].1 f k.1[n].2).1 := (srtF_perm fSI _).mem_iff.mpr (List.mem_append_right _ (List.mem_singleton.mpr rfl))
    rw [← e] at this
    exact List.mem_map.mpr ⟨_, this, rfl⟩)
  rw [i34, Option.bind_some]
  refine wp_bind (wp_appO (P := fun t => Oth k t ∧ t.length = 2) (show (1 : Nat) < 16777216 by decide) ⟨⟨show (2 : Nat) ≤ 6 by decide, fun x hx => ?_⟩, rfl⟩) fun t35 ⟨o35, l35⟩ => ?_
  · simp only [List.mem_append, List.mem_cons, List.not_mem_nil, or_false] at hx
    rcases hx with rfl | rfl
    · exact ⟨_, rfl, ne18⟩
    · exact ⟨_, rfl, ne34⟩
  refine wp_bind (P := fun j : List PEv => Oth k j ∧ j.length ≤ 4) (wp_cond (fun q => ?_) fun _ => wp_some ⟨o35, by omega⟩) fun j36 ⟨o36, l36⟩ => ?_
  · have q : 1 < k.1.length := by have := of_decide_eq_true q; omega
    obtain ⟨b, eb, hb, ne⟩ := mate_at h hl q
    have i39 : m_Peal___init__ (k.1.filter (fun x9 : Str × Int => !decide (x9.1 = k.1[n].1)), k.2.filter fun x2 : Str × Str × Int => !memB k.1[n].1 [x2.1, x2.2.1]) = some (pl (withoutK k k.1[n].1)) := init_spec (h.without q)
    have ne39 : k ≠ withoutK k k.1[n].1 := fun e => by
      have e1 : k.1[n] ∈ (withoutK k k.1[n].1).1 := by rw [← e]; exact List.getElem_mem _
      have := (List.mem_filter.mp e1).2
      rw [decide_eq_true rfl] at this
      cases this
    rw [eb, Option.bind_some, i39, Option.bind_some]
    refine wp_bind (wp_appO (P := fun t => Oth k t ∧ t.length = 3) (by omega) ⟨o35.app (by omega) ne39, by rw [List.length_append, List.length_singleton]; omega⟩) fun t40 ⟨o40, l40⟩ => ?_
    have e47 : lcO (fun x41 : (Str × Str × Int) => some ((x41.1, x41.2.1), x41.2.2)) k.2 = some (tb k) := by
      obtain ⟨r, a, e⟩ := wp_lcO_map (P := fun r => r = tb k) (f := fun x41 : (Str × Str × Int) => some ((x41.1, x41.2.1), x41.2.2)) (fun n => ((n.1, n.2.1), n.2.2)) (by omega) (fun _ _ => rfl) rfl
      rw [a, e]
    rw [e47, Option.bind_some, dictO_nodup (by unfold tb; rw [List.length_map]; omega) h.tnd, Option.bind_some]
    have i49 : m_Peal___init__ (k.1, k.2) = some (pl k) := init_spec h
    rw [i49, Option.bind_some]
    have tin := tk_in h k.1[n].1 b.1
    refine wp_bind (wp_modO (P := fun t => t = (tk k k.1[n].1 b.1 + 1).fmod 100) (by decide) rfl) fun t50 e50 => ?_
    have h50 : (0 ≤ t50 ∧ t50 ≤ 99) ∧ tk k k.1[n].1 b.1 ≠ t50 := by
      rw [e50, Int.fmod_eq_emod_of_nonneg _ (by decide)]
      omega
    have hbc : b.1 ∈ cs k := List.mem_map.mpr ⟨b, hb, rfl⟩
    rw [told_spec h hc hbc ne h50.1, Option.bind_some]
    refine wp_bind (wp_appO (P := fun t => Oth k t ∧ t.length = 4) (by omega) ⟨o40.app (by omega) (fun e => tk_told_ne h hc hbc ne h50.1 h50.2 e.symm), by rw [List.length_append, List.length_singleton]; omega⟩) fun t52 ⟨o52, l52⟩ => wp_some ⟨o52, by omega⟩
  · refine wp_bind (P := fun j : List PEv => Oth k j) (wp_cond (fun q => ?_) fun _ => wp_some o36) fun j54 o54 => wp_some o54
    have q0 : 0 < k.2.length := by
      cases e2 : k.2 with
      | nil => rw [e2] at q; simp at q
      | cons a l => simp
    have lcut : (cut k.2 none (some (-(1 : Int)))).length < k.2.length := by
      have e1 : HT.sIx k.2.length k.2.length (some (-(1 : Int))) = k.2.length - 1 := by
        show (if (-(1 : Int)) < 0 then (-(1 : Int) + (k.2.length : Int)).toNat else min (-(1 : Int)).toNat k.2.length) = _
        rw [if_pos (by decide)]
        omega
      unfold cut
      rw [List.length_take, List.length_drop, e1, HT.sIx_none]
      omega
    have k56 : Kit (k.1, cut k.2 none (some (-(1 : Int)))) := h.with5 ⟨fun x hx => h.nt.1 x (((List.take_sublist _ _).trans (List.drop_sublist _ _)).subset hx), h.nt.2.sublist ((List.take_sublist _ _).trans (List.drop_sublist _ _))⟩
    have i56 : m_Peal___init__ (k.1, cut k.2 none (some (-(1 : Int)))) = some (pl (k.1, cut k.2 none (some (-(1 : Int))))) := init_spec k56
    have k58 : Kit (k.1, ([] : List (Str × Str × Int))) := h.with5 ⟨fun n hn => (by cases hn), List.Pairwise.nil⟩
    have i58 : m_Peal___init__ (k.1, ([] : List (Str × Str × Int))) = some (pl (k.1, [])) := init_spec k58
    rw [i56, Option.bind_some]
    refine wp_bind (wp_appO (P := fun t => Oth k t ∧ t.length ≤ 5) (by omega) ⟨o36.app (by omega) (fun e => ?_), by rw [List.length_append, List.length_singleton]; omega⟩) fun t57 ⟨o57, l57⟩ => ?_
    · have e1 : k.2.length = (cut k.2 none (some (-(1 : Int)))).length := congrArg (fun q : KT0 => q.2.length) e
      omega
    rw [i58, Option.bind_some]
    refine wp_bind (wp_appO (P := fun t => Oth k t) (by omega) (o57.app (by omega) (fun e => ?_))) fun t59 o59 => wp_some o59
    have e1 : k.2.length = ([] : List (Str × Str × Int)).length := congrArg (fun q : KT0 => q.2.length) e
    rw [e1] at q0
    cases q0
def reprK (k : KT0) : Str := fmtS [Str.ofString "Peal(", numS (k.1.length : Int), Str.ofString " bells, ", numS (k.2.length : Int), Str.ofString " notches)"]
theorem repr_spec (h : Kit k) : m_Peal___repr__ (pl k) = some (reprK k) := by
  unfold m_Peal___repr__
  have h1 := h.l2
  have h2 := h.nl
  obtain ⟨a1, a2, _⟩ := strI_num (i := (k.1.length : Int)) (by omega) (by omega)
  obtain ⟨b1, b2, _⟩ := strI_num (i := (k.2.length : Int)) (by omega) (by omega)
  show ((strIO (k.1.length : Int)).bind fun t1 => (strIO (k.2.length : Int)).bind fun t2 => (fmtO [(Str.ofString "Peal("), t1, (Str.ofString " bells, "), t2, (Str.ofString " notches)")]).bind fun t3 => some t3) = _
  rw [a1, Option.bind_some, b1, Option.bind_some, (fmt_ok (n := 9) (fun x hx => by
    simp only [List.mem_cons, List.not_mem_nil, or_false] at hx
    rcases hx with rfl | rfl | rfl | rfl | rfl
    · exact smS_of _ (by decide +kernel)
    · exact a2.mono (by decide)
    · exact smS_of _ (by decide +kernel)
    · exact b2.mono (by decide)
    · exact smS_of _ (by decide +kernel)) (by simp)).1]
  rfl
theorem due_gen {A B : Str} (a2 : SmS 3 A) (b2 : SmS 3 B) : ∃ p q r, addS (Str.ofString "Peal(") A = some p ∧ addS p (Str.ofString " bells, ") = some q ∧ addS q B = some r ∧ addS r (Str.ofString " notches)") = some (fmtS [Str.ofString "Peal(", A, Str.ofString " bells, ", B, Str.ofString " notches)"]) := by
  have q1 := smS_of "Peal(" (n := 5) (by decide +kernel)
  have q2 := smS_of " bells, " (n := 8) (by decide +kernel)
  have q3 := smS_of " notches)" (n := 9) (by decide +kernel)
  have p1 := q1.app a2
  have p2 := p1.app q2
  have p3 := p2.app b2
  refine ⟨_, _, _, add_yes (by rw [← len_tl, ← len_tl]; have := q1.l; have := a2.l; omega), add_yes (by rw [← len_tl, ← len_tl]; have := p1.l; have := q2.l; omega), add_yes (by rw [← len_tl, ← len_tl]; have := p2.l; have := b2.l; omega), ?_⟩
  rw [add_yes (by rw [← len_tl, ← len_tl]; have := p3.l; have := q3.l; omega)]
  refine congrArg some ?_
  show _ = Str.ofString "Peal(" ++ (A ++ (Str.ofString " bells, " ++ (B ++ (Str.ofString " notches)" ++ Str.empty))))
  rw [app_nil, app_assoc, app_assoc, app_assoc]
theorem orR_l {S R T : Type} {s : S} {f : S → Option T} {g : R → Option T} : orR (.inl s) f g = f s := rfl
theorem right_spec (z : Sto) : Wp (m__law_right () z) fun r => r.1 = true := by
  unfold m__law_right
  refine wp_bind (kit_spec z (by decide) (by decide) (by decide) (by decide)) fun t1 ⟨h, _⟩ => ?_
  generalize t1.1 = k at *
  have i6 : m_Peal___init__ (k.1, k.2) = some (pl k) := init_spec h
  rw [i6, Option.bind_some]
  refine wp_bind (anew_spec h _) fun t7 e7 => ?_
  rw [e7, both_spec (decide_eq_true rfl), Option.bind_some, Bool.not_true, cond_false, Option.bind_some, Bool.not_true, Option.bind_some, cond_false, str_spec h, Option.bind_some]
  have h2 := h.l2
  have h3 := h.nl
  have h1 := h.l1
  refine wp_bind (P := fun r : Unit ⊕ (Bool × Sto) => r = .inl ()) (wp_forR (fun _ => True) trivial (fun x hx s _ => ?_) fun s _ => rfl) fun fin e => ?_
  · have hi : isIns x = false := by
      simp only [List.mem_cons, List.not_mem_nil, or_false] at hx
      rcases hx with rfl | rfl | rfl | rfl | rfl | rfl | rfl | rfl | rfl | rfl | rfl | rfl <;> rfl
    rw [both2_spec hi, Option.bind_some, Bool.not_true, cond_false]
    exact wp_some ⟨(), rfl, trivial⟩
  subst e
  rw [orR_l]
  refine wp_bind (others_spec h _) fun t20 ⟨l20, o20⟩ => ?_
  refine wp_bind (P := fun t : List Bool => t.all id = true) (wp_lcO (fun _ y => y = true) (by omega) (fun x hx => ?_) ?_) fun t28 e28 => ?_
  · obtain ⟨k', rfl, ne⟩ := o20 x hx
    rw [both_spec (decide_eq_false ne), Option.bind_some]
    exact wp_some rfl
  · intro ys hl h
    rw [List.all_eq_true]
    intro y hy
    obtain ⟨i, hi⟩ := List.mem_iff_getElem?.mp hy
    have hil := (List.getElem?_eq_some_iff.mp hi).1
    have := h i _ y (List.getElem?_eq_getElem (by omega)) hi
    rw [this]; rfl
  rw [e28, Bool.not_true, cond_false]
  obtain ⟨a1, a2, _⟩ := strI_num (i := (k.1.length : Int)) (by omega) (by omega)
  obtain ⟨b1, b2, _⟩ := strI_num (i := (k.2.length : Int)) (by omega) (by omega)
  obtain ⟨u1, u2, u3, c1, c2, c3, c4⟩ := due_gen a2 b2
  rw [a1, Option.bind_some, c1, Option.bind_some, c2, Option.bind_some, b1, Option.bind_some, c3, Option.bind_some, c4, Option.bind_some]
  refine wp_bind (P := fun r : Unit ⊕ (Bool × Sto) => r = .inl ()) (wp_forR (fun _ => True) trivial (fun x hx s _ => ?_) fun s _ => rfl) fun fin e => ?_
  · have ex : x = pl k := by
      simp only [List.mem_cons, List.not_mem_nil, or_false] at hx
      rcases hx with rfl | rfl <;> rfl
    subst ex
    have il : m_Peal___len__ (pl k) = some (k.1.length : Int) := rfl
    have ix : lenXO (k.1.length : Int) = some (k.1.length : Int) := by
      unfold lenXO
      rw [grd_yes (by omega)]
      rfl
    have nz : ((k.1.length : Int) != 0) = true := bne_iff_ne.mpr (by omega)
    obtain ⟨t2, et⟩ := rep_i (i := (k.1.length : Int)) (by omega) (by omega)
    rw [repr_spec h, Option.bind_some, show decide (reprK k = fmtS [Str.ofString "Peal(", numS (k.1.length : Int), Str.ofString " bells, ", numS (k.2.length : Int), Str.ofString " notches)"]) = true from decide_eq_true rfl, Bool.not_true, cond_false, str_spec h, Option.bind_some, law_text_spec h, Option.bind_some, decide_eq_true rfl, Bool.not_true, cond_false, il, Option.bind_some, ix, Option.bind_some, nz, decide_eq_true rfl, Bool.not_true, Option.bind_some, Option.bind_some, cond_false, Option.bind_some, ix, Option.bind_some, show reprX (id (.int (k.1.length : Int))) = some t2 from et, Option.bind_some, Option.bind_some, decide_eq_true rfl, Bool.not_true, cond_false]
    exact wp_some ⟨(), rfl, trivial⟩
  subst e
  exact wp_some rfl
end
end K04
end
section
set_option maxHeartbeats 2000000
namespace K04
open PySem L2 Kx Mx
theorem law_true (ns : List Int) (h : ns.length ≤ 63) : m_law ns = some true := by
  have W : Wp (m_law ns) fun b => b = true := by
    unfold m_law
    generalize hn : (if (if (6 : Int) < (ns.length : Int) then (6 : Int) else (ns.length : Int)) > (2 : Int) then (if (6 : Int) < (ns.length : Int) then (6 : Int) else (ns.length : Int)) else (2 : Int)) = n
    have b : 0 ≤ n ∧ n ≤ 63 := by
      rw [← hn]
      split <;> split <;> omega
    obtain ⟨k, rfl⟩ : ∃ k : Nat, n = (k : Int) := ⟨n.toNat, by omega⟩
    refine wp_bind (wp_rngN (P := fun t => t = irange 0 (k : Int)) (by omega) rfl) fun t1 e1 => ?_
    subst e1
    refine wp_bind (P := fun t : List Bool => t.all id = true) (wp_lcO (fun _ y => y = true) (by rw [irange_nat_len]; omega) (fun x hx => ?_) ?_) fun t10 h => wp_some h
    · obtain ⟨j, hj, rfl⟩ := irange_mem hx
      exact wp_bind (opened_spec ns j) fun t8 _ => wp_bind (right_spec t8) fun t9 h => wp_some h
    · intro ys hl h
      rw [List.all_eq_true]
      intro y hy
      obtain ⟨i, hi⟩ := List.mem_iff_getElem?.mp hy
      have hil := (List.getElem?_eq_some_iff.mp hi).1
      have := h i _ y (List.getElem?_eq_getElem (by omega)) hi
      rw [this]; rfl
  obtain ⟨r, hr, e⟩ := W
  rw [hr, e]
end K04
end
section
set_option maxHeartbeats 4000000
namespace K04
open PySem L2 Kx
theorem law_end [Tb] {K : PySem.W.Frag} {H : Hp} {a : Addr} {ns : List Int} (hl : ns.length ≤ 63) (hT : ∀ p ∈ Tb.t, H p.1 = some (.tbl #[])) (hS : SqL K H a (ns.map V.int)) : sp_law K [.ref a] H (fun v _ => v = .bl true) fun _ _ _ => False :=
  let ⟨G, ok, hG⟩ := start_ok hT hS
  ⟨G, fun _ => none, ns, true, ok, ⟨.ref a, [], rfl, ⟨a, rfl, hG⟩, rfl⟩, law_true ns hl, fun v G' H' _ _ hv => by (cases hv; rfl)⟩
theorem all_mk {l : PySem.W.OpenLaw} {w : World} {K : PySem.W.Frag} {h : Heap} {mg : Str → Option Value} {fa : Addr} (X : K.In h) (G : h.Ns mainGlobals mg) (hfa : mg "law" = some (.ref fa))
    {c_Peal : Addr}
    {f0 : Addr} {od0 an0 : Option Addr} {sl0 : Array (Option Value)} {oc0 kV0 dc0 pm0 cd0 ct0 : Value}
    {f1 : Addr} {od1 an1 : Option Addr} {sl1 : Array (Option Value)} {oc1 kV1 dc1 pm1 cd1 ct1 : Value}
    {f2 : Addr} {od2 an2 : Option Addr} {sl2 : Array (Option Value)} {oc2 kV2 dc2 pm2 cd2 ct2 : Value}
    {f3 : Addr} {od3 an3 : Option Addr} {sl3 : Array (Option Value)} {oc3 kV3 dc3 pm3 cd3 ct3 : Value}
    {f4 : Addr} {od4 an4 : Option Addr} {sl4 : Array (Option Value)} {oc4 kV4 dc4 pm4 cd4 ct4 : Value}
    {f5 : Addr} {od5 an5 : Option Addr} {sl5 : Array (Option Value)} {oc5 kV5 dc5 pm5 cd5 ct5 : Value}
    {f6 : Addr} {od6 an6 : Option Addr} {sl6 : Array (Option Value)} {oc6 kV6 dc6 pm6 cd6 ct6 : Value}
    {tt7 te7 : Addr} {dt7 : Option Addr} {st7 : Array (Option Value)} {cc7 : Value} {nt7 : Nat}
    {f7 : Addr} {od7 an7 : Option Addr} {sl7 : Array (Option Value)} {oc7 kV7 dc7 pm7 cd7 ct7 : Value}
    {nn7 : Nat} {sn7 : Array (Option Value)}
    {f8 : Addr} {od8 an8 : Option Addr} {sl8 : Array (Option Value)} {oc8 kV8 dc8 pm8 cd8 ct8 : Value}
    {f9 : Addr} {od9 an9 : Option Addr} {sl9 : Array (Option Value)} {oc9 kV9 dc9 pm9 cd9 ct9 : Value}
    {f10 : Addr} {od10 an10 : Option Addr} {sl10 : Array (Option Value)} {oc10 kV10 dc10 pm10 cd10 ct10 : Value}
    {f11 : Addr} {od11 an11 : Option Addr} {sl11 : Array (Option Value)} {oc11 kV11 dc11 pm11 cd11 ct11 : Value}
    {f12 : Addr} {od12 an12 : Option Addr} {sl12 : Array (Option Value)} {oc12 kV12 dc12 pm12 cd12 ct12 : Value}
    {f13 : Addr} {od13 an13 : Option Addr} {sl13 : Array (Option Value)} {oc13 kV13 dc13 pm13 cd13 ct13 : Value}
    {f14 : Addr} {od14 an14 : Option Addr} {sl14 : Array (Option Value)} {oc14 kV14 dc14 pm14 cd14 ct14 : Value}
    {f15 : Addr} {od15 an15 : Option Addr} {sl15 : Array (Option Value)} {oc15 kV15 dc15 pm15 cd15 ct15 : Value}
    {f16 : Addr} {od16 an16 : Option Addr} {sl16 : Array (Option Value)} {oc16 kV16 dc16 pm16 cd16 ct16 : Value}
    {f17 : Addr} {od17 an17 : Option Addr} {sl17 : Array (Option Value)} {oc17 kV17 dc17 pm17 cd17 ct17 : Value}
    {f18 : Addr} {od18 an18 : Option Addr} {sl18 : Array (Option Value)} {oc18 kV18 dc18 pm18 cd18 ct18 : Value}
    {f19 : Addr} {od19 an19 : Option Addr} {sl19 : Array (Option Value)} {oc19 kV19 dc19 pm19 cd19 ct19 : Value}
    {f20 : Addr} {od20 an20 : Option Addr} {sl20 : Array (Option Value)} {oc20 kV20 dc20 pm20 cd20 ct20 : Value}
    {f21 : Addr} {od21 an21 : Option Addr} {sl21 : Array (Option Value)} {oc21 kV21 dc21 pm21 cd21 ct21 : Value}
    {f22 : Addr} {od22 an22 : Option Addr} {sl22 : Array (Option Value)} {oc22 kV22 dc22 pm22 cd22 ct22 : Value}
    {f23 : Addr} {od23 an23 : Option Addr} {sl23 : Array (Option Value)} {oc23 kV23 dc23 pm23 cd23 ct23 : Value}
    {f24 : Addr} {od24 an24 : Option Addr} {sl24 : Array (Option Value)} {oc24 kV24 dc24 pm24 cd24 ct24 : Value}
    {f25 : Addr} {od25 an25 : Option Addr} {sl25 : Array (Option Value)} {oc25 kV25 dc25 pm25 cd25 ct25 : Value}
    {f26 : Addr} {od26 an26 : Option Addr} {sl26 : Array (Option Value)} {oc26 kV26 dc26 pm26 cd26 ct26 : Value}
    {f27 : Addr} {od27 an27 : Option Addr} {sl27 : Array (Option Value)} {oc27 kV27 dc27 pm27 cd27 ct27 : Value}
    {f28 : Addr} {od28 an28 : Option Addr} {sl28 : Array (Option Value)} {oc28 kV28 dc28 pm28 cd28 ct28 : Value}
    {f29 : Addr} {od29 an29 : Option Addr} {sl29 : Array (Option Value)} {oc29 kV29 dc29 pm29 cd29 ct29 : Value}
    {f30 : Addr} {od30 an30 : Option Addr} {sl30 : Array (Option Value)} {oc30 kV30 dc30 pm30 cd30 ct30 : Value}
    {tk0 : Tok}
    {tk1 : Tok}
    {tk2 : Tok}
    {tk3 : Tok}
    {tk4 : Tok}
    {tk5 : Tok}
    (gc_Peal : PySem.W.nsIn K mainGlobals "Peal" = some (some (.ref c_Peal)))
    (p1_Peal : PySem.W.plainGet K c_Peal Str.empty = true) (p2_Peal : PySem.W.hasDictIn K c_Peal = true) (p3_Peal : PySem.W.plainOver K c_Peal = true) (p4_Peal : PySem.W.findIn K (.ref c_Peal) "__setattr__" = some (some (.builtin "object.__setattr__"))) (p5_Peal : PySem.W.makesIn K c_Peal = true) (p6_Peal : PySem.W.keepIn K (.ref c_Peal) = true)
    (p7_Peal : PySem.W.findIn K (.ref c_Peal) "__class__" = some (some (.builtin "object.__class__"))) (p8_Peal : PySem.W.specialIn K (.builtin "object.__class__") "__get__" = some (some (.builtin "getset_descriptor.__get__"))) (p9_Peal : PySem.W.takesIn K (.builtin "object.__class__") = some true) (pa_Peal : PySem.W.mroIn K c_Peal (.type "object") = some true)
    (pn_Peal : PySem.W.findIn K (.ref c_Peal) "__ne__" = some (some (.builtin "object.__ne__")))
    (nb_Peal : PySem.W.findIn K (.ref c_Peal) "__bool__" = some none)
    (no1_Peal : PySem.W.mroIn K c_Peal (.type "tuple") = some false)
    (no2_Peal : PySem.W.mroIn K c_Peal (.type "int") = some false)
    (no3_Peal : PySem.W.mroIn K c_Peal (.type "bool") = some false)
    (no4_Peal : PySem.W.mroIn K c_Peal (.type "str") = some false)
    (no5_Peal : PySem.W.mroIn K c_Peal (.type "list") = some false)
    (no6_Peal : PySem.W.mroIn K c_Peal (.type "dict") = some false)
    (no7_Peal : PySem.W.mroIn K c_Peal (.type "NoneType") = some false)
    (n_Peal_bells : PySem.W.findIn K (.ref c_Peal) "bells" = some none)
    (n_Peal_notches : PySem.W.findIn K (.ref c_Peal) "notches" = some none)
    (n_Peal_sizes : PySem.W.findIn K (.ref c_Peal) "sizes" = some none)
    (n_Peal_turning : PySem.W.findIn K (.ref c_Peal) "turning" = some none)
    (iC_Peal : PySem.W.isClsIn K c_Peal = true)
    (tY_Peal : PySem.W.typeIn K (.ref c_Peal) = some (.type "type"))
    (a0 : PySem.W.nsIn K mainGlobals "is_whole" = some (some (.ref f0))) (l0 : K.lookup f0 = some ⟨oc0, od0, .func (PySem.W.fnOf "is_whole" "is_whole" (defArgs s_is_whole) (defBody s_is_whole) (defScope s_is_whole) .none kV0 dc0 pm0 an0 cd0 ct0), sl0⟩) (c0 : PySem.W.codeIn K cd0 "is_whole" = true) (k0 : PySem.W.keepIn K (.ref f0) = true)
    (a1 : PySem.W.nsIn K mainGlobals "is_within" = some (some (.ref f1))) (l1 : K.lookup f1 = some ⟨oc1, od1, .func (PySem.W.fnOf "is_within" "is_within" (defArgs s_is_within) (defBody s_is_within) (defScope s_is_within) .none kV1 dc1 pm1 an1 cd1 ct1), sl1⟩) (c1 : PySem.W.codeIn K cd1 "is_within" = true) (k1 : PySem.W.keepIn K (.ref f1) = true)
    (a2 : PySem.W.nsIn K mainGlobals "is_name" = some (some (.ref f2))) (l2 : K.lookup f2 = some ⟨oc2, od2, .func (PySem.W.fnOf "is_name" "is_name" (defArgs s_is_name) (defBody s_is_name) (defScope s_is_name) .none kV2 dc2 pm2 an2 cd2 ct2), sl2⟩) (c2 : PySem.W.codeIn K cd2 "is_name" = true) (k2 : PySem.W.keepIn K (.ref f2) = true)
    (a3 : PySem.W.nsIn K mainGlobals "is_bell" = some (some (.ref f3))) (l3 : K.lookup f3 = some ⟨oc3, od3, .func (PySem.W.fnOf "is_bell" "is_bell" (defArgs s_is_bell) (defBody s_is_bell) (defScope s_is_bell) .none kV3 dc3 pm3 an3 cd3 ct3), sl3⟩) (c3 : PySem.W.codeIn K cd3 "is_bell" = true) (k3 : PySem.W.keepIn K (.ref f3) = true)
    (a4 : PySem.W.nsIn K mainGlobals "check_bells" = some (some (.ref f4))) (l4 : K.lookup f4 = some ⟨oc4, od4, .func (PySem.W.fnOf "check_bells" "check_bells" (defArgs s_check_bells) (defBody s_check_bells) (defScope s_check_bells) .none kV4 dc4 pm4 an4 cd4 ct4), sl4⟩) (c4 : PySem.W.codeIn K cd4 "check_bells" = true) (k4 : PySem.W.keepIn K (.ref f4) = true)
    (a5 : PySem.W.nsIn K mainGlobals "is_notch" = some (some (.ref f5))) (l5 : K.lookup f5 = some ⟨oc5, od5, .func (PySem.W.fnOf "is_notch" "is_notch" (defArgs s_is_notch) (defBody s_is_notch) (defScope s_is_notch) .none kV5 dc5 pm5 an5 cd5 ct5), sl5⟩) (c5 : PySem.W.codeIn K cd5 "is_notch" = true) (k5 : PySem.W.keepIn K (.ref f5) = true)
    (a6 : PySem.W.nsIn K mainGlobals "check_notches" = some (some (.ref f6))) (l6 : K.lookup f6 = some ⟨oc6, od6, .func (PySem.W.fnOf "check_notches" "check_notches" (defArgs s_check_notches) (defBody s_check_notches) (defScope s_check_notches) .none kV6 dc6 pm6 an6 cd6 ct6), sl6⟩) (c6 : PySem.W.codeIn K cd6 "check_notches" = true) (k6 : PySem.W.keepIn K (.ref f6) = true)
    (a7 : PySem.W.findIn K (.ref c_Peal) "__init__" = some (some (.ref f7))) (i7 : PySem.W.isFn K (.ref f7) = true) (l7 : K.lookup f7 = some ⟨oc7, od7, .func (PySem.W.fnOf "__init__" "Peal.__init__" (defArgs s_Peal___init__) (defBody s_Peal___init__) (defScope s_Peal___init__) (.ref tt7) kV7 dc7 pm7 an7 cd7 ct7), sl7⟩) (c7 : PySem.W.codeIn K cd7 "Peal.__init__" = true) (k7 : PySem.W.keepIn K (.ref f7) = true)
    (t7 : K.lookup tt7 = some ⟨cc7, dt7, .seq #[.ref te7] nt7, st7⟩)
    (tn7 : K.lookup te7 = some ⟨.type "tuple", none, .seq #[] nn7, sn7⟩)
    (a8 : PySem.W.nsIn K mainGlobals "check_name" = some (some (.ref f8))) (l8 : K.lookup f8 = some ⟨oc8, od8, .func (PySem.W.fnOf "check_name" "check_name" (defArgs s_check_name) (defBody s_check_name) (defScope s_check_name) .none kV8 dc8 pm8 an8 cd8 ct8), sl8⟩) (c8 : PySem.W.codeIn K cd8 "check_name" = true) (k8 : PySem.W.keepIn K (.ref f8) = true)
    (a9 : PySem.W.nsIn K mainGlobals "check_two" = some (some (.ref f9))) (l9 : K.lookup f9 = some ⟨oc9, od9, .func (PySem.W.fnOf "check_two" "check_two" (defArgs s_check_two) (defBody s_check_two) (defScope s_check_two) .none kV9 dc9 pm9 an9 cd9 ct9), sl9⟩) (c9 : PySem.W.codeIn K cd9 "check_two" = true) (k9 : PySem.W.keepIn K (.ref f9) = true)
    (a10 : PySem.W.findIn K (.ref c_Peal) "told" = some (some (.ref f10))) (i10 : PySem.W.isFn K (.ref f10) = true) (l10 : K.lookup f10 = some ⟨oc10, od10, .func (PySem.W.fnOf "told" "Peal.told" (defArgs s_Peal_told) (defBody s_Peal_told) (defScope s_Peal_told) .none kV10 dc10 pm10 an10 cd10 ct10), sl10⟩) (c10 : PySem.W.codeIn K cd10 "Peal.told" = true) (k10 : PySem.W.keepIn K (.ref f10) = true)
    (a11 : PySem.W.findIn K (.ref c_Peal) "hung" = some (some (.ref f11))) (i11 : PySem.W.isFn K (.ref f11) = true) (l11 : K.lookup f11 = some ⟨oc11, od11, .func (PySem.W.fnOf "hung" "Peal.hung" (defArgs s_Peal_hung) (defBody s_Peal_hung) (defScope s_Peal_hung) .none kV11 dc11 pm11 an11 cd11 ct11), sl11⟩) (c11 : PySem.W.codeIn K cd11 "Peal.hung" = true) (k11 : PySem.W.keepIn K (.ref f11) = true)
    (a12 : PySem.W.findIn K (.ref c_Peal) "without" = some (some (.ref f12))) (i12 : PySem.W.isFn K (.ref f12) = true) (l12 : K.lookup f12 = some ⟨oc12, od12, .func (PySem.W.fnOf "without" "Peal.without" (defArgs s_Peal_without) (defBody s_Peal_without) (defScope s_Peal_without) .none kV12 dc12 pm12 an12 cd12 ct12), sl12⟩) (c12 : PySem.W.codeIn K cd12 "Peal.without" = true) (k12 : PySem.W.keepIn K (.ref f12) = true)
    (a13 : PySem.W.findIn K (.ref c_Peal) "__eq__" = some (some (.ref f13))) (i13 : PySem.W.isFn K (.ref f13) = true) (l13 : K.lookup f13 = some ⟨oc13, od13, .func (PySem.W.fnOf "__eq__" "Peal.__eq__" (defArgs s_Peal___eq__) (defBody s_Peal___eq__) (defScope s_Peal___eq__) .none kV13 dc13 pm13 an13 cd13 ct13), sl13⟩) (c13 : PySem.W.codeIn K cd13 "Peal.__eq__" = true) (k13 : PySem.W.keepIn K (.ref f13) = true)
    (a14 : PySem.W.findIn K (.ref c_Peal) "__len__" = some (some (.ref f14))) (i14 : PySem.W.isFn K (.ref f14) = true) (l14 : K.lookup f14 = some ⟨oc14, od14, .func (PySem.W.fnOf "__len__" "Peal.__len__" (defArgs s_Peal___len__) (defBody s_Peal___len__) (defScope s_Peal___len__) .none kV14 dc14 pm14 an14 cd14 ct14), sl14⟩) (c14 : PySem.W.codeIn K cd14 "Peal.__len__" = true) (k14 : PySem.W.keepIn K (.ref f14) = true)
    (a15 : PySem.W.findIn K (.ref c_Peal) "__str__" = some (some (.ref f15))) (i15 : PySem.W.isFn K (.ref f15) = true) (l15 : K.lookup f15 = some ⟨oc15, od15, .func (PySem.W.fnOf "__str__" "Peal.__str__" (defArgs s_Peal___str__) (defBody s_Peal___str__) (defScope s_Peal___str__) .none kV15 dc15 pm15 an15 cd15 ct15), sl15⟩) (c15 : PySem.W.codeIn K cd15 "Peal.__str__" = true) (k15 : PySem.W.keepIn K (.ref f15) = true)
    (a16 : PySem.W.findIn K (.ref c_Peal) "__repr__" = some (some (.ref f16))) (i16 : PySem.W.isFn K (.ref f16) = true) (l16 : K.lookup f16 = some ⟨oc16, od16, .func (PySem.W.fnOf "__repr__" "Peal.__repr__" (defArgs s_Peal___repr__) (defBody s_Peal___repr__) (defScope s_Peal___repr__) .none kV16 dc16 pm16 an16 cd16 ct16), sl16⟩) (c16 : PySem.W.codeIn K cd16 "Peal.__repr__" = true) (k16 : PySem.W.keepIn K (.ref f16) = true)
    (a17 : PySem.W.nsIn K mainGlobals "_law_opened" = some (some (.ref f17))) (l17 : K.lookup f17 = some ⟨oc17, od17, .func (PySem.W.fnOf "_law_opened" "_law_opened" (defArgs s__law_opened) (defBody s__law_opened) (defScope s__law_opened) .none kV17 dc17 pm17 an17 cd17 ct17), sl17⟩) (c17 : PySem.W.codeIn K cd17 "_law_opened" = true) (k17 : PySem.W.keepIn K (.ref f17) = true)
    (a18 : PySem.W.nsIn K mainGlobals "_law_pull" = some (some (.ref f18))) (l18 : K.lookup f18 = some ⟨oc18, od18, .func (PySem.W.fnOf "_law_pull" "_law_pull" (defArgs s__law_pull) (defBody s__law_pull) (defScope s__law_pull) .none kV18 dc18 pm18 an18 cd18 ct18), sl18⟩) (c18 : PySem.W.codeIn K cd18 "_law_pull" = true) (k18 : PySem.W.keepIn K (.ref f18) = true)
    (a19 : PySem.W.nsIn K mainGlobals "_law_spelt" = some (some (.ref f19))) (l19 : K.lookup f19 = some ⟨oc19, od19, .func (PySem.W.fnOf "_law_spelt" "_law_spelt" (defArgs s__law_spelt) (defBody s__law_spelt) (defScope s__law_spelt) .none kV19 dc19 pm19 an19 cd19 ct19), sl19⟩) (c19 : PySem.W.codeIn K cd19 "_law_spelt" = true) (k19 : PySem.W.keepIn K (.ref f19) = true)
    (a20 : PySem.W.nsIn K mainGlobals "_law_calls" = some (some (.ref f20))) (l20 : K.lookup f20 = some ⟨oc20, od20, .func (PySem.W.fnOf "_law_calls" "_law_calls" (defArgs s__law_calls) (defBody s__law_calls) (defScope s__law_calls) .none kV20 dc20 pm20 an20 cd20 ct20), sl20⟩) (c20 : PySem.W.codeIn K cd20 "_law_calls" = true) (k20 : PySem.W.keepIn K (.ref f20) = true)
    (a21 : PySem.W.nsIn K mainGlobals "_law_figure" = some (some (.ref f21))) (l21 : K.lookup f21 = some ⟨oc21, od21, .func (PySem.W.fnOf "_law_figure" "_law_figure" (defArgs s__law_figure) (defBody s__law_figure) (defScope s__law_figure) .none kV21 dc21 pm21 an21 cd21 ct21), sl21⟩) (c21 : PySem.W.codeIn K cd21 "_law_figure" = true) (k21 : PySem.W.keepIn K (.ref f21) = true)
    (a22 : PySem.W.nsIn K mainGlobals "_law_kit" = some (some (.ref f22))) (l22 : K.lookup f22 = some ⟨oc22, od22, .func (PySem.W.fnOf "_law_kit" "_law_kit" (defArgs s__law_kit) (defBody s__law_kit) (defScope s__law_kit) .none kV22 dc22 pm22 an22 cd22 ct22), sl22⟩) (c22 : PySem.W.codeIn K cd22 "_law_kit" = true) (k22 : PySem.W.keepIn K (.ref f22) = true)
    (a23 : PySem.W.nsIn K mainGlobals "_law_far" = some (some (.ref f23))) (l23 : K.lookup f23 = some ⟨oc23, od23, .func (PySem.W.fnOf "_law_far" "_law_far" (defArgs s__law_far) (defBody s__law_far) (defScope s__law_far) .none kV23 dc23 pm23 an23 cd23 ct23), sl23⟩) (c23 : PySem.W.codeIn K cd23 "_law_far" = true) (k23 : PySem.W.keepIn K (.ref f23) = true)
    (a24 : PySem.W.nsIn K mainGlobals "_law_text" = some (some (.ref f24))) (l24 : K.lookup f24 = some ⟨oc24, od24, .func (PySem.W.fnOf "_law_text" "_law_text" (defArgs s__law_text) (defBody s__law_text) (defScope s__law_text) .none kV24 dc24 pm24 an24 cd24 ct24), sl24⟩) (c24 : PySem.W.codeIn K cd24 "_law_text" = true) (k24 : PySem.W.keepIn K (.ref f24) = true)
    (a25 : PySem.W.nsIn K mainGlobals "_law_is" = some (some (.ref f25))) (l25 : K.lookup f25 = some ⟨oc25, od25, .func (PySem.W.fnOf "_law_is" "_law_is" (defArgs s__law_is) (defBody s__law_is) (defScope s__law_is) .none kV25 dc25 pm25 an25 cd25 ct25), sl25⟩) (c25 : PySem.W.codeIn K cd25 "_law_is" = true) (k25 : PySem.W.keepIn K (.ref f25) = true)
    (a26 : PySem.W.nsIn K mainGlobals "_law_both" = some (some (.ref f26))) (l26 : K.lookup f26 = some ⟨oc26, od26, .func (PySem.W.fnOf "_law_both" "_law_both" (defArgs s__law_both) (defBody s__law_both) (defScope s__law_both) .none kV26 dc26 pm26 an26 cd26 ct26), sl26⟩) (c26 : PySem.W.codeIn K cd26 "_law_both" = true) (k26 : PySem.W.keepIn K (.ref f26) = true)
    (a27 : PySem.W.nsIn K mainGlobals "_law_anew" = some (some (.ref f27))) (l27 : K.lookup f27 = some ⟨oc27, od27, .func (PySem.W.fnOf "_law_anew" "_law_anew" (defArgs s__law_anew) (defBody s__law_anew) (defScope s__law_anew) .none kV27 dc27 pm27 an27 cd27 ct27), sl27⟩) (c27 : PySem.W.codeIn K cd27 "_law_anew" = true) (k27 : PySem.W.keepIn K (.ref f27) = true)
    (a28 : PySem.W.nsIn K mainGlobals "_law_others" = some (some (.ref f28))) (l28 : K.lookup f28 = some ⟨oc28, od28, .func (PySem.W.fnOf "_law_others" "_law_others" (defArgs s__law_others) (defBody s__law_others) (defScope s__law_others) .none kV28 dc28 pm28 an28 cd28 ct28), sl28⟩) (c28 : PySem.W.codeIn K cd28 "_law_others" = true) (k28 : PySem.W.keepIn K (.ref f28) = true)
    (a29 : PySem.W.nsIn K mainGlobals "_law_right" = some (some (.ref f29))) (l29 : K.lookup f29 = some ⟨oc29, od29, .func (PySem.W.fnOf "_law_right" "_law_right" (defArgs s__law_right) (defBody s__law_right) (defScope s__law_right) .none kV29 dc29 pm29 an29 cd29 ct29), sl29⟩) (c29 : PySem.W.codeIn K cd29 "_law_right" = true) (k29 : PySem.W.keepIn K (.ref f29) = true)
    (a30 : PySem.W.nsIn K mainGlobals "law" = some (some (.ref f30))) (l30 : K.lookup f30 = some ⟨oc30, od30, .func (PySem.W.fnOf "law" "law" (defArgs s_law) (defBody s_law) (defScope s_law) .none kV30 dc30 pm30 an30 cd30 ct30), sl30⟩) (c30 : PySem.W.codeIn K cd30 "law" = true) (k30 : PySem.W.keepIn K (.ref f30) = true)
    (z0 : PySem.W.nsIn K mainGlobals "int" = some none)
    (z1 : PySem.W.nsIn K mainGlobals "isinstance" = some none)
    (z2 : PySem.W.nsIn K mainGlobals "bool" = some none)
    (z3 : PySem.W.nsIn K mainGlobals "str" = some none)
    (z4 : PySem.W.nsIn K mainGlobals "len" = some none)
    (z5 : PySem.W.nsIn K mainGlobals "all" = some none)
    (z6 : PySem.W.nsIn K mainGlobals "tuple" = some none)
    (z7 : PySem.W.nsIn K mainGlobals "enumerate" = some none)
    (z8 : PySem.W.nsIn K mainGlobals "dict" = some none)
    (z9 : PySem.W.nsIn K mainGlobals "sorted" = some none)
    (z10 : PySem.W.nsIn K mainGlobals "abs" = some none)
    (z11 : PySem.W.nsIn K mainGlobals "divmod" = some none)
    (z12 : PySem.W.nsIn K mainGlobals "range" = some none)
    (z13 : PySem.W.nsIn K mainGlobals "list" = some none)
    (z14 : PySem.W.nsIn K mainGlobals "repr" = some none)
    (z15 : PySem.W.nsIn K mainGlobals "min" = some none)
    (z16 : PySem.W.nsIn K mainGlobals "max" = some none)
    (q0 : PySem.W.nsIn K mainGlobals "MOST_LETTERS" = some (some (.int 6 tk0)))
    (q1 : PySem.W.nsIn K mainGlobals "LETTERS" = some (some (.str "abcdefghijklmnopqrstuvwxyz" tk1)))
    (q2 : PySem.W.nsIn K mainGlobals "LEAST_MARKS" = some (some (.int 2 tk2)))
    (q3 : PySem.W.nsIn K mainGlobals "MOST_MARKS" = some (some (.int 24 tk3)))
    (q4 : PySem.W.nsIn K mainGlobals "MOST_BELLS" = some (some (.int 8 tk4)))
    (q5 : PySem.W.nsIn K mainGlobals "MOST_NUMBER" = some (some (.int 99 tk5)))
    : LawTab l w K 10 63 "_law_script" mg fa h := by
  have ec_Peal := clsAt_of gc_Peal
  subst ec_Peal
  have e := hfa.symm.trans (PySem.W.mg_of X G a30)
  cases e
  have F0 := fun_mk (st := s_is_whole) l0 c0 k0
  have F1 := fun_mk (st := s_is_within) l1 c1 k1
  have F2 := fun_mk (st := s_is_name) l2 c2 k2
  have F3 := fun_mk (st := s_is_bell) l3 c3 k3
  have F4 := fun_mk (st := s_check_bells) l4 c4 k4
  have F5 := fun_mk (st := s_is_notch) l5 c5 k5
  have F6 := fun_mk (st := s_check_notches) l6 c6 k6
  have F7 := funT_mk (st := s_Peal___init__) l7 t7 c7 k7
  have F8 := fun_mk (st := s_check_name) l8 c8 k8
  have F9 := fun_mk (st := s_check_two) l9 c9 k9
  have F10 := fun_mk (st := s_Peal_told) l10 c10 k10
  have F11 := fun_mk (st := s_Peal_hung) l11 c11 k11
  have F12 := fun_mk (st := s_Peal_without) l12 c12 k12
  have F13 := fun_mk (st := s_Peal___eq__) l13 c13 k13
  have F14 := fun_mk (st := s_Peal___len__) l14 c14 k14
  have F15 := fun_mk (st := s_Peal___str__) l15 c15 k15
  have F16 := fun_mk (st := s_Peal___repr__) l16 c16 k16
  have F17 := fun_mk (st := s__law_opened) l17 c17 k17
  have F18 := fun_mk (st := s__law_pull) l18 c18 k18
  have F19 := fun_mk (st := s__law_spelt) l19 c19 k19
  have F20 := fun_mk (st := s__law_calls) l20 c20 k20
  have F21 := fun_mk (st := s__law_figure) l21 c21 k21
  have F22 := fun_mk (st := s__law_kit) l22 c22 k22
  have F23 := fun_mk (st := s__law_far) l23 c23 k23
  have F24 := fun_mk (st := s__law_text) l24 c24 k24
  have F25 := fun_mk (st := s__law_is) l25 c25 k25
  have F26 := fun_mk (st := s__law_both) l26 c26 k26
  have F27 := fun_mk (st := s__law_anew) l27 c27 k27
  have F28 := fun_mk (st := s__law_others) l28 c28 k28
  have F29 := fun_mk (st := s__law_right) l29 c29 k29
  have F30 := fun_mk (st := s_law) l30 c30 k30
  let T : Txt K mg := {
    a_is_whole := f0,
    d_is_whole := _,
    F_is_whole := F0,
    b_is_whole := F0.binds (ps := ["thing"]) fun _ _ _ _ _ _ us hl => match us, hl with | [_], _ => rfl,
    g_is_whole := PySem.W.mg_of X G a0,
    a_is_within := f1,
    d_is_within := _,
    F_is_within := F1,
    b_is_within := F1.binds (ps := ["thing", "low", "high"]) fun _ _ _ _ _ _ us hl => match us, hl with | [_, _, _], _ => rfl,
    g_is_within := PySem.W.mg_of X G a1,
    a_is_name := f2,
    d_is_name := _,
    F_is_name := F2,
    b_is_name := F2.binds (ps := ["thing"]) fun _ _ _ _ _ _ us hl => match us, hl with | [_], _ => rfl,
    g_is_name := PySem.W.mg_of X G a2,
    a_is_bell := f3,
    d_is_bell := _,
    F_is_bell := F3,
    b_is_bell := F3.binds (ps := ["thing"]) fun _ _ _ _ _ _ us hl => match us, hl with | [_], _ => rfl,
    g_is_bell := PySem.W.mg_of X G a3,
    a_check_bells := f4,
    d_check_bells := _,
    F_check_bells := F4,
    b_check_bells := F4.binds (ps := ["bells"]) fun _ _ _ _ _ _ us hl => match us, hl with | [_], _ => rfl,
    g_check_bells := PySem.W.mg_of X G a4,
    a_is_notch := f5,
    d_is_notch := _,
    F_is_notch := F5,
    b_is_notch := F5.binds (ps := ["thing", "names"]) fun _ _ _ _ _ _ us hl => match us, hl with | [_, _], _ => rfl,
    g_is_notch := PySem.W.mg_of X G a5,
    a_check_notches := f6,
    d_check_notches := _,
    F_check_notches := F6,
    b_check_notches := F6.binds (ps := ["notches", "names"]) fun _ _ _ _ _ _ us hl => match us, hl with | [_, _], _ => rfl,
    g_check_notches := PySem.W.mg_of X G a6,
    bd_Peal___init__ := F7.bindsE (ps := ["self", "bells", "notches"]) 2 rfl (fun _ _ _ _ _ _ _ us its hl hi => match us, its, hl, hi with | [_, _], [_], _, _ => ⟨_, rfl, rfl⟩),
    nt_Peal___init__ := ⟨_, _, tn7, rfl, rfl, rfl⟩,
    a_Peal___init__ := f7,
    d_Peal___init__ := _,
    e_Peal___init__ := _,
    F_Peal___init__ := F7,
    b_Peal___init__ := F7.binds3 (ps := ["self", "bells", "notches"]) (fun _ _ _ _ _ _ _ us its hl hi => match us, its, hl, hi with | [_, _, _], [_], _, _ => ⟨_, rfl, rfl⟩),
    mk_Peal := ⟨p5_Peal, a7, i7, p6_Peal⟩,
    a_check_name := f8,
    d_check_name := _,
    F_check_name := F8,
    b_check_name := F8.binds (ps := ["peal", "name"]) fun _ _ _ _ _ _ us hl => match us, hl with | [_, _], _ => rfl,
    g_check_name := PySem.W.mg_of X G a8,
    a_check_two := f9,
    d_check_two := _,
    F_check_two := F9,
    b_check_two := F9.binds (ps := ["peal", "name", "other"]) fun _ _ _ _ _ _ us hl => match us, hl with | [_, _, _], _ => rfl,
    g_check_two := PySem.W.mg_of X G a9,
    a_Peal_told := f10,
    d_Peal_told := _,
    F_Peal_told := F10,
    b_Peal_told := F10.binds (ps := ["self", "name", "other", "number"]) fun _ _ _ _ _ _ us hl => match us, hl with | [_, _, _, _], _ => rfl,
    me_Peal_told := ⟨a10, i10, k10⟩,
    a_Peal_hung := f11,
    d_Peal_hung := _,
    F_Peal_hung := F11,
    b_Peal_hung := F11.binds (ps := ["self", "name", "marks"]) fun _ _ _ _ _ _ us hl => match us, hl with | [_, _, _], _ => rfl,
    me_Peal_hung := ⟨a11, i11, k11⟩,
    a_Peal_without := f12,
    d_Peal_without := _,
    F_Peal_without := F12,
    b_Peal_without := F12.binds (ps := ["self", "name"]) fun _ _ _ _ _ _ us hl => match us, hl with | [_, _], _ => rfl,
    me_Peal_without := ⟨a12, i12, k12⟩,
    a_Peal___eq__ := f13,
    d_Peal___eq__ := _,
    F_Peal___eq__ := F13,
    b_Peal___eq__ := F13.binds (ps := ["self", "other"]) fun _ _ _ _ _ _ us hl => match us, hl with | [_, _], _ => rfl,
    me_Peal___eq__ := ⟨a13, i13, k13⟩,
    a_Peal___len__ := f14,
    d_Peal___len__ := _,
    F_Peal___len__ := F14,
    b_Peal___len__ := F14.binds (ps := ["self"]) fun _ _ _ _ _ _ us hl => match us, hl with | [_], _ => rfl,
    me_Peal___len__ := ⟨a14, i14, k14⟩,
    a_Peal___str__ := f15,
    d_Peal___str__ := _,
    F_Peal___str__ := F15,
    b_Peal___str__ := F15.binds (ps := ["self"]) fun _ _ _ _ _ _ us hl => match us, hl with | [_], _ => rfl,
    me_Peal___str__ := ⟨a15, i15, k15⟩,
    a_Peal___repr__ := f16,
    d_Peal___repr__ := _,
    F_Peal___repr__ := F16,
    b_Peal___repr__ := F16.binds (ps := ["self"]) fun _ _ _ _ _ _ us hl => match us, hl with | [_], _ => rfl,
    me_Peal___repr__ := ⟨a16, i16, k16⟩,
    a__law_opened := f17,
    d__law_opened := _,
    F__law_opened := F17,
    b__law_opened := F17.binds (ps := ["_law_script", "_law_k"]) fun _ _ _ _ _ _ us hl => match us, hl with | [_, _], _ => rfl,
    g__law_opened := PySem.W.mg_of X G a17,
    a__law_pull := f18,
    d__law_pull := _,
    F__law_pull := F18,
    b__law_pull := F18.binds (ps := ["_law_store", "_law_many"]) fun _ _ _ _ _ _ us hl => match us, hl with | [_, _], _ => rfl,
    g__law_pull := PySem.W.mg_of X G a18,
    a__law_spelt := f19,
    d__law_spelt := _,
    F__law_spelt := F19,
    b__law_spelt := F19.binds (ps := ["_law_figure_here", "_law_wide"]) fun _ _ _ _ _ _ us hl => match us, hl with | [_, _], _ => rfl,
    g__law_spelt := PySem.W.mg_of X G a19,
    a__law_calls := f20,
    d__law_calls := _,
    F__law_calls := F20,
    b__law_calls := F20.binds (ps := ["_law_store", "_law_many"]) fun _ _ _ _ _ _ us hl => match us, hl with | [_, _], _ => rfl,
    g__law_calls := PySem.W.mg_of X G a20,
    a__law_figure := f21,
    d__law_figure := _,
    F__law_figure := F21,
    b__law_figure := F21.binds (ps := ["_law_store", "_law_mode", "_law_size"]) fun _ _ _ _ _ _ us hl => match us, hl with | [_, _, _], _ => rfl,
    g__law_figure := PySem.W.mg_of X G a21,
    a__law_kit := f22,
    d__law_kit := _,
    F__law_kit := F22,
    b__law_kit := F22.binds (ps := ["_law_store", "_law_upto", "_law_most"]) fun _ _ _ _ _ _ us hl => match us, hl with | [_, _, _], _ => rfl,
    g__law_kit := PySem.W.mg_of X G a22,
    a__law_far := f23,
    d__law_far := _,
    F__law_far := F23,
    b__law_far := F23.binds (ps := ["_law_calls_here"]) fun _ _ _ _ _ _ us hl => match us, hl with | [_], _ => rfl,
    g__law_far := PySem.W.mg_of X G a23,
    a__law_text := f24,
    d__law_text := _,
    F__law_text := F24,
    b__law_text := F24.binds (ps := ["_law_ringers", "_law_teeth"]) fun _ _ _ _ _ _ us hl => match us, hl with | [_, _], _ => rfl,
    g__law_text := PySem.W.mg_of X G a24,
    a__law_is := f25,
    d__law_is := _,
    F__law_is := F25,
    b__law_is := F25.binds (ps := ["_law_found", "_law_due"]) fun _ _ _ _ _ _ us hl => match us, hl with | [_, _], _ => rfl,
    g__law_is := PySem.W.mg_of X G a25,
    a__law_both := f26,
    d__law_both := _,
    F__law_both := F26,
    b__law_both := F26.binds (ps := ["_law_one_here", "_law_mate", "_law_due"]) fun _ _ _ _ _ _ us hl => match us, hl with | [_, _, _], _ => rfl,
    g__law_both := PySem.W.mg_of X G a26,
    a__law_anew := f27,
    d__law_anew := _,
    F__law_anew := F27,
    b__law_anew := F27.binds (ps := ["_law_store", "_law_ringers", "_law_teeth"]) fun _ _ _ _ _ _ us hl => match us, hl with | [_, _, _], _ => rfl,
    g__law_anew := PySem.W.mg_of X G a27,
    a__law_others := f28,
    d__law_others := _,
    F__law_others := F28,
    b__law_others := F28.binds (ps := ["_law_store", "_law_ringers", "_law_teeth"]) fun _ _ _ _ _ _ us hl => match us, hl with | [_, _, _], _ => rfl,
    g__law_others := PySem.W.mg_of X G a28,
    a__law_right := f29,
    d__law_right := _,
    F__law_right := F29,
    b__law_right := F29.binds (ps := ["_law_store"]) fun _ _ _ _ _ _ us hl => match us, hl with | [_], _ => rfl,
    g__law_right := PySem.W.mg_of X G a29,
    a_law := fa,
    d_law := _,
    F_law := F30,
    b_law := F30.binds (ps := ["_law_script"]) fun _ _ _ _ _ _ us hl => match us, hl with | [_], _ => rfl,
    g_law := PySem.W.mg_of X G a30,
    ci_Peal := ⟨iC_Peal, tY_Peal⟩,
    cl_Peal := ⟨p1_Peal, p2_Peal, p3_Peal, p4_Peal⟩,
    co_Peal := ⟨⟨p1_Peal, p2_Peal, p3_Peal, p4_Peal⟩, p7_Peal, p8_Peal, p9_Peal, pa_Peal⟩,
    ki_Peal := kit_self,
    cn_Peal := ⟨no1_Peal, no2_Peal, no3_Peal, no4_Peal, no5_Peal⟩,
    mg_Peal := PySem.W.mg_of X G gc_Peal,
    ne_Peal := pn_Peal,
    cx_Peal := ⟨⟨no1_Peal, no2_Peal, no3_Peal, no4_Peal, no5_Peal⟩, no6_Peal, no7_Peal⟩,
    nb_Peal := nb_Peal,
    na_Peal_bells := n_Peal_bells,
    na_Peal_notches := n_Peal_notches,
    na_Peal_sizes := n_Peal_sizes,
    na_Peal_turning := n_Peal_turning,
    n_int := PySem.W.mg_none_of X G z0,
    n_isinstance := PySem.W.mg_none_of X G z1,
    n_bool := PySem.W.mg_none_of X G z2,
    n_str := PySem.W.mg_none_of X G z3,
    n_len := PySem.W.mg_none_of X G z4,
    n_all := PySem.W.mg_none_of X G z5,
    n_tuple := PySem.W.mg_none_of X G z6,
    n_enumerate := PySem.W.mg_none_of X G z7,
    n_dict := PySem.W.mg_none_of X G z8,
    n_sorted := PySem.W.mg_none_of X G z9,
    n_abs := PySem.W.mg_none_of X G z10,
    n_divmod := PySem.W.mg_none_of X G z11,
    n_range := PySem.W.mg_none_of X G z12,
    n_list := PySem.W.mg_none_of X G z13,
    n_repr := PySem.W.mg_none_of X G z14,
    n_min := PySem.W.mg_none_of X G z15,
    n_max := PySem.W.mg_none_of X G z16,
    t_MOST_LETTERS := _,
    c_MOST_LETTERS := PySem.W.mg_of X G q0,
    t_LETTERS := _,
    c_LETTERS := PySem.W.mg_of X G q1,
    t_LEAST_MARKS := _,
    c_LEAST_MARKS := PySem.W.mg_of X G q2,
    t_MOST_MARKS := _,
    c_MOST_MARKS := PySem.W.mg_of X G q3,
    t_MOST_BELLS := _,
    c_MOST_BELLS := PySem.W.mg_of X G q4,
    t_MOST_NUMBER := _,
    c_MOST_NUMBER := PySem.W.mg_of X G q5 }
  letI tb : Tb := ⟨[]⟩
  refine ⟨T.d_law, [], sp_law K, (fun _ h => nomatch h), (fun _ h => nomatch h), (fun _ h => nomatch h), fun s v => .of_eq rfl, fun H a ns hl hT hS => law_end hl (fun _ h => nomatch h) hS, fun base kb nb TB => ?_⟩
  have O_is_whole := ok_is_whole (P := l.prog) (w := w) (base := base) T 
  have O_is_within := ok_is_within (P := l.prog) (w := w) (base := base) T O_is_whole
  have O_is_name := ok_is_name (P := l.prog) (w := w) (base := base) T 
  have O_is_bell := ok_is_bell (P := l.prog) (w := w) (base := base) T O_is_name O_is_within
  have O_check_bells := ok_check_bells (P := l.prog) (w := w) (base := base) T O_is_bell
  have O_is_notch := ok_is_notch (P := l.prog) (w := w) (base := base) T O_is_name O_is_within
  have O_check_notches := ok_check_notches (P := l.prog) (w := w) (base := base) T O_is_notch
  have O_Peal___init__ := ok_Peal___init__ (P := l.prog) (w := w) (base := base) T O_check_bells O_check_notches
  have O_check_name := ok_check_name (P := l.prog) (w := w) (base := base) T O_is_name
  have O_check_two := ok_check_two (P := l.prog) (w := w) (base := base) T O_check_name
  have O_Peal_told := ok_Peal_told (P := l.prog) (w := w) (base := base) T O_check_two O_is_within O_Peal___init__
  have O_Peal_hung := ok_Peal_hung (P := l.prog) (w := w) (base := base) T O_is_name O_is_within O_Peal___init__
  have O_Peal_without := ok_Peal_without (P := l.prog) (w := w) (base := base) T O_check_name O_Peal___init__
  have O_Peal___eq__ := ok_Peal___eq__ (P := l.prog) (w := w) (base := base) T 
  have O_Peal___eq___2 := ok_Peal___eq___2 (P := l.prog) (w := w) (base := base) T 
  have O_Peal___len__ := ok_Peal___len__ (P := l.prog) (w := w) (base := base) T 
  have O_Peal___str__ := ok_Peal___str__ (P := l.prog) (w := w) (base := base) T 
  have O_Peal___repr__ := ok_Peal___repr__ (P := l.prog) (w := w) (base := base) T 
  have O__law_opened := ok__law_opened (P := l.prog) (w := w) (base := base) T 
  have O__law_pull := ok__law_pull (P := l.prog) (w := w) (base := base) T 
  have O__law_spelt := ok__law_spelt (P := l.prog) (w := w) (base := base) T 
  have O__law_calls := ok__law_calls (P := l.prog) (w := w) (base := base) T O__law_pull O__law_spelt
  have O__law_figure := ok__law_figure (P := l.prog) (w := w) (base := base) T O__law_pull
  have O__law_kit := ok__law_kit (P := l.prog) (w := w) (base := base) T O__law_calls O__law_pull O__law_figure
  have O__law_far := ok__law_far (P := l.prog) (w := w) (base := base) T 
  have O__law_text := ok__law_text (P := l.prog) (w := w) (base := base) T 
  have O__law_is := ok__law_is (P := l.prog) (w := w) (base := base) T 
  have O__law_both := ok__law_both (P := l.prog) (w := w) (base := base) T O__law_is O_Peal___eq__
  have O__law_both_2 := ok__law_both_2 (P := l.prog) (w := w) (base := base) T O__law_is O_Peal___eq___2
  have O__law_anew := ok__law_anew (P := l.prog) (w := w) (base := base) T O_Peal___init__ O__law_pull O_Peal_told O__law_far O_Peal_hung O_Peal_without
  have O__law_others := ok__law_others (P := l.prog) (w := w) (base := base) T O__law_pull O__law_far O_Peal___init__ O_Peal_told
  have O__law_right := ok__law_right (P := l.prog) (w := w) (base := base) T O__law_kit O_Peal___init__ O__law_anew O__law_both O_Peal___str__ O__law_both_2 O__law_others O_Peal___repr__ O__law_text O_Peal___len__
  have O_law := ok_law (P := l.prog) (w := w) (base := base) T O__law_right O__law_opened
  exact O_law
open H04
theorem gathered {l : PySem.W.OpenLaw} {w : World} {K : PySem.W.Frag} {h : Heap} {mg : Str → Option Value} {fa : Addr} (X : K.In h) (G : h.Ns mainGlobals mg) (hfa : mg "law" = some (.ref fa)) (c : He.SaysX [] hfn [] htf (fxOk hxs) w h K) : LawTab l w K 10 63 "_law_script" mg fa h := by
  have D : hfn.map (fun d => He.fnW K d.at_) = hfn.map He.DefD.val := congrArg (fun z : He.AlD => z.2) c.t.d
  obtain ⟨oc0, od0, sl0, kV0, dc0, pm0, an0, cd0, ct0, g_l0, g_c0⟩ := fDef_ok (p := ("is_whole", none)) (q := "is_whole") (nm := "is_whole") (qn := "is_whole") (ar := defArgs s_is_whole) (bd := defBody s_is_whole) (sc := defScope s_is_whole) (def_at D 0 (d := hd0) rfl) (fx_at c.more 0 0 (l := hx0) (f := fx0) rfl rfl)
  obtain ⟨oc1, od1, sl1, kV1, dc1, pm1, an1, cd1, ct1, g_l1, g_c1⟩ := fDef_ok (p := ("is_within", none)) (q := "is_within") (nm := "is_within") (qn := "is_within") (ar := defArgs s_is_within) (bd := defBody s_is_within) (sc := defScope s_is_within) (def_at D 1 (d := hd1) rfl) (fx_at c.more 0 1 (l := hx0) (f := fx1) rfl rfl)
  obtain ⟨oc2, od2, sl2, kV2, dc2, pm2, an2, cd2, ct2, g_l2, g_c2⟩ := fDef_ok (p := ("is_name", none)) (q := "is_name") (nm := "is_name") (qn := "is_name") (ar := defArgs s_is_name) (bd := defBody s_is_name) (sc := defScope s_is_name) (def_at D 2 (d := hd2) rfl) (fx_at c.more 0 2 (l := hx0) (f := fx2) rfl rfl)
  obtain ⟨oc3, od3, sl3, kV3, dc3, pm3, an3, cd3, ct3, g_l3, g_c3⟩ := fDef_ok (p := ("is_bell", none)) (q := "is_bell") (nm := "is_bell") (qn := "is_bell") (ar := defArgs s_is_bell) (bd := defBody s_is_bell) (sc := defScope s_is_bell) (def_at D 3 (d := hd3) rfl) (fx_at c.more 0 3 (l := hx0) (f := fx3) rfl rfl)
  obtain ⟨oc4, od4, sl4, kV4, dc4, pm4, an4, cd4, ct4, g_l4, g_c4⟩ := fDef_ok (p := ("check_bells", none)) (q := "check_bells") (nm := "check_bells") (qn := "check_bells") (ar := defArgs s_check_bells) (bd := defBody s_check_bells) (sc := defScope s_check_bells) (def_at D 4 (d := hd4) rfl) (fx_at c.more 0 4 (l := hx0) (f := fx4) rfl rfl)
  obtain ⟨oc5, od5, sl5, kV5, dc5, pm5, an5, cd5, ct5, g_l5, g_c5⟩ := fDef_ok (p := ("is_notch", none)) (q := "is_notch") (nm := "is_notch") (qn := "is_notch") (ar := defArgs s_is_notch) (bd := defBody s_is_notch) (sc := defScope s_is_notch) (def_at D 5 (d := hd5) rfl) (fx_at c.more 0 5 (l := hx0) (f := fx5) rfl rfl)
  obtain ⟨oc6, od6, sl6, kV6, dc6, pm6, an6, cd6, ct6, g_l6, g_c6⟩ := fDef_ok (p := ("check_notches", none)) (q := "check_notches") (nm := "check_notches") (qn := "check_notches") (ar := defArgs s_check_notches) (bd := defBody s_check_notches) (sc := defScope s_check_notches) (def_at D 6 (d := hd6) rfl) (fx_at c.more 0 6 (l := hx0) (f := fx6) rfl rfl)
  obtain ⟨oc7, od7, sl7, kV7, dc7, pm7, an7, cd7, ct7, tt7, te7, cc7, dt7, nt7, st7, g_l7, g_c7, g_t7, ge7⟩ := fDef1_ok (p := ("Peal", some "__init__")) (q := "Peal.__init__") (nm := "__init__") (qn := "Peal.__init__") (ar := defArgs s_Peal___init__) (bd := defBody s_Peal___init__) (sc := defScope s_Peal___init__) (def_at D 7 (d := hd7) rfl) (fx_at c.more 0 7 (l := hx0) (f := fx7) rfl rfl)
  subst ge7
  obtain ⟨oc8, od8, sl8, kV8, dc8, pm8, an8, cd8, ct8, g_l8, g_c8⟩ := fDef_ok (p := ("check_name", none)) (q := "check_name") (nm := "check_name") (qn := "check_name") (ar := defArgs s_check_name) (bd := defBody s_check_name) (sc := defScope s_check_name) (def_at D 8 (d := hd8) rfl) (fx_at c.more 0 8 (l := hx0) (f := fx8) rfl rfl)
  obtain ⟨oc9, od9, sl9, kV9, dc9, pm9, an9, cd9, ct9, g_l9, g_c9⟩ := fDef_ok (p := ("check_two", none)) (q := "check_two") (nm := "check_two") (qn := "check_two") (ar := defArgs s_check_two) (bd := defBody s_check_two) (sc := defScope s_check_two) (def_at D 9 (d := hd9) rfl) (fx_at c.more 0 9 (l := hx0) (f := fx9) rfl rfl)
  obtain ⟨oc10, od10, sl10, kV10, dc10, pm10, an10, cd10, ct10, g_l10, g_c10⟩ := fDef_ok (p := ("Peal", some "told")) (q := "Peal.told") (nm := "told") (qn := "Peal.told") (ar := defArgs s_Peal_told) (bd := defBody s_Peal_told) (sc := defScope s_Peal_told) (def_at D 10 (d := hd10) rfl) (fx_at c.more 0 10 (l := hx0) (f := fx10) rfl rfl)
  obtain ⟨oc11, od11, sl11, kV11, dc11, pm11, an11, cd11, ct11, g_l11, g_c11⟩ := fDef_ok (p := ("Peal", some "hung")) (q := "Peal.hung") (nm := "hung") (qn := "Peal.hung") (ar := defArgs s_Peal_hung) (bd := defBody s_Peal_hung) (sc := defScope s_Peal_hung) (def_at D 11 (d := hd11) rfl) (fx_at c.more 0 11 (l := hx0) (f := fx11) rfl rfl)
  obtain ⟨oc12, od12, sl12, kV12, dc12, pm12, an12, cd12, ct12, g_l12, g_c12⟩ := fDef_ok (p := ("Peal", some "without")) (q := "Peal.without") (nm := "without") (qn := "Peal.without") (ar := defArgs s_Peal_without) (bd := defBody s_Peal_without) (sc := defScope s_Peal_without) (def_at D 12 (d := hd12) rfl) (fx_at c.more 0 12 (l := hx0) (f := fx12) rfl rfl)
  obtain ⟨oc13, od13, sl13, kV13, dc13, pm13, an13, cd13, ct13, g_l13, g_c13⟩ := fDef_ok (p := ("Peal", some "__eq__")) (q := "Peal.__eq__") (nm := "__eq__") (qn := "Peal.__eq__") (ar := defArgs s_Peal___eq__) (bd := defBody s_Peal___eq__) (sc := defScope s_Peal___eq__) (def_at D 13 (d := hd13) rfl) (fx_at c.more 0 13 (l := hx0) (f := fx13) rfl rfl)
  obtain ⟨oc14, od14, sl14, kV14, dc14, pm14, an14, cd14, ct14, g_l14, g_c14⟩ := fDef_ok (p := ("Peal", some "__len__")) (q := "Peal.__len__") (nm := "__len__") (qn := "Peal.__len__") (ar := defArgs s_Peal___len__) (bd := defBody s_Peal___len__) (sc := defScope s_Peal___len__) (def_at D 14 (d := hd14) rfl) (fx_at c.more 0 14 (l := hx0) (f := fx14) rfl rfl)
  obtain ⟨oc15, od15, sl15, kV15, dc15, pm15, an15, cd15, ct15, g_l15, g_c15⟩ := fDef_ok (p := ("Peal", some "__str__")) (q := "Peal.__str__") (nm := "__str__") (qn := "Peal.__str__") (ar := defArgs s_Peal___str__) (bd := defBody s_Peal___str__) (sc := defScope s_Peal___str__) (def_at D 15 (d := hd15) rfl) (fx_at c.more 0 15 (l := hx0) (f := fx15) rfl rfl)
  obtain ⟨oc16, od16, sl16, kV16, dc16, pm16, an16, cd16, ct16, g_l16, g_c16⟩ := fDef_ok (p := ("Peal", some "__repr__")) (q := "Peal.__repr__") (nm := "__repr__") (qn := "Peal.__repr__") (ar := defArgs s_Peal___repr__) (bd := defBody s_Peal___repr__) (sc := defScope s_Peal___repr__) (def_at D 16 (d := hd16) rfl) (fx_at c.more 0 16 (l := hx0) (f := fx16) rfl rfl)
  obtain ⟨oc17, od17, sl17, kV17, dc17, pm17, an17, cd17, ct17, g_l17, g_c17⟩ := fDef_ok (p := ("_law_opened", none)) (q := "_law_opened") (nm := "_law_opened") (qn := "_law_opened") (ar := defArgs s__law_opened) (bd := defBody s__law_opened) (sc := defScope s__law_opened) (def_at D 17 (d := hd17) rfl) (fx_at c.more 0 17 (l := hx0) (f := fx17) rfl rfl)
  obtain ⟨oc18, od18, sl18, kV18, dc18, pm18, an18, cd18, ct18, g_l18, g_c18⟩ := fDef_ok (p := ("_law_pull", none)) (q := "_law_pull") (nm := "_law_pull") (qn := "_law_pull") (ar := defArgs s__law_pull) (bd := defBody s__law_pull) (sc := defScope s__law_pull) (def_at D 18 (d := hd18) rfl) (fx_at c.more 0 18 (l := hx0) (f := fx18) rfl rfl)
  obtain ⟨oc19, od19, sl19, kV19, dc19, pm19, an19, cd19, ct19, g_l19, g_c19⟩ := fDef_ok (p := ("_law_spelt", none)) (q := "_law_spelt") (nm := "_law_spelt") (qn := "_law_spelt") (ar := defArgs s__law_spelt) (bd := defBody s__law_spelt) (sc := defScope s__law_spelt) (def_at D 19 (d := hd19) rfl) (fx_at c.more 0 19 (l := hx0) (f := fx19) rfl rfl)
  obtain ⟨oc20, od20, sl20, kV20, dc20, pm20, an20, cd20, ct20, g_l20, g_c20⟩ := fDef_ok (p := ("_law_calls", none)) (q := "_law_calls") (nm := "_law_calls") (qn := "_law_calls") (ar := defArgs s__law_calls) (bd := defBody s__law_calls) (sc := defScope s__law_calls) (def_at D 20 (d := hd20) rfl) (fx_at c.more 1 0 (l := hx1) (f := fx20) rfl rfl)
  obtain ⟨oc21, od21, sl21, kV21, dc21, pm21, an21, cd21, ct21, g_l21, g_c21⟩ := fDef_ok (p := ("_law_figure", none)) (q := "_law_figure") (nm := "_law_figure") (qn := "_law_figure") (ar := defArgs s__law_figure) (bd := defBody s__law_figure) (sc := defScope s__law_figure) (def_at D 21 (d := hd21) rfl) (fx_at c.more 1 1 (l := hx1) (f := fx21) rfl rfl)
  obtain ⟨oc22, od22, sl22, kV22, dc22, pm22, an22, cd22, ct22, g_l22, g_c22⟩ := fDef_ok (p := ("_law_kit", none)) (q := "_law_kit") (nm := "_law_kit") (qn := "_law_kit") (ar := defArgs s__law_kit) (bd := defBody s__law_kit) (sc := defScope s__law_kit) (def_at D 22 (d := hd22) rfl) (fx_at c.more 1 2 (l := hx1) (f := fx22) rfl rfl)
  obtain ⟨oc23, od23, sl23, kV23, dc23, pm23, an23, cd23, ct23, g_l23, g_c23⟩ := fDef_ok (p := ("_law_far", none)) (q := "_law_far") (nm := "_law_far") (qn := "_law_far") (ar := defArgs s__law_far) (bd := defBody s__law_far) (sc := defScope s__law_far) (def_at D 23 (d := hd23) rfl) (fx_at c.more 1 3 (l := hx1) (f := fx23) rfl rfl)
  obtain ⟨oc24, od24, sl24, kV24, dc24, pm24, an24, cd24, ct24, g_l24, g_c24⟩ := fDef_ok (p := ("_law_text", none)) (q := "_law_text") (nm := "_law_text") (qn := "_law_text") (ar := defArgs s__law_text) (bd := defBody s__law_text) (sc := defScope s__law_text) (def_at D 24 (d := hd24) rfl) (fx_at c.more 1 4 (l := hx1) (f := fx24) rfl rfl)
  obtain ⟨oc25, od25, sl25, kV25, dc25, pm25, an25, cd25, ct25, g_l25, g_c25⟩ := fDef_ok (p := ("_law_is", none)) (q := "_law_is") (nm := "_law_is") (qn := "_law_is") (ar := defArgs s__law_is) (bd := defBody s__law_is) (sc := defScope s__law_is) (def_at D 25 (d := hd25) rfl) (fx_at c.more 1 5 (l := hx1) (f := fx25) rfl rfl)
  obtain ⟨oc26, od26, sl26, kV26, dc26, pm26, an26, cd26, ct26, g_l26, g_c26⟩ := fDef_ok (p := ("_law_both", none)) (q := "_law_both") (nm := "_law_both") (qn := "_law_both") (ar := defArgs s__law_both) (bd := defBody s__law_both) (sc := defScope s__law_both) (def_at D 26 (d := hd26) rfl) (fx_at c.more 1 6 (l := hx1) (f := fx26) rfl rfl)
  obtain ⟨oc27, od27, sl27, kV27, dc27, pm27, an27, cd27, ct27, g_l27, g_c27⟩ := fDef_ok (p := ("_law_anew", none)) (q := "_law_anew") (nm := "_law_anew") (qn := "_law_anew") (ar := defArgs s__law_anew) (bd := defBody s__law_anew) (sc := defScope s__law_anew) (def_at D 27 (d := hd27) rfl) (fx_at c.more 1 7 (l := hx1) (f := fx27) rfl rfl)
  obtain ⟨oc28, od28, sl28, kV28, dc28, pm28, an28, cd28, ct28, g_l28, g_c28⟩ := fDef_ok (p := ("_law_others", none)) (q := "_law_others") (nm := "_law_others") (qn := "_law_others") (ar := defArgs s__law_others) (bd := defBody s__law_others) (sc := defScope s__law_others) (def_at D 28 (d := hd28) rfl) (fx_at c.more 1 8 (l := hx1) (f := fx28) rfl rfl)
  obtain ⟨oc29, od29, sl29, kV29, dc29, pm29, an29, cd29, ct29, g_l29, g_c29⟩ := fDef_ok (p := ("_law_right", none)) (q := "_law_right") (nm := "_law_right") (qn := "_law_right") (ar := defArgs s__law_right) (bd := defBody s__law_right) (sc := defScope s__law_right) (def_at D 29 (d := hd29) rfl) (fx_at c.more 1 9 (l := hx1) (f := fx29) rfl rfl)
  obtain ⟨oc30, od30, sl30, kV30, dc30, pm30, an30, cd30, ct30, g_l30, g_c30⟩ := fDef_ok (p := ("law", none)) (q := "law") (nm := "law") (qn := "law") (ar := defArgs s_law) (bd := defBody s_law) (sc := defScope s_law) (def_at D 30 (d := hd30) rfl) (fx_at c.more 1 10 (l := hx1) (f := fx30) rfl rfl)
  have g_gc_Peal : PySem.W.nsIn K mainGlobals "Peal" = some (some (.ref (He.ga K "Peal"))) := He.eqO_ok (fx_at c.more 1 11 (l := hx1) (f := fx31) rfl rfl)
  have g_p1_Peal : PySem.W.plainGet K (He.ga K "Peal") Str.empty = true := (fx_at c.more 1 12 (l := hx1) (f := fx32) rfl rfl)
  have g_p2_Peal : PySem.W.hasDictIn K (He.ga K "Peal") = true := (fx_at c.more 1 13 (l := hx1) (f := fx33) rfl rfl)
  have g_p3_Peal : PySem.W.plainOver K (He.ga K "Peal") = true := (fx_at c.more 1 14 (l := hx1) (f := fx34) rfl rfl)
  have g_p4_Peal : PySem.W.findIn K (.ref (He.ga K "Peal")) "__setattr__" = some (some (.builtin "object.__setattr__")) := He.eqO_ok (fx_at c.more 1 15 (l := hx1) (f := fx35) rfl rfl)
  have g_p5_Peal : PySem.W.makesIn K (He.ga K "Peal") = true := (fx_at c.more 1 16 (l := hx1) (f := fx36) rfl rfl)
  have g_p6_Peal : PySem.W.keepIn K (.ref (He.ga K "Peal")) = true := (fx_at c.more 1 17 (l := hx1) (f := fx37) rfl rfl)
  have g_p7_Peal : PySem.W.findIn K (.ref (He.ga K "Peal")) "__class__" = some (some (.builtin "object.__class__")) := He.eqO_ok (fx_at c.more 1 18 (l := hx1) (f := fx38) rfl rfl)
  have g_p8_Peal : PySem.W.specialIn K (.builtin "object.__class__") "__get__" = some (some (.builtin "getset_descriptor.__get__")) := He.eqO_ok (fx_at c.more 1 19 (l := hx1) (f := fx39) rfl rfl)
  have g_p9_Peal : PySem.W.takesIn K (.builtin "object.__class__") = some true := of_decide_eq_true (fx_at c.more 2 0 (l := hx2) (f := fx40) rfl rfl)
  have g_pa_Peal : PySem.W.mroIn K (He.ga K "Peal") (.type "object") = some true := of_decide_eq_true (fx_at c.more 2 1 (l := hx2) (f := fx41) rfl rfl)
  have g_pn_Peal : PySem.W.findIn K (.ref (He.ga K "Peal")) "__ne__" = some (some (.builtin "object.__ne__")) := He.eqO_ok (fx_at c.more 2 2 (l := hx2) (f := fx42) rfl rfl)
  have g_nb_Peal : PySem.W.findIn K (.ref (He.ga K "Peal")) "__bool__" = some none := He.eqO_ok (fx_at c.more 2 3 (l := hx2) (f := fx43) rfl rfl)
  have g_no1_Peal : PySem.W.mroIn K (He.ga K "Peal") (.type "tuple") = some false := of_decide_eq_true (fx_at c.more 2 4 (l := hx2) (f := fx44) rfl rfl)
  have g_no2_Peal : PySem.W.mroIn K (He.ga K "Peal") (.type "int") = some false := of_decide_eq_true (fx_at c.more 2 5 (l := hx2) (f := fx45) rfl rfl)
  have g_no3_Peal : PySem.W.mroIn K (He.ga K "Peal") (.type "bool") = some false := of_decide_eq_true (fx_at c.more 2 6 (l := hx2) (f := fx46) rfl rfl)
  have g_no4_Peal : PySem.W.mroIn K (He.ga K "Peal") (.type "str") = some false := of_decide_eq_true (fx_at c.more 2 7 (l := hx2) (f := fx47) rfl rfl)
  have g_no5_Peal : PySem.W.mroIn K (He.ga K "Peal") (.type "list") = some false := of_decide_eq_true (fx_at c.more 2 8 (l := hx2) (f := fx48) rfl rfl)
  have g_no6_Peal : PySem.W.mroIn K (He.ga K "Peal") (.type "dict") = some false := of_decide_eq_true (fx_at c.more 2 9 (l := hx2) (f := fx49) rfl rfl)
  have g_no7_Peal : PySem.W.mroIn K (He.ga K "Peal") (.type "NoneType") = some false := of_decide_eq_true (fx_at c.more 2 10 (l := hx2) (f := fx50) rfl rfl)
  have g_n_Peal_bells : PySem.W.findIn K (.ref (He.ga K "Peal")) "bells" = some none := He.eqO_ok (fx_at c.more 2 11 (l := hx2) (f := fx51) rfl rfl)
  have g_n_Peal_notches : PySem.W.findIn K (.ref (He.ga K "Peal")) "notches" = some none := He.eqO_ok (fx_at c.more 2 12 (l := hx2) (f := fx52) rfl rfl)
  have g_n_Peal_sizes : PySem.W.findIn K (.ref (He.ga K "Peal")) "sizes" = some none := He.eqO_ok (fx_at c.more 2 13 (l := hx2) (f := fx53) rfl rfl)
  have g_n_Peal_turning : PySem.W.findIn K (.ref (He.ga K "Peal")) "turning" = some none := He.eqO_ok (fx_at c.more 2 14 (l := hx2) (f := fx54) rfl rfl)
  have g_iC_Peal : PySem.W.isClsIn K (He.ga K "Peal") = true := (fx_at c.more 2 15 (l := hx2) (f := fx55) rfl rfl)
  have g_tY_Peal : PySem.W.typeIn K (.ref (He.ga K "Peal")) = some (.type "type") := of_decide_eq_true (fx_at c.more 2 16 (l := hx2) (f := fx56) rfl rfl)
  have g_a0 : PySem.W.nsIn K mainGlobals "is_whole" = some (some (.ref (He.fAd K ("is_whole", none)))) := He.eqO_ok (fx_at c.more 2 17 (l := hx2) (f := fx57) rfl rfl)
  have g_k0 : PySem.W.keepIn K (.ref (He.fAd K ("is_whole", none))) = true := (fx_at c.more 2 18 (l := hx2) (f := fx58) rfl rfl)
  have g_a1 : PySem.W.nsIn K mainGlobals "is_within" = some (some (.ref (He.fAd K ("is_within", none)))) := He.eqO_ok (fx_at c.more 2 19 (l := hx2) (f := fx59) rfl rfl)
  have g_k1 : PySem.W.keepIn K (.ref (He.fAd K ("is_within", none))) = true := (fx_at c.more 3 0 (l := hx3) (f := fx60) rfl rfl)
  have g_a2 : PySem.W.nsIn K mainGlobals "is_name" = some (some (.ref (He.fAd K ("is_name", none)))) := He.eqO_ok (fx_at c.more 3 1 (l := hx3) (f := fx61) rfl rfl)
  have g_k2 : PySem.W.keepIn K (.ref (He.fAd K ("is_name", none))) = true := (fx_at c.more 3 2 (l := hx3) (f := fx62) rfl rfl)
  have g_a3 : PySem.W.nsIn K mainGlobals "is_bell" = some (some (.ref (He.fAd K ("is_bell", none)))) := He.eqO_ok (fx_at c.more 3 3 (l := hx3) (f := fx63) rfl rfl)
  have g_k3 : PySem.W.keepIn K (.ref (He.fAd K ("is_bell", none))) = true := (fx_at c.more 3 4 (l := hx3) (f := fx64) rfl rfl)
  have g_a4 : PySem.W.nsIn K mainGlobals "check_bells" = some (some (.ref (He.fAd K ("check_bells", none)))) := He.eqO_ok (fx_at c.more 3 5 (l := hx3) (f := fx65) rfl rfl)
  have g_k4 : PySem.W.keepIn K (.ref (He.fAd K ("check_bells", none))) = true := (fx_at c.more 3 6 (l := hx3) (f := fx66) rfl rfl)
  have g_a5 : PySem.W.nsIn K mainGlobals "is_notch" = some (some (.ref (He.fAd K ("is_notch", none)))) := He.eqO_ok (fx_at c.more 3 7 (l := hx3) (f := fx67) rfl rfl)
  have g_k5 : PySem.W.keepIn K (.ref (He.fAd K ("is_notch", none))) = true := (fx_at c.more 3 8 (l := hx3) (f := fx68) rfl rfl)
  have g_a6 : PySem.W.nsIn K mainGlobals "check_notches" = some (some (.ref (He.fAd K ("check_notches", none)))) := He.eqO_ok (fx_at c.more 3 9 (l := hx3) (f := fx69) rfl rfl)
  have g_k6 : PySem.W.keepIn K (.ref (He.fAd K ("check_notches", none))) = true := (fx_at c.more 3 10 (l := hx3) (f := fx70) rfl rfl)
  have g_a7 : PySem.W.findIn K (.ref (He.ga K "Peal")) "__init__" = some (some (.ref (He.fAd K ("Peal", some "__init__")))) := He.eqO_ok (fx_at c.more 3 11 (l := hx3) (f := fx71) rfl rfl)
  have g_i7 : PySem.W.isFn K (.ref (He.fAd K ("Peal", some "__init__"))) = true := (fx_at c.more 3 12 (l := hx3) (f := fx72) rfl rfl)
  have g_k7 : PySem.W.keepIn K (.ref (He.fAd K ("Peal", some "__init__"))) = true := (fx_at c.more 3 13 (l := hx3) (f := fx73) rfl rfl)
  obtain ⟨_, _, g_tn7⟩ := fTup0_ok (A := He.dflAt ("Peal", some "__init__") 0) (fx_at c.more 3 14 (l := hx3) (f := fx74) rfl rfl)
  have g_a8 : PySem.W.nsIn K mainGlobals "check_name" = some (some (.ref (He.fAd K ("check_name", none)))) := He.eqO_ok (fx_at c.more 3 15 (l := hx3) (f := fx75) rfl rfl)
  have g_k8 : PySem.W.keepIn K (.ref (He.fAd K ("check_name", none))) = true := (fx_at c.more 3 16 (l := hx3) (f := fx76) rfl rfl)
  have g_a9 : PySem.W.nsIn K mainGlobals "check_two" = some (some (.ref (He.fAd K ("check_two", none)))) := He.eqO_ok (fx_at c.more 3 17 (l := hx3) (f := fx77) rfl rfl)
  have g_k9 : PySem.W.keepIn K (.ref (He.fAd K ("check_two", none))) = true := (fx_at c.more 3 18 (l := hx3) (f := fx78) rfl rfl)
  have g_a10 : PySem.W.findIn K (.ref (He.ga K "Peal")) "told" = some (some (.ref (He.fAd K ("Peal", some "told")))) := He.eqO_ok (fx_at c.more 3 19 (l := hx3) (f := fx79) rfl rfl)
  have g_i10 : PySem.W.isFn K (.ref (He.fAd K ("Peal", some "told"))) = true := (fx_at c.more 4 0 (l := hx4) (f := fx80) rfl rfl)
  have g_k10 : PySem.W.keepIn K (.ref (He.fAd K ("Peal", some "told"))) = true := (fx_at c.more 4 1 (l := hx4) (f := fx81) rfl rfl)
  have g_a11 : PySem.W.findIn K (.ref (He.ga K "Peal")) "hung" = some (some (.ref (He.fAd K ("Peal", some "hung")))) := He.eqO_ok (fx_at c.more 4 2 (l := hx4) (f := fx82) rfl rfl)
  have g_i11 : PySem.W.isFn K (.ref (He.fAd K ("Peal", some "hung"))) = true := (fx_at c.more 4 3 (l := hx4) (f := fx83) rfl rfl)
  have g_k11 : PySem.W.keepIn K (.ref (He.fAd K ("Peal", some "hung"))) = true := (fx_at c.more 4 4 (l := hx4) (f := fx84) rfl rfl)
  have g_a12 : PySem.W.findIn K (.ref (He.ga K "Peal")) "without" = some (some (.ref (He.fAd K ("Peal", some "without")))) := He.eqO_ok (fx_at c.more 4 5 (l := hx4) (f := fx85) rfl rfl)
  have g_i12 : PySem.W.isFn K (.ref (He.fAd K ("Peal", some "without"))) = true := (fx_at c.more 4 6 (l := hx4) (f := fx86) rfl rfl)
  have g_k12 : PySem.W.keepIn K (.ref (He.fAd K ("Peal", some "without"))) = true := (fx_at c.more 4 7 (l := hx4) (f := fx87) rfl rfl)
  have g_a13 : PySem.W.findIn K (.ref (He.ga K "Peal")) "__eq__" = some (some (.ref (He.fAd K ("Peal", some "__eq__")))) := He.eqO_ok (fx_at c.more 4 8 (l := hx4) (f := fx88) rfl rfl)
  have g_i13 : PySem.W.isFn K (.ref (He.fAd K ("Peal", some "__eq__"))) = true := (fx_at c.more 4 9 (l := hx4) (f := fx89) rfl rfl)
  have g_k13 : PySem.W.keepIn K (.ref (He.fAd K ("Peal", some "__eq__"))) = true := (fx_at c.more 4 10 (l := hx4) (f := fx90) rfl rfl)
  have g_a14 : PySem.W.findIn K (.ref (He.ga K "Peal")) "__len__" = some (some (.ref (He.fAd K ("Peal", some "__len__")))) := He.eqO_ok (fx_at c.more 4 11 (l := hx4) (f := fx91) rfl rfl)
  have g_i14 : PySem.W.isFn K (.ref (He.fAd K ("Peal", some "__len__"))) = true := (fx_at c.more 4 12 (l := hx4) (f := fx92) rfl rfl)
  have g_k14 : PySem.W.keepIn K (.ref (He.fAd K ("Peal", some "__len__"))) = true := (fx_at c.more 4 13 (l := hx4) (f := fx93) rfl rfl)
  have g_a15 : PySem.W.findIn K (.ref (He.ga K "Peal")) "__str__" = some (some (.ref (He.fAd K ("Peal", some "__str__")))) := He.eqO_ok (fx_at c.more 4 14 (l := hx4) (f := fx94) rfl rfl)
  have g_i15 : PySem.W.isFn K (.ref (He.fAd K ("Peal", some "__str__"))) = true := (fx_at c.more 4 15 (l := hx4) (f := fx95) rfl rfl)
  have g_k15 : PySem.W.keepIn K (.ref (He.fAd K ("Peal", some "__str__"))) = true := (fx_at c.more 4 16 (l := hx4) (f := fx96) rfl rfl)
  have g_a16 : PySem.W.findIn K (.ref (He.ga K "Peal")) "__repr__" = some (some (.ref (He.fAd K ("Peal", some "__repr__")))) := He.eqO_ok (fx_at c.more 4 17 (l := hx4) (f := fx97) rfl rfl)
  have g_i16 : PySem.W.isFn K (.ref (He.fAd K ("Peal", some "__repr__"))) = true := (fx_at c.more 4 18 (l := hx4) (f := fx98) rfl rfl)
  have g_k16 : PySem.W.keepIn K (.ref (He.fAd K ("Peal", some "__repr__"))) = true := (fx_at c.more 4 19 (l := hx4) (f := fx99) rfl rfl)
  have g_a17 : PySem.W.nsIn K mainGlobals "_law_opened" = some (some (.ref (He.fAd K ("_law_opened", none)))) := He.eqO_ok (fx_at c.more 5 0 (l := hx5) (f := fx100) rfl rfl)
  have g_k17 : PySem.W.keepIn K (.ref (He.fAd K ("_law_opened", none))) = true := (fx_at c.more 5 1 (l := hx5) (f := fx101) rfl rfl)
  have g_a18 : PySem.W.nsIn K mainGlobals "_law_pull" = some (some (.ref (He.fAd K ("_law_pull", none)))) := He.eqO_ok (fx_at c.more 5 2 (l := hx5) (f := fx102) rfl rfl)
  have g_k18 : PySem.W.keepIn K (.ref (He.fAd K ("_law_pull", none))) = true := (fx_at c.more 5 3 (l := hx5) (f := fx103) rfl rfl)
  have g_a19 : PySem.W.nsIn K mainGlobals "_law_spelt" = some (some (.ref (He.fAd K ("_law_spelt", none)))) := He.eqO_ok (fx_at c.more 5 4 (l := hx5) (f := fx104) rfl rfl)
  have g_k19 : PySem.W.keepIn K (.ref (He.fAd K ("_law_spelt", none))) = true := (fx_at c.more 5 5 (l := hx5) (f := fx105) rfl rfl)
  have g_a20 : PySem.W.nsIn K mainGlobals "_law_calls" = some (some (.ref (He.fAd K ("_law_calls", none)))) := He.eqO_ok (fx_at c.more 5 6 (l := hx5) (f := fx106) rfl rfl)
  have g_k20 : PySem.W.keepIn K (.ref (He.fAd K ("_law_calls", none))) = true := (fx_at c.more 5 7 (l := hx5) (f := fx107) rfl rfl)
  have g_a21 : PySem.W.nsIn K mainGlobals "_law_figure" = some (some (.ref (He.fAd K ("_law_figure", none)))) := He.eqO_ok (fx_at c.more 5 8 (l := hx5) (f := fx108) rfl rfl)
  have g_k21 : PySem.W.keepIn K (.ref (He.fAd K ("_law_figure", none))) = true := (fx_at c.more 5 9 (l := hx5) (f := fx109) rfl rfl)
  have g_a22 : PySem.W.nsIn K mainGlobals "_law_kit" = some (some (.ref (He.fAd K ("_law_kit", none)))) := He.eqO_ok (fx_at c.more 5 10 (l := hx5) (f := fx110) rfl rfl)
  have g_k22 : PySem.W.keepIn K (.ref (He.fAd K ("_law_kit", none))) = true := (fx_at c.more 5 11 (l := hx5) (f := fx111) rfl rfl)
  have g_a23 : PySem.W.nsIn K mainGlobals "_law_far" = some (some (.ref (He.fAd K ("_law_far", none)))) := He.eqO_ok (fx_at c.more 5 12 (l := hx5) (f := fx112) rfl rfl)
  have g_k23 : PySem.W.keepIn K (.ref (He.fAd K ("_law_far", none))) = true := (fx_at c.more 5 13 (l := hx5) (f := fx113) rfl rfl)
  have g_a24 : PySem.W.nsIn K mainGlobals "_law_text" = some (some (.ref (He.fAd K ("_law_text", none)))) := He.eqO_ok (fx_at c.more 5 14 (l := hx5) (f := fx114) rfl rfl)
  have g_k24 : PySem.W.keepIn K (.ref (He.fAd K ("_law_text", none))) = true := (fx_at c.more 5 15 (l := hx5) (f := fx115) rfl rfl)
  have g_a25 : PySem.W.nsIn K mainGlobals "_law_is" = some (some (.ref (He.fAd K ("_law_is", none)))) := He.eqO_ok (fx_at c.more 5 16 (l := hx5) (f := fx116) rfl rfl)
  have g_k25 : PySem.W.keepIn K (.ref (He.fAd K ("_law_is", none))) = true := (fx_at c.more 5 17 (l := hx5) (f := fx117) rfl rfl)
  have g_a26 : PySem.W.nsIn K mainGlobals "_law_both" = some (some (.ref (He.fAd K ("_law_both", none)))) := He.eqO_ok (fx_at c.more 5 18 (l := hx5) (f := fx118) rfl rfl)
  have g_k26 : PySem.W.keepIn K (.ref (He.fAd K ("_law_both", none))) = true := (fx_at c.more 5 19 (l := hx5) (f := fx119) rfl rfl)
  have g_a27 : PySem.W.nsIn K mainGlobals "_law_anew" = some (some (.ref (He.fAd K ("_law_anew", none)))) := He.eqO_ok (fx_at c.more 6 0 (l := hx6) (f := fx120) rfl rfl)
  have g_k27 : PySem.W.keepIn K (.ref (He.fAd K ("_law_anew", none))) = true := (fx_at c.more 6 1 (l := hx6) (f := fx121) rfl rfl)
  have g_a28 : PySem.W.nsIn K mainGlobals "_law_others" = some (some (.ref (He.fAd K ("_law_others", none)))) := He.eqO_ok (fx_at c.more 6 2 (l := hx6) (f := fx122) rfl rfl)
  have g_k28 : PySem.W.keepIn K (.ref (He.fAd K ("_law_others", none))) = true := (fx_at c.more 6 3 (l := hx6) (f := fx123) rfl rfl)
  have g_a29 : PySem.W.nsIn K mainGlobals "_law_right" = some (some (.ref (He.fAd K ("_law_right", none)))) := He.eqO_ok (fx_at c.more 6 4 (l := hx6) (f := fx124) rfl rfl)
  have g_k29 : PySem.W.keepIn K (.ref (He.fAd K ("_law_right", none))) = true := (fx_at c.more 6 5 (l := hx6) (f := fx125) rfl rfl)
  have g_a30 : PySem.W.nsIn K mainGlobals "law" = some (some (.ref (He.fAd K ("law", none)))) := He.eqO_ok (fx_at c.more 6 6 (l := hx6) (f := fx126) rfl rfl)
  have g_k30 : PySem.W.keepIn K (.ref (He.fAd K ("law", none))) = true := (fx_at c.more 6 7 (l := hx6) (f := fx127) rfl rfl)
  have g_z0 : PySem.W.nsIn K mainGlobals "int" = some none := He.eqO_ok (fx_at c.more 6 8 (l := hx6) (f := fx128) rfl rfl)
  have g_z1 : PySem.W.nsIn K mainGlobals "isinstance" = some none := He.eqO_ok (fx_at c.more 6 9 (l := hx6) (f := fx129) rfl rfl)
  have g_z2 : PySem.W.nsIn K mainGlobals "bool" = some none := He.eqO_ok (fx_at c.more 6 10 (l := hx6) (f := fx130) rfl rfl)
  have g_z3 : PySem.W.nsIn K mainGlobals "str" = some none := He.eqO_ok (fx_at c.more 6 11 (l := hx6) (f := fx131) rfl rfl)
  have g_z4 : PySem.W.nsIn K mainGlobals "len" = some none := He.eqO_ok (fx_at c.more 6 12 (l := hx6) (f := fx132) rfl rfl)
  have g_z5 : PySem.W.nsIn K mainGlobals "all" = some none := He.eqO_ok (fx_at c.more 6 13 (l := hx6) (f := fx133) rfl rfl)
  have g_z6 : PySem.W.nsIn K mainGlobals "tuple" = some none := He.eqO_ok (fx_at c.more 6 14 (l := hx6) (f := fx134) rfl rfl)
  have g_z7 : PySem.W.nsIn K mainGlobals "enumerate" = some none := He.eqO_ok (fx_at c.more 6 15 (l := hx6) (f := fx135) rfl rfl)
  have g_z8 : PySem.W.nsIn K mainGlobals "dict" = some none := He.eqO_ok (fx_at c.more 6 16 (l := hx6) (f := fx136) rfl rfl)
  have g_z9 : PySem.W.nsIn K mainGlobals "sorted" = some none := He.eqO_ok (fx_at c.more 6 17 (l := hx6) (f := fx137) rfl rfl)
  have g_z10 : PySem.W.nsIn K mainGlobals "abs" = some none := He.eqO_ok (fx_at c.more 6 18 (l := hx6) (f := fx138) rfl rfl)
  have g_z11 : PySem.W.nsIn K mainGlobals "divmod" = some none := He.eqO_ok (fx_at c.more 6 19 (l := hx6) (f := fx139) rfl rfl)
  have g_z12 : PySem.W.nsIn K mainGlobals "range" = some none := He.eqO_ok (fx_at c.more 7 0 (l := hx7) (f := fx140) rfl rfl)
  have g_z13 : PySem.W.nsIn K mainGlobals "list" = some none := He.eqO_ok (fx_at c.more 7 1 (l := hx7) (f := fx141) rfl rfl)
  have g_z14 : PySem.W.nsIn K mainGlobals "repr" = some none := He.eqO_ok (fx_at c.more 7 2 (l := hx7) (f := fx142) rfl rfl)
  have g_z15 : PySem.W.nsIn K mainGlobals "min" = some none := He.eqO_ok (fx_at c.more 7 3 (l := hx7) (f := fx143) rfl rfl)
  have g_z16 : PySem.W.nsIn K mainGlobals "max" = some none := He.eqO_ok (fx_at c.more 7 4 (l := hx7) (f := fx144) rfl rfl)
  obtain ⟨_, g_q0⟩ := fInt_ok (fx_at c.more 7 5 (l := hx7) (f := fx145) rfl rfl)
  obtain ⟨_, g_q1⟩ := fStr_ok (fx_at c.more 7 6 (l := hx7) (f := fx146) rfl rfl)
  obtain ⟨_, g_q2⟩ := fInt_ok (fx_at c.more 7 7 (l := hx7) (f := fx147) rfl rfl)
  obtain ⟨_, g_q3⟩ := fInt_ok (fx_at c.more 7 8 (l := hx7) (f := fx148) rfl rfl)
  obtain ⟨_, g_q4⟩ := fInt_ok (fx_at c.more 7 9 (l := hx7) (f := fx149) rfl rfl)
  obtain ⟨_, g_q5⟩ := fInt_ok (fx_at c.more 7 10 (l := hx7) (f := fx150) rfl rfl)
  exact all_mk X G hfa g_gc_Peal g_p1_Peal g_p2_Peal g_p3_Peal g_p4_Peal g_p5_Peal g_p6_Peal g_p7_Peal g_p8_Peal g_p9_Peal g_pa_Peal g_pn_Peal g_nb_Peal g_no1_Peal g_no2_Peal g_no3_Peal g_no4_Peal g_no5_Peal g_no6_Peal g_no7_Peal g_n_Peal_bells g_n_Peal_notches g_n_Peal_sizes g_n_Peal_turning g_iC_Peal g_tY_Peal g_a0 g_l0 g_c0 g_k0 g_a1 g_l1 g_c1 g_k1 g_a2 g_l2 g_c2 g_k2 g_a3 g_l3 g_c3 g_k3 g_a4 g_l4 g_c4 g_k4 g_a5 g_l5 g_c5 g_k5 g_a6 g_l6 g_c6 g_k6 g_a7 g_i7 g_l7 g_c7 g_k7 g_t7 g_tn7 g_a8 g_l8 g_c8 g_k8 g_a9 g_l9 g_c9 g_k9 g_a10 g_i10 g_l10 g_c10 g_k10 g_a11 g_i11 g_l11 g_c11 g_k11 g_a12 g_i12 g_l12 g_c12 g_k12 g_a13 g_i13 g_l13 g_c13 g_k13 g_a14 g_i14 g_l14 g_c14 g_k14 g_a15 g_i15 g_l15 g_c15 g_k15 g_a16 g_i16 g_l16 g_c16 g_k16 g_a17 g_l17 g_c17 g_k17 g_a18 g_l18 g_c18 g_k18 g_a19 g_l19 g_c19 g_k19 g_a20 g_l20 g_c20 g_k20 g_a21 g_l21 g_c21 g_k21 g_a22 g_l22 g_c22 g_k22 g_a23 g_l23 g_c23 g_k23 g_a24 g_l24 g_c24 g_k24 g_a25 g_l25 g_c25 g_k25 g_a26 g_l26 g_c26 g_k26 g_a27 g_l27 g_c27 g_k27 g_a28 g_l28 g_c28 g_k28 g_a29 g_l29 g_c29 g_k29 g_a30 g_l30 g_c30 g_k30 g_z0 g_z1 g_z2 g_z3 g_z4 g_z5 g_z6 g_z7 g_z8 g_z9 g_z10 g_z11 g_z12 g_z13 g_z14 g_z15 g_z16 g_q0 g_q1 g_q2 g_q3 g_q4 g_q5
end K04
open PySem PySem.W PyProof.Rows
set_option maxHeartbeats 0 in
theorem PySem.Challenge.cw_sincerung_k04_peals_alike_and_shown_holds : PySem.Challenge.rw_sincerung_k04_peals_alike_and_shown.Holds := by
  w_on; o_law
  refine HandSHeadRun.head_any (r := H04.hR) (q := H04.hqv) (H := H04.hhk) (ob := H04.hob) (M := 30000) (loose := H04.hnames) (kwd := []) H04.hob_eq (by kernel_rfl) (fun s => by kernel_rfl) H04.hrun (by rfl) (by rfl) (by rfl) (by rfl) (by first | assumption | decide +kernel) (by decide +kernel) ⟨rfl, rfl, rfl, rfl, rfl, by decide +kernel⟩ ?hw ?hc
  case hw => w_witness2
  case hc => exact Kx.walk_ofTX (l := PySem.Challenge.rw_sincerung_k04_peals_alike_and_shown) (n := 63) (k := 10) (x := "_law_script") rfl (by decide) rfl ⟨rfl, by decide, by decide⟩ fun w mg fa h Y G hmg => let ⟨K, KX, c⟩ := Y; ⟨K, KX, K04.gathered KX G hmg c⟩
end
