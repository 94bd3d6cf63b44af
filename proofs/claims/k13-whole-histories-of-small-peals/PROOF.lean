import PyProof.Rows.All
import HandS.Text
import Wide.All
import OpenK.AllK
import Wide.FinOn
import HandS.ForMost
import HandS.Walk
import HandS.Zip
import HandS.IsInst
import HandS.Deep
import HandS.Style
import HandS.WideBits
import HandS.TupAny
import KE.GoesEnum
import KE.GoesMore
import HandS.Wide
import KE.KTupSum
import HandS.Strs
import HandS.DictComp
import KE.KDictPairs
import HandS.Defaults
import KE.DataCmp
import KE.KDictWalk
import PyProof.ReprRoads
import PyProof.ReprLen
import HandS.TupMul
import HandS.TryOnly
import KE.KSortTupG
import KE.KDictSum
import HandS.WordsExc
import HandS.Small
import HandS.ExcInit
import HandS.HotCalls
import HandS.ExcIs
import HandS.ExcField
import KE.KExcIs
import HandS.ExcCtx
import HandS.Hot
import HandS.MakeKwOnly
import HandS.ExcInitHot
import KE.KTryMore
import HandS.Lambda
import HandS.EndTab
import KE.KNestM
import KE.KExcInit
import HandS.Flow
import HandS.Head0
import HandS.Head1
import HandS.Head2
import HandS.HeadHook4
import HandS.FStr
import KE.KFmtOwn
import HandS.Sort
import HandS.Conv
import HandS.OwnEq
import PyProof.InstNe
import HandS.ExcOwn
import PyProof.FactsAll.int
import PyProof.FactsAll.bool
import PyProof.FactsAll.str
import PyProof.FactsAll.NoneType
import PyProof.FactsAll.list
import PyProof.FactsAll.tuple
import PyProof.FactsAll.dict
import PyProof.FactsAll.subtypes
import PyProof.NeKinds
import PyProof.Rows.Range3
import PyProof.Conv_bool
import KE.KDictKeyed
import KE.KDictDisplayH
import HandS.TupLen
import KE.SortCalls
import KE.SortData
import KE.DataMinMax
import HandS.More
import HandS.Dict
import PyProof.CollectIter
import PyProof.WalksMore
import HandS.ExcValue
import KE.KDictZip
import KE.GoesZip
import HandS.HeadHook3
import HandS.DictTup
import HandS.ListItems
import HandS.ReplaceLit
import PyProof.StrLawsOcc
import PyProof.TupleOps
import HandS.Set
import HandS.SetFor
import HandS.TupSets
import PyProof.ReprText
import HandS.WideMore
import PyProof.SetRoads
import KE.KDictCopyH
import PyProof.DictMoreH
import PySem.Challenge.RW_sincerung_k13_whole_histories_of_small_p
set_option Elab.async false
set_option linter.all false
set_option maxRecDepth 100000
set_option maxHeartbeats 4000000
theorem Bss {α : Type _} {β : Type _} (x : α) (f : α → Option β) : (some x).bind f = f x:=rfl
abbrev Fg:=PySem.W.Frag
section
namespace Kx
open PySem PySem.Spec PyProof.Rows L2
abbrev FX:=Fg→Bool
def fxOk (fs : List (List FX)) (K : Fg) : Bool:=fs.all fun l=>l.all fun f=>f K
theorem zT {fs : List (List FX)} {K : Fg} (h : fxOk fs K = true) (i j : Nat) {l : List FX} {f : FX} (e : fs[i]? = some l) (e2 : l[j]? = some f) : f K = true:=
  List.all_eq_true.mp (List.all_eq_true.mp h l (List.mem_of_getElem? e)) f (List.mem_of_getElem? e2)
theorem aB {fn : List He.DefD} {K : Fg} (D : fn.map (fun d=>He.fnW K d.at_) = fn.map He.DefD.val) (i : Nat) {d : He.DefD} (h : fn[i]? = some d) : He.fnW K d.at_ = d.val:=by
  have e : (fn.map fun d=>He.fnW K d.at_)[i]? = (fn.map He.DefD.val)[i]?:=by rw [D]
  rw [List.getElem?_map,List.getElem?_map,h] at e
  exact Option.some.inj e
def mK (x : Str) (i : Int) : FX:=fun K=>match PySem.W.nsIn K mainGlobals x with
  | some (some (.int j _))=>decide (j = i)
  | _=>false
theorem eK {K : Fg} {x : Str} {i : Int} (h : mK x i K = true) : ∃ t,PySem.W.nsIn K mainGlobals x = some (some (.int i t)):=by
  unfold mK at h
  split at h
  · next j t e=>exact ⟨t,by rw [e,of_decide_eq_true h]⟩
  · cases h
def xb (x z : Str) : FX:=fun K=>match PySem.W.nsIn K mainGlobals x with
  | some (some (.str y _))=>decide (y = z)
  | _=>false
theorem vM {K : Fg} {x z : Str} (h : xb x z K = true) : ∃ t,PySem.W.nsIn K mainGlobals x = some (some (.str z t)):=by
  unfold xb at h
  split at h
  · next j t e=>exact ⟨t,by rw [e,of_decide_eq_true h]⟩
  · cases h
def uf (p : He.Defn) (q : Str) : FX:=fun K=>match K.lookup (He.fAd K p) with
  | some ⟨_,_,.func fd,_⟩=>PySem.W.codeIn K fd.code q && (match fd.defaults with
    | .none=>true
    | _=>false)
  | _=>false
theorem kF {K : Fg} {p : He.Defn} {q nm qn : Str} {ar : Arguments} {bd : List Stmt} {sc : Scope} (e : He.fnW K p = some (nm,qn,ar,.stmts bd,sc,mainGlobals,[],builtinsNs)) (h : uf p q K = true) :
    ∃ oc od sl kV dc pm an cd ct,K.lookup (He.fAd K p) = some ⟨oc,od,.func (PySem.W.fnOf nm qn ar bd sc .none kV dc pm an cd ct),sl⟩∧PySem.W.codeIn K cd q = true:=by
  unfold uf at h
  unfold He.fnW at e
  split at h
  · next oc od fd sl e1=>
    rw [e1] at e
    obtain ⟨n1,n2,n3,n4,n5,n6,n7,n8,n9,n10,n11,n12,n13,n14,n15⟩:=fd
    obtain ⟨h1,h2⟩:=Bool.and_eq_true_iff.mp h
    have e2 : (some (n1,n2,n3,n4,n5,n6,n7,n15) : He.FnW) = some (nm,qn,ar,.stmts bd,sc,mainGlobals,[],builtinsNs):=e
    simp only [Option.some.injEq,Prod.mk.injEq] at e2
    obtain ⟨g1,g2,g3,g4,g5,g6,g7,g8⟩:=e2
    subst g1 g2 g3 g4 g5 g6 g7 g8
    dsimp only at h1 h2
    have h3 : n8 = .none:=by
      split at h2
      · rfl
      · cases h2
    subst h3
    exact ⟨oc,od,sl,n9,n10,n11,n12,n13,n14,e1,h1⟩
  · cases h
def tM (p : He.Defn) (q : Str) : FX:=fun K=>match K.lookup (He.fAd K p) with
  | some ⟨_,_,.func fd,_⟩=>PySem.W.codeIn K fd.code q && (match fd.defaults with
    | .ref T=>(match K.lookup T with
      | some ⟨_,_,.seq its _,_⟩=>(match its.toList with
        | [.ref _]=>true
        | _=>false)
      | _=>false)
    | _=>false)
  | _=>false
theorem rb {K : Fg} {p : He.Defn} {q nm qn : Str} {ar : Arguments} {bd : List Stmt} {sc : Scope} (e : He.fnW K p = some (nm,qn,ar,.stmts bd,sc,mainGlobals,[],builtinsNs)) (h : tM p q K = true) :
    ∃ oc od sl kV dc pm an cd ct T E cc dt nt st,K.lookup (He.fAd K p) = some ⟨oc,od,.func (PySem.W.fnOf nm qn ar bd sc (.ref T) kV dc pm an cd ct),sl⟩∧PySem.W.codeIn K cd q = true∧K.lookup T = some ⟨cc,dt,.seq #[.ref E] nt,st⟩∧E = He.dflAt p 0 K:=by
  unfold tM at h
  unfold He.fnW at e
  split at h
  · next oc od fd sl e1=>
    rw [e1] at e
    obtain ⟨n1,n2,n3,n4,n5,n6,n7,n8,n9,n10,n11,n12,n13,n14,n15⟩:=fd
    obtain ⟨h1,h2⟩:=Bool.and_eq_true_iff.mp h
    have e2 : (some (n1,n2,n3,n4,n5,n6,n7,n15) : He.FnW) = some (nm,qn,ar,.stmts bd,sc,mainGlobals,[],builtinsNs):=e
    simp only [Option.some.injEq,Prod.mk.injEq] at e2
    obtain ⟨g1,g2,g3,g4,g5,g6,g7,g8⟩:=e2
    subst g1 g2 g3 g4 g5 g6 g7 g8
    dsimp only at h1 h2
    split at h2
    · next T=>
      split at h2
      · next cc dt its nt st e3=>
        split at h2
        · next E e4=>
          obtain ⟨l⟩:=its
          dsimp only at e4
          subst e4
          refine ⟨oc,od,sl,n9,n10,n11,n12,n13,n14,T,E,cc,dt,nt,st,e1,h1,e3,?_⟩
          unfold He.dflAt
          rw [e1]
          dsimp only
          rw [e3]
          rfl
        · cases h2
      · cases h2
    · cases h2
  · cases h
def nQ : List Addr→Nat→Nat×List Addr
  | [],m=>(m,[])
  | a :: r,m=>bif Nat.beq (Nat.land (Nat.shiftRight m a) 1) 1 then nQ r m else
    match nQ r (Nat.lor m (Nat.shiftLeft 1 a)) with
    | (m2,l)=>(m2,a :: l)
def Co (g : Addr→Option Obj) (a : Addr) : List Addr:=match g a with
  | some o=>He.refsD o
  | none=>[]
def rC (g : Addr→Option Obj) : Nat→List Addr→Nat→List Addr
  | 0,fr,_=>fr
  | n + 1,fr,m=>match nQ (fr.flatMap (Co g)) m with
    | (m2,l)=>fr ++ rC g n l m2
def asY (g : Addr→Option Obj) (n : Nat) : List Addr:=cStatics :: rC g n [mainGlobals] (Nat.shiftLeft 1 mainGlobals)
abbrev frY (g : Addr→Option Obj) (n : Nat) : Fg:=He.frT g (asY g n)
def obsY (n : Nat) (fn : List He.DefD) (ts : List He.Tab) (tf : List He.Defn) (ex : FX) (g : Addr→Option Obj) : He.AlX:=(fun K=>(He.obsT [] fn ts K,ex K && He.tabsB g tf K)) (frY g n)
theorem rm {n : Nat} {fn : List He.DefD} {ts : List He.Tab} {tf : List He.Defn} {ex : FX} {w : World} {h : Heap} (e : obsY n fn ts tf ex h.get? = He.valX fn ts w) : He.SaysX [] fn ts tf ex w h (frY h.get? n):=by
  have e1 : He.obsT [] fn ts (frY h.get? n) = He.valT fn ts w:=congrArg (fun z : He.AlX=>z.1) e
  have e2 : (ex (frY h.get? n) && He.tabsB h.get? tf (frY h.get? n)) = true:=congrArg (fun z : He.AlX=>z.2) e
  obtain ⟨h1,h2⟩:=Bool.and_eq_true_iff.mp e2
  have key : ∀ p ∈ tf,PySem.W.codeHdIn (frY h.get? n) (He.cT (frY h.get? n) p).1 (He.cT (frY h.get? n) p).2 = true∧∃ o,h.get? (He.cT (frY h.get? n) p).2 = some o∧He.emptyTab o = true:=fun p hp=>by
    obtain ⟨h3,h4⟩:=Bool.and_eq_true_iff.mp (List.all_eq_true.mp h2 p hp)
    refine ⟨h3,?_⟩
    cases q : h.get? (He.cT (frY h.get? n) p).2 with
    | none=>
      rw [q] at h4
      cases h4
    | some o=>
      rw [q] at h4
      exact ⟨o,rfl,h4⟩
  exact ⟨e1,h1,fun p hp=>(key p hp).1,fun p hp=>by
    obtain ⟨_,o,q,z⟩:=key p hp
    exact He.frT_none q z,fun p hp=>by
    obtain ⟨_,o,q,z⟩:=key p hp
    rw [q,He.emptyTab_eq z]⟩
def hookY (n : Nat) (fn : List He.DefD) (ts : List He.Tab) (tf : List He.Defn) (ex : FX) : PySem.W.Hook where
  α:=He.AlX
  obs:=fun s=>obsY n fn ts tf ex s.heap.get?
  val:=fun w=>He.valX fn ts w
  says:=fun w h=>∃ K : Fg,K.In h∧He.SaysX [] fn ts tf ex w h K
  of:=fun _ _ e=>⟨_,He.frT_in,rm e⟩
  keeps:=fun _ _ _ ⟨K,hK,c⟩ k=>⟨K,PySem.W.Frag.In.keeps hK k,⟨c.t,c.more,c.hd,c.out,fun p hp=>k _ _ (c.empty p hp)⟩⟩
theorem obsY_eq {n : Nat} {fn : List He.DefD} {ts : List He.Tab} {tf : List He.Defn} {ex : FX} {g : Addr→Option Obj} {s : Shared} (h : ∀ a,g a = s.heap.get? a) : obsY n fn ts tf ex g = (hookY n fn ts tf ex).obs s:=by
  have e : g = s.heap.get?:=funext h
  rw [e] <;> rfl
def runA (r : PySem.W.OpenRow) (q : Program) (fn : List He.DefD) (ts : List He.Tab) (ob : PySem.W.SharedT→He.AlX) (M : Nat) (loose : List Str) (w : World) : Prop:=
  ∀ os : OsState,Option.map (fun s=>(HandSHeadRun.looksF r.prog (PySem.W.boot_heap w.params) s.abs,HandSHeadRun.seenQ q loose (importedModules r.prog.main.body) (fun s=>PySem.W.xlAt q [] s && PySem.W.recOk r.records s) s.abs,(ob s).1)) (HandSHeadRun.endF (HandSHeadRun.stepQ (HandSHeadRun.denQ HandSHeadRun.tabQ) r.prog w) M r.prog w os) = some (true,PySem.W.openGood q loose,(He.valX fn ts w).1)
def runB (r : PySem.W.OpenRow) (fn : List He.DefD) (ts : List He.Tab) (ob : PySem.W.SharedT→He.AlX) (M : Nat) (w : World) : Prop:=
  ∀ os : OsState,Option.map (fun s=>(ob s).2) (HandSHeadRun.endF (HandSHeadRun.stepQ (HandSHeadRun.denQ HandSHeadRun.tabQ) r.prog w) M r.prog w os) = some (He.valX fn ts w).2
theorem runAB {r : PySem.W.OpenRow} {q : Program} {n : Nat} {fn : List He.DefD} {ts : List He.Tab} {tf : List He.Defn} {ex : FX} {ob : PySem.W.SharedT→He.AlX} {M : Nat} {loose : List Str} {w : World}
    (A : runA r q fn ts ob M loose w) (B : runB r fn ts ob M w) : HandSHeadRun.RunEq r q (hookY n fn ts tf ex) ob M loose w:=by
  intro os
  have a:=A os
  have b:=B os
  show Option.map (fun s=>(HandSHeadRun.looksF r.prog (PySem.W.boot_heap w.params) s.abs,HandSHeadRun.seenQ q loose (importedModules r.prog.main.body) (fun s=>PySem.W.xlAt q [] s && PySem.W.recOk r.records s) s.abs,(ob s : He.AlX))) _ = some (true,PySem.W.openGood q loose,(He.valX fn ts w : He.AlX))
  generalize HandSHeadRun.endF (HandSHeadRun.stepQ (HandSHeadRun.denQ HandSHeadRun.tabQ) r.prog w) M r.prog w os = e at a b ⊢
  cases e with
  | none=>cases a
  | some s=>
    simp only [Option.map_some,Option.some.injEq,Prod.mk.injEq] at a b ⊢
    exact ⟨a.1,a.2.1,Prod.ext a.2.2 b⟩
def runC (r : PySem.W.OpenRow) (b : PySem.W.SharedT→Bool) (M : Nat) (w : World) : Prop:=
  ∀ os : OsState,Option.map b (HandSHeadRun.endF (HandSHeadRun.stepQ (HandSHeadRun.denQ HandSHeadRun.tabQ) r.prog w) M r.prog w os) = some true
theorem runCC {r : PySem.W.OpenRow} {b c d : PySem.W.SharedT→Bool} {M : Nat} {w : World} (hb : ∀ s,b s = (c s && d s)) (C : runC r c M w) (D : runC r d M w) : runC r b M w:=by
  intro os
  have x:=C os
  have y:=D os
  generalize HandSHeadRun.endF (HandSHeadRun.stepQ (HandSHeadRun.denQ HandSHeadRun.tabQ) r.prog w) M r.prog w os = e at x y ⊢
  cases e with
  | none=>cases x
  | some s=>
    simp only [Option.map_some,Option.some.injEq] at x y ⊢
    rw [hb,x,y]
    rfl
theorem runCB {r : PySem.W.OpenRow} {fn : List He.DefD} {ts : List He.Tab} {ob : PySem.W.SharedT→He.AlX} {b : PySem.W.SharedT→Bool} {M : Nat} {w : World} (hb : ∀ s,(ob s).2 = b s) (C : runC r b M w) : runB r fn ts ob M w:=by
  intro os
  have x:=C os
  generalize HandSHeadRun.endF (HandSHeadRun.stepQ (HandSHeadRun.denQ HandSHeadRun.tabQ) r.prog w) M r.prog w os = e at x ⊢
  cases e with
  | none=>cases x
  | some s=>
    simp only [Option.map_some,Option.some.injEq] at x ⊢
    rw [hb,x]
    rfl
def obB (n : Nat) (xs : List (List FX)) (s : PySem.W.SharedT) : Bool:=fxOk xs (frY (HandSHeadRun.getT s) n)
def obBT (n : Nat) (xs : List (List FX)) (tf : List He.Defn) (s : PySem.W.SharedT) : Bool:=fxOk xs (frY (HandSHeadRun.getT s) n) && He.tabsB (HandSHeadRun.getT s) tf (frY (HandSHeadRun.getT s) n)
theorem obBT_cut {n : Nat} {xs ys : List (List FX)} {tf : List He.Defn} (s : PySem.W.SharedT) : obBT n (xs ++ ys) tf s = (obB n xs s && obBT n ys tf s):=by
  unfold obBT obB fxOk
  rw [List.all_append,Bool.and_assoc]
end Kx
end
section
namespace Kx
open PySem PySem.Spec PyProof.Rows L2
end Kx
namespace Kx
open PySem PySem.Spec PyProof.Rows L2
end Kx
end
section
namespace Kx
open PySem PySem.Spec PyProof.Rows L2
def hG (x : Str) (st : Stmt) : He.DefD:=⟨(x,none),x,x,defArgs st,defBody st,defScope st,[],[]⟩
def hM (C m q : Str) (st : Stmt) : He.DefD:=⟨(C,some m),m,q,defArgs st,defBody st,defScope st,[],[]⟩
def fFn (x : Str) : FX:=fun K=>uf (x,none) x K && (He.eqO (PySem.W.nsIn K mainGlobals x) (some (some (.ref (He.fAd K (x,none))))) && PySem.W.keepIn K (.ref (He.fAd K (x,none))))
def fMe (C m q : Str) : FX:=fun K=>uf (C,some m) q K && (He.eqO (PySem.W.findIn K (.ref (He.ga K C)) m) (some (some (.ref (He.fAd K (C,some m))))) && (PySem.W.isFn K (.ref (He.fAd K (C,some m))) && PySem.W.keepIn K (.ref (He.fAd K (C,some m)))))
def FnG (K : Fg) (f : Addr) (x : Str) (st : Stmt) : Prop:=PySem.W.nsIn K mainGlobals x = some (some (.ref f))∧∃ d,Fun K x x st f d
def MeG (K : Fg) (c f : Addr) (m q : Str) (st : Stmt) : Prop:=PySem.W.findIn K (.ref c) m = some (some (.ref f))∧PySem.W.isFn K (.ref f) = true∧PySem.W.keepIn K (.ref f) = true∧∃ d,Fun K m q st f d
theorem aD {K : Fg} {x : Str} {st : Stmt} (e : He.fnW K (hG x st).at_ = (hG x st).val) (h : fFn x K = true) : FnG K (He.fAd K (x,none)) x st:=by
  unfold fFn at h
  rw [Bool.and_eq_true,Bool.and_eq_true] at h
  obtain ⟨h1,h2,h3⟩:=h
  obtain ⟨oc,od,sl,kV,dc,pm,an,cd,ct,l,c⟩:=kF (p:=(x,none)) (q:=x) (nm:=x) (qn:=x) (ar:=defArgs st) (bd:=defBody st) (sc:=defScope st) e h1
  exact ⟨He.eqO_ok h2,_,fun_mk l c h3⟩
theorem tI {K : Fg} {C m q : Str} {st : Stmt} (e : He.fnW K (hM C m q st).at_ = (hM C m q st).val) (h : fMe C m q K = true) : MeG K (He.ga K C) (He.fAd K (C,some m)) m q st:=by
  unfold fMe at h
  rw [Bool.and_eq_true,Bool.and_eq_true,Bool.and_eq_true] at h
  obtain ⟨h1,h2,h3,h4⟩:=h
  obtain ⟨oc,od,sl,kV,dc,pm,an,cd,ct,l,c⟩:=kF (p:=(C,some m)) (q:=q) (nm:=m) (qn:=q) (ar:=defArgs st) (bd:=defBody st) (sc:=defScope st) e h1
  exact ⟨He.eqO_ok h2,h3,h4,_,fun_mk l c h4⟩
end Kx
end
section
namespace H13
open PySem L2 Kx
def aA (i : Nat) : Stmt:=PySem.Challenge.pw_sincerung_k13_whole_histories_of_small_p.main.body.getD i (.Pass ⟨0,0,0,0⟩)
abbrev lB : Stmt:=aA 22
abbrev lj : Stmt:=aA 23
abbrev jI : Stmt:=aA 24
abbrev lV : Stmt:=aA 26
abbrev si : Stmt:=aA 27
abbrev jh : Stmt:=aA 28
abbrev sI : Stmt:=aA 29
abbrev fD : Stmt:=inClass (aA 30) 0
abbrev tL : Stmt:=aA 31
abbrev ug : Stmt:=aA 32
abbrev mq : Stmt:=aA 33
abbrev pG : Stmt:=inClass (aA 30) 1
abbrev se : Stmt:=inClass (aA 30) 3
abbrev jt : Stmt:=aA 35
abbrev pD : Stmt:=aA 36
abbrev rF : Stmt:=aA 37
abbrev rL : Stmt:=aA 39
abbrev lA : Stmt:=aA 38
abbrev sL : Stmt:=aA 40
abbrev uk : Stmt:=aA 41
abbrev mL : Stmt:=aA 42
abbrev me : Stmt:=aA 43
abbrev hU : Stmt:=aA 44
abbrev gZ : Stmt:=aA 45
abbrev jx : Stmt:=aA 47
abbrev jn : Stmt:=aA 48
abbrev ly : Stmt:=aA 49
abbrev lJ : Stmt:=aA 50
abbrev kZ : Stmt:=aA 51
abbrev lQ : Stmt:=aA 52
abbrev qC : Stmt:=aA 54
abbrev lS : Stmt:=aA 55
abbrev rD : Stmt:=aA 56
abbrev mT : Stmt:=aA 57
abbrev tO : Stmt:=aA 58
abbrev iC : Stmt:=aA 59
abbrev pY : Stmt:=aA 60
abbrev jr : Stmt:=aA 61
abbrev pW : Stmt:=aA 62
abbrev pL : Stmt:=aA 63
abbrev iM : Stmt:=aA 64
abbrev pw : Stmt:=aA 65
abbrev jo : Stmt:=aA 66
abbrev oi : Stmt:=aA 67
abbrev ni : Stmt:=aA 68
abbrev hW : Stmt:=aA 69
abbrev qi : Stmt:=aA 70
abbrev pA : Stmt:=aA 71
abbrev uc : Stmt:=aA 72
abbrev c0 : Stmt:=aA 73
def fx0 : FX:=fFn "is_whole"
def fx1 : FX:=fFn "is_within"
def fx2 : FX:=fFn "is_name"
def fx3 : FX:=fFn "is_bell"
def fx4 : FX:=fFn "check_bells"
def fx5 : FX:=fFn "is_notch"
def fx6 : FX:=fFn "check_notches"
def fx7 : FX:=tM ("Peal",some "__init__") "Peal.__init__"
def fx8 : FX:=fFn "check_peal"
def fx9 : FX:=fFn "check_name"
def zn : FX:=fFn "check_two"
def Bk : FX:=fMe "Peal" "names" "Peal.names"
def BK : FX:=fMe "Peal" "notch" "Peal.notch"
def AG : FX:=fFn "fits_row"
def Ax : FX:=fFn "fits_dials"
def BN : FX:=fFn "fits_standing"
def Br : FX:=fFn "check_standing"
def zF : FX:=fFn "check_row"
def zv : FX:=fFn "check_rings"
def AT : FX:=fFn "row_behind"
def BV : FX:=fFn "rung_of"
def Ak : FX:=fFn "gone_of"
def zP : FX:=fFn "gone"
def BA : FX:=fFn "flips"
def B2 : FX:=fFn "ahead_in"
def Cq : FX:=fFn "dials_of"
def zI : FX:=fFn "bridge_of"
def zm : FX:=fFn "swing_of"
def y3 : FX:=fFn "bridge"
def zb : FX:=fFn "swing"
def CD : FX:=fFn "_law_opened"
def Aq : FX:=fFn "_law_pull"
def zO : FX:=fFn "_law_spelt"
def AL : FX:=fFn "_law_calls"
def zB : FX:=fFn "_law_figure"
def zh : FX:=fFn "_law_kit"
def zA : FX:=fFn "_law_table"
def za : FX:=fFn "_law_line"
def ze : FX:=fFn "_law_stand"
def zt : FX:=fFn "_law_strokes"
def Cc : FX:=fFn "_law_twos"
def CC : FX:=fFn "_law_all_strokes"
def Ca : FX:=fFn "_law_on"
def zi : FX:=fFn "_law_bridge"
def zM : FX:=fFn "_law_swing"
def AH : FX:=fFn "_law_came"
def zl : FX:=fFn "_law_rests"
def A4 : FX:=fFn "_law_one_right"
def AD : FX:=fFn "_law_right"
def B0 : FX:=uf ("law",none) "law"
def AS : FX:=fun K=>He.eqO (PySem.W.nsIn K mainGlobals "Peal") (some (some (.ref (He.ga K "Peal"))))
def A6 : FX:=fun K=>PySem.W.plainGet K (He.ga K "Peal") Str.empty
def Ai : FX:=fun K=>PySem.W.hasDictIn K (He.ga K "Peal")
def BD : FX:=fun K=>PySem.W.plainOver K (He.ga K "Peal")
def Cg : FX:=fun K=>He.eqO (PySem.W.findIn K (.ref (He.ga K "Peal")) "__setattr__") (some (some (.builtin "object.__setattr__")))
def zZ : FX:=fun K=>PySem.W.makesIn K (He.ga K "Peal")
def Cs : FX:=fun K=>PySem.W.keepIn K (.ref (He.ga K "Peal"))
def AX : FX:=fun K=>He.eqO (PySem.W.findIn K (.ref (He.ga K "Peal")) "__class__") (some (some (.builtin "object.__class__")))
def BU : FX:=fun K=>He.eqO (PySem.W.specialIn K (.builtin "object.__class__") "__get__") (some (some (.builtin "getset_descriptor.__get__")))
def AK : FX:=fun K=>decide (PySem.W.takesIn K (.builtin "object.__class__") = some true)
def Ct : FX:=fun K=>decide (PySem.W.mroIn K (He.ga K "Peal") (.type "object") = some true)
def AU : FX:=fun K=>He.eqO (PySem.W.findIn K (.ref (He.ga K "Peal")) "bells") (some none)
def By : FX:=fun K=>He.eqO (PySem.W.findIn K (.ref (He.ga K "Peal")) "notches") (some none)
def y5 : FX:=fun K=>He.eqO (PySem.W.findIn K (.ref (He.ga K "Peal")) "sizes") (some none)
def BG : FX:=fun K=>He.eqO (PySem.W.findIn K (.ref (He.ga K "Peal")) "turning") (some none)
def Cz : FX:=fun K=>He.eqO (PySem.W.findIn K (.ref (He.ga K "Peal")) "__init__") (some (some (.ref (He.fAd K ("Peal",some "__init__")))))
def BP : FX:=fun K=>PySem.W.isFn K (.ref (He.fAd K ("Peal",some "__init__")))
def AC : FX:=fun K=>PySem.W.keepIn K (.ref (He.fAd K ("Peal",some "__init__")))
def zk : FX:=fun K=>He.eqO (PySem.W.nsIn K mainGlobals "law") (some (some (.ref (He.fAd K ("law",none)))))
def B3 : FX:=fun K=>PySem.W.keepIn K (.ref (He.fAd K ("law",none)))
def Ag : FX:=fun K=>He.eqO (PySem.W.nsIn K mainGlobals "int") (some none)
def Bv : FX:=fun K=>He.eqO (PySem.W.nsIn K mainGlobals "isinstance") (some none)
def Be : FX:=fun K=>He.eqO (PySem.W.nsIn K mainGlobals "bool") (some none)
def CF : FX:=fun K=>He.eqO (PySem.W.nsIn K mainGlobals "str") (some none)
def zj : FX:=fun K=>He.eqO (PySem.W.nsIn K mainGlobals "len") (some none)
def Bw : FX:=fun K=>He.eqO (PySem.W.nsIn K mainGlobals "all") (some none)
def Bl : FX:=fun K=>He.eqO (PySem.W.nsIn K mainGlobals "tuple") (some none)
def BW : FX:=fun K=>He.eqO (PySem.W.nsIn K mainGlobals "enumerate") (some none)
def A7 : FX:=fun K=>He.eqO (PySem.W.nsIn K mainGlobals "dict") (some none)
def Cj : FX:=fun K=>He.eqO (PySem.W.nsIn K mainGlobals "sorted") (some none)
def AZ : FX:=fun K=>He.eqO (PySem.W.nsIn K mainGlobals "zip") (some none)
def BZ : FX:=fun K=>He.eqO (PySem.W.nsIn K mainGlobals "min") (some none)
def Az : FX:=fun K=>He.eqO (PySem.W.nsIn K mainGlobals "max") (some none)
def BB : FX:=fun K=>He.eqO (PySem.W.nsIn K mainGlobals "abs") (some none)
def Ar : FX:=fun K=>He.eqO (PySem.W.nsIn K mainGlobals "divmod") (some none)
def B9 : FX:=fun K=>He.eqO (PySem.W.nsIn K mainGlobals "range") (some none)
def BO : FX:=fun K=>He.eqO (PySem.W.nsIn K mainGlobals "list") (some none)
def AY : FX:=mK "MOST_LETTERS" (6)
def Bu : FX:=xb "LETTERS" "abcdefghijklmnopqrstuvwxyz"
def AA : FX:=mK "LEAST_MARKS" (2)
def A1 : FX:=mK "MOST_MARKS" (24)
def Bh : FX:=mK "MOST_BELLS" (8)
def Cu : FX:=mK "MOST_NUMBER" (99)
def CA : FX:=mK "MOST_RINGS" (400)
def hx0 : List FX:=[fx0,fx1,fx2,fx3,fx4,fx5,fx6,fx7,fx8,fx9,zn,Bk,BK,AG,Ax,BN,Br,zF,zv,AT]
def hx1 : List FX:=[BV,Ak,zP,BA,B2,Cq,zI,zm,y3,zb,CD,Aq,zO,AL,zB,zh,zA,za,ze,zt]
def hx2 : List FX:=[Cc,CC,Ca,zi,zM,AH,zl,A4,AD,B0,AS,A6,Ai,BD,Cg,zZ,Cs,AX,BU,AK]
def hx3 : List FX:=[Ct,AU,By,y5,BG,Cz,BP,AC,zk,B3,Ag,Bv,Be,CF,zj,Bw,Bl,BW,A7,Cj]
def hx4 : List FX:=[AZ,BZ,Az,BB,Ar,B9,BO,AY,Bu,AA,A1,Bh,Cu,CA]
def hxs : List (List FX):=[hx0,hx1,hx2,hx3,hx4]
def hd0 : He.DefD:=hG "is_whole" lB
def hd1 : He.DefD:=hG "is_within" lj
def hd2 : He.DefD:=hG "is_name" jI
def hd3 : He.DefD:=hG "is_bell" lV
def hd4 : He.DefD:=hG "check_bells" si
def hd5 : He.DefD:=hG "is_notch" jh
def hd6 : He.DefD:=hG "check_notches" sI
def hd7 : He.DefD:=⟨("Peal",some "__init__"),"__init__","Peal.__init__",defArgs fD,defBody fD,defScope fD,[.adr (He.dflAt ("Peal",some "__init__") 0)],[]⟩
def hd8 : He.DefD:=hG "check_peal" tL
def hd9 : He.DefD:=hG "check_name" ug
def Bf : He.DefD:=hG "check_two" mq
def zx : He.DefD:=hM "Peal" "names" "Peal.names" pG
def B7 : He.DefD:=hM "Peal" "notch" "Peal.notch" se
def zY : He.DefD:=hG "fits_row" jt
def Av : He.DefD:=hG "fits_dials" pD
def zK : He.DefD:=hG "fits_standing" rF
def A2 : He.DefD:=hG "check_standing" rL
def BS : He.DefD:=hG "check_row" lA
def zD : He.DefD:=hG "check_rings" sL
def A0 : He.DefD:=hG "row_behind" uk
def BL : He.DefD:=hG "rung_of" mL
def zE : He.DefD:=hG "gone_of" me
def CB : He.DefD:=hG "gone" hU
def A8 : He.DefD:=hG "flips" gZ
def A3 : He.DefD:=hG "ahead_in" jx
def BY : He.DefD:=hG "dials_of" jn
def Bn : He.DefD:=hG "bridge_of" ly
def Ah : He.DefD:=hG "swing_of" lJ
def zg : He.DefD:=hG "bridge" kZ
def zL : He.DefD:=hG "swing" lQ
def zq : He.DefD:=hG "_law_opened" qC
def Bx : He.DefD:=hG "_law_pull" lS
def Ci : He.DefD:=hG "_law_spelt" rD
def zC : He.DefD:=hG "_law_calls" mT
def Ao : He.DefD:=hG "_law_figure" tO
def BH : He.DefD:=hG "_law_kit" iC
def zQ : He.DefD:=hG "_law_table" pY
def zG : He.DefD:=hG "_law_line" jr
def BC : He.DefD:=hG "_law_stand" pW
def Bj : He.DefD:=hG "_law_strokes" pL
def zy : He.DefD:=hG "_law_twos" iM
def zr : He.DefD:=hG "_law_all_strokes" pw
def Ae : He.DefD:=hG "_law_on" jo
def B4 : He.DefD:=hG "_law_bridge" oi
def Ce : He.DefD:=hG "_law_swing" ni
def BE : He.DefD:=hG "_law_came" hW
def AV : He.DefD:=hG "_law_rests" qi
def BI : He.DefD:=hG "_law_one_right" pA
def yW : He.DefD:=hG "_law_right" uc
def Ay : He.DefD:=⟨("law",none),"law","law",defArgs c0,defBody c0,defScope c0,[],[]⟩
def CL : List He.DefD:=[hd0,hd1,hd2,hd3,hd4,hd5,hd6,hd7,hd8,hd9,Bf,zx,B7,zY,Av,zK,A2,BS,zD,A0]
def CJ : List He.DefD:=[BL,zE,CB,A8,A3,BY,Bn,Ah,zg,zL,zq,Bx,Ci,zC,Ao,BH,zQ,zG,BC,Bj]
def CI : List He.DefD:=[zy,zr,Ae,B4,Ce,BE,AV,BI,yW,Ay]
abbrev hfn : List He.DefD:=CL ++ (CJ ++ (CI))
abbrev htf : List He.Defn:=[]
abbrev hts : List He.Tab:=[]
end H13
namespace H13
open PySem PySem.W PySem.Calls PyProof.Rows
abbrev hR : OpenRow:=OpenLaw.row PySem.Challenge.rw_sincerung_k13_whole_histories_of_small_p
abbrev hqv : Program:=view hR.prog [73]
def hn0 : List PySem.Str:=["_wall","MOST_BELLS","MOST_LETTERS","LEAST_MARKS","MOST_MARKS","MOST_NUMBER","MOST_RINGS","LETTERS","BellError","LostError","GreatError","NoPeal","NoBells","NoNotches","NoStanding","NoRow","NoRings","NoNumber","NoName","TooMany"]
def hn1 : List PySem.Str:=["is_whole","is_within","is_name","is_bell","check_bells","is_notch","check_notches","Peal","check_peal","check_name","check_two","fits_row","fits_dials","fits_standing","check_row","check_standing","check_rings","row_behind","rung_of","gone_of"]
def hn2 : List PySem.Str:=["gone","flips","ahead_in","dials_of","bridge_of","swing_of","bridge","swing","_law_opened","_law_pull","_law_spelt","_law_calls","_law_figure","_law_kit","_law_table","_law_line","_law_stand","_law_strokes","_law_twos","_law_all_strokes"]
def hn3 : List PySem.Str:=["_law_on","_law_bridge","_law_swing","_law_came","_law_rests","_law_one_right","_law_right"]
abbrev hnames : List PySem.Str:=hn0 ++ hn1 ++ hn2 ++ hn3
abbrev hhk : Hook:=Kx.hookY 5 hfn hts htf (Kx.fxOk hxs)
def hob (s : SharedT) : He.AlX:=Kx.obsY 5 hfn hts htf (Kx.fxOk hxs) (HandSHeadRun.getT s)
theorem hob_eq (s : SharedT) : hob s = hhk.obs s.abs:=Kx.obsY_eq (HandSHeadRun.getT_eq s)
set_option maxHeartbeats 0 in
theorem Cf (w : World) : Kx.runA hR hqv hfn hts hob 30000 hnames w:=by
 intro os
 kernel_rfl
set_option maxHeartbeats 0 in
theorem yy (w : World) : Kx.runC hR (Kx.obB 5 [hx0]) 30000 w:=by
 intro os
 kernel_rfl
set_option maxHeartbeats 0 in
theorem yl (w : World) : Kx.runC hR (Kx.obB 5 [hx1,hx2]) 30000 w:=by
 intro os
 kernel_rfl
set_option maxHeartbeats 0 in
theorem xJ (w : World) : Kx.runC hR (Kx.obBT 5 [hx3,hx4] htf) 30000 w:=by
 intro os
 kernel_rfl
theorem zU (w : World) : Kx.runB hR hfn hts hob 30000 w:=Kx.runCB (b:=Kx.obBT 5 hxs htf) (fun _=>rfl) (Kx.runCC (b:=Kx.obBT 5 ([hx0] ++ [hx1,hx2,hx3,hx4]) htf) Kx.obBT_cut (yy w) (Kx.runCC (b:=Kx.obBT 5 ([hx1,hx2] ++ [hx3,hx4]) htf) Kx.obBT_cut (yl w) (xJ w)))
theorem hrun (w : World) : HandSHeadRun.RunEq hR hqv hhk hob 30000 hnames w:=Kx.runAB (Cf w) (zU w)
theorem hl0 : sreFenced hR.prog.main = true:=by decide +kernel
theorem hl1 : ((moduleNames hR.prog.main.body).isEmpty || lookedIntoSs (moduleNames hR.prog.main.body) hR.prog.main.body) = true:=by decide +kernel
theorem hl2 : namesResolve hR.prog = true:=by decide +kernel
theorem hl3 : hR.prog.boundNames.all (fun n=>!worldNames.contains n) = true:=by decide +kernel
theorem hl4 : noRoadLSs { strict:=!(importedModules hR.prog.main.body).all cThrough.contains,foot:=none,bare:=(["vars","dir","locals"] : List PySem.Str).filter (readsOut hR.prog hR.prog.main.body) } hR.prog.main.body = true:=by decide +kernel
theorem hl5 : (namesMeet hR.prog hR.prog.main.body fun _ n=>attrL n) = true:=by decide +kernel
theorem BQ : looksOpen hR.prog = true:=by
 unfold looksOpen
 rw [hl0,hl1,hl2,hl3,hl4,hl5]
 rfl
theorem Aa : hR.partSaid = true:=by
 unfold OpenRow.partSaid
 rw [BQ]
 decide +kernel
theorem hwell : hR.wellSaid = true:=by
 unfold OpenRow.wellSaid
 rw [Aa]
 decide +kernel
theorem hok1 : (chainsOk hqv && opensWell hR.prog && (frees hR.toRowW && hR.within.isEmpty)) = true:=by decide +kernel
theorem hopen : opening hR.prog = plainProg hR.prog.main.scope.names:=by kernel_rfl
theorem hbare : hR.prog.bare:=⟨rfl,rfl,rfl,rfl,rfl,by decide +kernel⟩
end H13
end
section
namespace Kx
open PySem L2 PySem.Spec PyProof.Rows
section
variable {X : Cx} {K : Fg}
theorem kQ {P : Program} {w : World} {H : Hp} {h : Heap} {xs : List V} {its : List Value} (hz : xs.length ≤ sizeLine) (r : Vals xs its) :
    ObjOk P w H (h.push { cls:=.type "tuple",data:=.seq its.toArray }) h.objs.size (.frz { cls:=.type "tuple",data:=.seq its.toArray } (.tup xs)):=
  ⟨Heap.get?_push_size _ rfl,hz,its,r,⟨_,Heap.get?_push_size _ rfl,rfl,_,rfl⟩⟩
def wC (t : TA) : TE:=fun σ H Q=>t σ H fun xs H1=>xs.length ≤ sizeLine∧∀ p o,H1 p = none→o.dict = none→Q (.ref p) (upd H1 p (.frz o (.tup xs)))
theorem bE {es : List Expr} {t : TA} {pos : Pos} {x1} (h : PA X es t) : PE X (.Tuple es x1 pos) (wC t):=by
  refine ⟨fun pins s σ H Q I hq=>?_⟩
  refine wpAny_Tuple_spliced (thn (h.run pos pins s σ H _ I hq) fun us s1 ⟨xs,H1,I1,r,z,q⟩=>⟨by rw [← r.length]; exact z,?_⟩)
  exact ⟨.ref s1.heap.objs.size,_,I1.laid (t':=s1.toks) (fun b u e=>Heap.get?_push_of_some _ e) (Nat.le_refl _) (kQ z r),rfl,q _ _ (I1.hok.fresh (Nat.le_refl _)) rfl⟩
def ib (K : Fg) : List V→Hp→VK→Prop:=fun xs H Q=>∃ p ys,xs = [.ref p]∧((SqL K H p ys∧∀ l o,H l = none→o.dict = none→Q (.ref l) (upd H l (.frz o (.tup ys))))∨(SqT K H p ys∧Q (.ref p) H))
theorem pK : CallR X (.type "tuple") (ib X.K):=by
  intro pins s σ H xs us Q I r h
  obtain ⟨p,ys,rfl,h⟩:=h
  obtain ⟨u,rfl,rx⟩:=vals1 r
  cases rx
  rcases h with ⟨hq,q⟩ | ⟨hq,q⟩
  · obtain ⟨its,r1,pl,hz⟩:=I.list hq
    have hl:=r1.length
    refine call_tuple_list pl.isList (fun h1 kp=>?_) (by simp only [List.size_toArray] <;> omega)
    have I1 : Inv X pins σ H { s with heap:=h1 }:=I.kept (t':=s.toks) kp
    exact ⟨.ref h1.objs.size,_,I1.laid (t':=s.toks) (fun b o e=>Heap.get?_push_of_some _ e) (Nat.le_refl _) (kQ hz r1),rfl,q _ _ (I1.hok.fresh (Nat.le_refl _)) rfl⟩
  · obtain ⟨its,r1,pl,_⟩:=I.tuple hq
    exact call_tuple_same pl ⟨.ref p,H,I,rfl,q⟩
def oI (K : Fg) : R2:=fun x y H Q=>∃ a b xs ys,x = .ref a∧y = .ref b∧SqT K H a xs∧SqT K H b ys∧xs.length + ys.length ≤ sizeLine∧
  (xs = []→Q (.ref b) H)∧(xs ≠ []→ys = []→Q (.ref a) H)∧(xs ≠ []→ys ≠ []→∀ p o,H p = none→o.dict = none→Q (.ref p) (upd H p (.frz o (.tup (xs ++ ys)))))
theorem vW : OpR X (binaryOp .Add) (oI X.K):=by
  intro pins s σ H x y v u Q I rx ry h
  obtain ⟨a,b,xs,ys,rfl,rfl,ha,hb,hz,q0,q1,q2⟩:=h
  by_cases hx : xs = []
  · exact op_catA pins s σ H _ _ v u Q I rx ry ⟨a,b,xs,ys,rfl,rfl,ha,hb,hz,q0,fun n=>absurd hx n,fun n=>absurd hx n⟩
  · cases rx
    cases ry
    obtain ⟨its,r1,p1,_⟩:=I.tuple ha
    obtain ⟨its2,r2,p2,_⟩:=I.tuple hb
    refine HT.cat_tup p1 p2 (fun z=>hx (r1.nil_iff.mp z)) (fun z=>⟨.ref a,H,I,rfl,q1 hx (r2.nil_iff.mp z)⟩) (fun z=>?_) (by rw [← r1.length,← r2.length]; exact hz)
    exact ⟨.ref s.heap.objs.size,_,I.laid (t':=s.toks) (fun b ob q=>Heap.get?_push_of_some _ q) (Nat.le_refl _) (kQ (by rw [List.length_append]; exact hz) (r1.append r2)),rfl,q2 hx (fun w=>z (r2.nil_iff.mpr w)) _ _ (I.hok.fresh (Nat.le_refl _)) rfl⟩
def vU (K : Fg) : V→Option Int→Option Int→Hp→VK→Prop:=fun x lo hi H Q=>∃ a xs,x = .ref a∧SqT K H a xs∧
  (HT.sIx xs.length 0 lo = 0∧HT.sIx xs.length xs.length hi = xs.length→Q (.ref a) H)∧(¬ (HT.sIx xs.length 0 lo = 0∧HT.sIx xs.length xs.length hi = xs.length)→∀ p o,H p = none→o.dict = none→Q (.ref p) (upd H p (.frz o (.tup (cutV xs lo hi)))))
theorem uR : SlR X (vU X.K):=by
  intro pins s σ H x v vl vu lo hi sl Q I rx hs pl pu h
  obtain ⟨a,xs,rfl,hx,q1,q2⟩:=h
  by_cases hw : HT.sIx xs.length 0 lo = 0∧HT.sIx xs.length xs.length hi = xs.length
  · exact sl_tupA pins s σ H _ v vl vu lo hi sl Q I rx hs pl pu ⟨a,xs,rfl,hx,q1,fun n=>absurd hw n⟩
  · cases rx
    obtain ⟨its,r,ht,hz⟩:=I.tuple hx
    have hl : its.toArray.size = xs.length:=by rw [List.size_toArray]; exact r.length.symm
    refine ⟨"tuple",_,PyProof.Rows.slot_tuple_getitem.lookup,ht.typeIs,?_⟩
    refine HT.getItem_tuple_cut ht hs pl pu (by rw [hl]; exact hw) ?_ (by rw [hl]; exact hz)
    rw [hl]
    exact ⟨.ref s.heap.objs.size,_,I.laid (t':=s.toks) (fun b ob q=>Heap.get?_push_of_some _ q) (Nat.le_refl _) (kQ (Nat.le_trans (cutV_length xs lo hi) hz) ((r.drop (HT.sIx xs.length 0 lo)).take (HT.sIx xs.length xs.length hi - HT.sIx xs.length 0 lo))),rfl,q2 hw _ _ (I.hok.fresh (Nat.le_refl _)) rfl⟩
def ic (K : Fg) (G : Hp) (a : Addr) (xs : List V) : Prop:=
  (∃ o,G a = some (.frz o (.tup xs))∧o.dict = none)∨∃ (o : Obj) (its : Array Value) (n : Nat),K.lookup a = some o∧o.cls = .type "tuple"∧o.dict = none∧o.data = .seq its n∧its.size ≤ sizeLine∧Vals xs its.toList
theorem ic.sq {G : Hp} {a : Addr} {xs : List V} (h : ic K G a xs) : SqT K G a xs:=by
  rcases h with ⟨o,h,_⟩ | ⟨o,its,n,h1,h2,_,h4,h5,h6⟩
  · exact .inl (.inr ⟨o,h⟩)
  · exact .inr ⟨o,its,n,h1,h2,h4,h5,h6⟩
theorem ic.up {G H : Hp} {a : Addr} {xs : List V} (s : Same G H) (h : ic K G a xs) : ic K H a xs:=by
  rcases h with ⟨o,h,hd⟩ | h
  · exact .inl ⟨o,s _ _ h,hd⟩
  · exact .inr h
def y6 (K : Fg) (r : V→List V→Hp→VK→Prop) (to : TE) (t : TA) : TE:=fun σ H Q=>to σ H fun x H1=>(∃ a xs,x = .ref a∧ic K H1 a xs)∧t σ H1 fun xs H2=>r x xs H2 Q
theorem mZ {o e : Expr} {es : List Expr} {to : TE} {t : TA} {name : Str} {apos cpos : Pos} {id : String} {r : V→List V→Hp→VK→Prop} (pa : PlainAttrs "tuple") (slot : Slot "tuple" name id) (hty : typeOf (.builtin id) = pure (.type "method_descriptor")) (hm : MtR X id r) (ho : PE X o to) (ha : PA X (e :: es) t)
    (hbase : attributeBase o name X.env (eval o X.env) = eval o X.env:=by rfl)
    (hfew : ((backTo cpos (starEach (e :: es) X.env)).all (fun x=>!x.1) && (backToKw cpos (keywordEach [] X.env)).all (fun x=>x.1.isSome)
      && decide ((e :: es).length + ([] : List Keyword).length + (if ([] : List Keyword).isEmpty then 0 else 1) < 30)) = true:=by rfl)
    (hline : (apos.endLine == cpos.line) = true:=by rfl) (hs : starEach (e :: es) X.env = (false,eval e X.env) :: starEach es X.env:=by rfl) (hplain : (backTo cpos (starEach es X.env)).any (·.1) = false:=by rfl) (hK : X.K = K:=by rfl) :
    PE X (.Call (.Attribute o name apos) (e :: es) [] cpos) (y6 K r to t):=by
  subst hK
  refine ⟨fun pins s σ H Q I h=>?_⟩
  refine wpAny_Call_method_late hbase hfew hline rfl (thn (ho.run pins s σ H _ I h) fun v s1 ⟨x,H1,I1,r1,⟨a,xs,ex,tg⟩,q1⟩=>?_)
  subst ex
  have ev : v = .ref a:=r1
  have ob : ∃ o,s1.heap.get? a = some o∧o.cls = .type "tuple"∧o.dict = none:=by
    rcases tg with ⟨o,e,hd⟩ | ⟨o,its,n,e,hc,hd,_⟩
    · obtain ⟨e1,_,_,_,o2,e2,hc,_⟩:=I1.hok a _ e
      rw [e1] at e2
      cases e2
      exact ⟨o,e1,hc,hd⟩
    · exact ⟨o,I1.kIn a o e,hc,hd⟩
  obtain ⟨o,e1,hc,hd⟩:=ob
  refine ⟨"tuple",id,pa,slot,hty,by rw [ev]; exact ⟨o,e1,hc⟩,fun b eb=>by rw [ev] at eb; cases eb; exact ⟨o,e1,hd⟩,?_⟩
  have hA:=ha.run cpos pins s1 σ H1 _ I1 q1
  rw [hs] at hA ⊢
  refine Calls.callWith_builtin (by show (false || (backTo cpos (starEach es X.env)).any (·.1)) = false; rw [hplain] <;> rfl) (Calls.evalArgs_plain ?_)
  exact thn hA fun us s2 ⟨vs,H2,I2,r2,q2⟩=>hm pins s2 σ H2 _ vs v us Q I2 r1 r2 q2
end
end Kx
end
section
namespace Kx
open PySem L2
def Dd (w : World) (x : NestedKey×Addr×Value) : DictEntry:=⟨x.1.hash w,.ref x.2.1,x.2.2⟩
def EnR (p : NestedKey×Addr×V) (q : NestedKey×Addr×Value) : Prop:=p.1 = q.1∧p.2.1 = q.2.1∧RelV p.2.2 q.2.2
def dnP (w : World) (a : Addr) (es : List (NestedKey×Addr×V)) (h : Heap) : Prop:=
  es.length ≤ sizeLine∧(a == sysModules) = false∧∃ xs : List (NestedKey×Addr×Value),Paired EnR es xs∧
    ∃ o de ep,h.get? a = some o∧o.ExactDict∧o.data = .dict de ep∧de.toList = xs.map (Dd w)∧(xs.map (·.1)).Nodup
def dnO (w : World) (a : Addr) (es : List (NestedKey×Addr×V)) : HO:=.ext (dnP w a es)
def NDx (φ : Heap→Prop) : Prop:=∃ w a es,φ = dnP w a es
theorem tV {c : Addr} {q : Str} : ¬ NDx (fun h : Heap=>∃ (oc : Obj) (vs : Array Value) (t : Tok),h.get? c = some oc∧oc.data = .fields vs∧vs[1]? = some (.str q t)):=fun ⟨w,a,es,e⟩=>by
  let ob : Obj:=⟨.none,none,.fields #[.none,.str q 0],#[]⟩
  let h0 : Heap:={ objs:=Array.replicate (c + 1) ob }
  have hg : ∀ b o,h0.get? b = some o→o = ob:=fun b o z=>by
    unfold Heap.get? at z
    have hz : ∀ u,h0.objs[b]? = some u→u = ob:=fun u hu=>by
      rw [Array.getElem?_replicate] at hu
      split at hu
      · exact (Option.some.inj hu).symm
      · cases hu
    cases q2 : h0.objs[b]? with
    | none=>rw [q2] at z; cases z
    | some u=>
      have e2:=hz u q2
      rw [q2,e2] at z
      exact (Option.some.inj z).symm
  have h1 : dnP w a es h0:=by
    rw [← e]
    refine ⟨ob,_,0,?_,rfl,rfl⟩
    unfold Heap.get?
    rw [show h0.objs[c]? = some ob from by rw [Array.getElem?_replicate,if_pos (Nat.lt_succ_self c)]]
  obtain ⟨_,_,xs,_,o,de,ep,h2,_,h3,_⟩:=h1
  rw [hg _ _ h2] at h3
  cases h3
class Tb where
  t : List (Addr×Str)
def Nt : HO→Prop
  | .tbl _=>False
  | .ext φ=>NDx φ
  | _=>True
def Mt : Option HO→Prop
  | some (.ext φ)=>NDx φ
  | some (.lst _)=>True
  | some (.dK _)=>True
  | some (.dT _)=>True
  | some (.ins _ _ _)=>True
  | _=>False
theorem Mt.nt {o : HO} (h : Mt (some o)) : Nt o:=by cases o <;> first | exact trivial | exact h | exact h.elim
theorem Mt.mut {o : HO} (h : Mt (some o)) : Mut (some o):=by cases o <;> first | exact trivial | exact h.elim
def fo : HO→Prop
  | .tbl _=>False
  | _=>True
theorem Nt.noTbl {o : HO} (h : Nt o) : fo o:=by cases o <;> first | exact trivial | exact h.elim
structure TbG [T : Tb] (G H : Hp) : Prop where
  t : LamX.Tabs T.t H
  n : ∀ a o,G a = some o→fo o
section
variable [Tb] {G H : Hp} {p : Addr} {o u : HO}
theorem gN (h : TbG G H) (hp : ∀ u,H p = some u→Nt u) : LamX.Tabs Tb.t (upd H p o):=fun q hq=>by
  obtain ⟨ps,h1,h2,h3⟩:=h.t q hq
  have ne : ∀ {a : Addr} {u : HO},H a = some u→¬ Nt u→a ≠ p:=fun {a u} e n z=>by
    subst z
    exact n (hp u e)
  refine ⟨ps,by rw [upd_ne (ne h1 id)]; exact h1,h2,fun pos cv hc=>?_⟩
  obtain ⟨c,e1,e2⟩:=h3 pos cv hc
  exact ⟨c,e1,by rw [upd_ne (ne e2 fun z=>tV z)]; exact e2⟩
theorem nX (h : ∀ a o,G a = some o→fo o) (ho : fo o) : ∀ a u,(upd G p o) a = some u→fo u:=fun a u e=>by
  by_cases ha : a = p
  · subst ha; rw [upd_same] at e; cases e; exact ho
  · rw [upd_ne ha] at e; exact h a u e
theorem qG (h : TbG G H) (hp : H p = none) : TbG G (upd H p o):=⟨gN h fun u e=>(by rw [hp] at e; cases e),h.n⟩
theorem v8 (h : TbG G H) (hp : H p = none) (ho : fo o) : TbG (upd G p o) (upd H p o):=⟨gN h fun u e=>(by rw [hp] at e; cases e),nX h.n ho⟩
theorem Ad (h : TbG G H) (hp : H p = some u) (n : Nt u) : TbG G (upd H p o):=⟨gN h fun v e=>(by rw [hp] at e; cases e; exact n),h.n⟩
theorem qL {o' : HO} (h : TbG G H) (hp : H p = some u) (n : Nt u) (ho : fo o') : TbG (upd G p o') (upd H p o):=⟨gN h fun v e=>(by rw [hp] at e; cases e; exact n),nX h.n ho⟩
theorem vY (h : TbG G H) (ho : fo o) : TbG (upd G p o) H:=⟨h.t,nX h.n ho⟩
end
structure Ok [Tb] (G M H : Hp) : Prop where
  g : Same G H
  m : Same M H
  d : ∀ a o,M a = some o→G a = none
  mu : ∀ a o,M a = some o→Mt (some o)
  tb : TbG G H
theorem Same.new {H : Hp} {p : Addr} {o : HO} (h : H p = none) : Same H (upd H p o):=fun a u e=>by
  rw [upd_ne (ne_of_none e h)]
  exact e
theorem Same.none {G H : Hp} (s : Same G H) {p : Addr} (h : H p = none) : G p = none:=s.free h
theorem Ok.newG [Tb] {G M H : Hp} {p : Addr} (o : HO) (k : Ok G M H) (h : H p = none) (hn : fo o:=by exact trivial) : Ok (upd G p o) M (upd H p o):=by
  refine ⟨fun a u e=>?_,fun a u e=>?_,fun a u e=>?_,k.mu,v8 k.tb h hn⟩
  · by_cases ha : a = p
    · subst ha; rw [upd_same] at e ⊢; exact e
    · rw [upd_ne ha] at e ⊢; exact k.g a u e
  · rw [upd_ne (ne_of_none (k.m a u e) h)]; exact k.m a u e
  · rw [upd_ne (ne_of_none (k.m a u e) h)]; exact k.d a u e
theorem uo {M : Hp} {p : Addr} {o : HO} (k : ∀ a o,M a = some o→Mt (some o)) (hm : Mt (some o)) : ∀ a u,(upd M p o) a = some u→Mt (some u):=fun a u e=>by
  by_cases ha : a = p
  · subst ha; rw [upd_same] at e; cases e; exact hm
  · rw [upd_ne ha] at e; exact k a u e
theorem Ok.newM [Tb] {G M H : Hp} {p : Addr} (o : HO) (k : Ok G M H) (h : H p = none) (hm : Mt (some o):=by exact trivial) : Ok G (upd M p o) (upd H p o):=by
  refine ⟨fun a u e=>?_,fun a u e=>?_,fun a u e=>?_,uo k.mu hm,qG k.tb h⟩
  · rw [upd_ne (ne_of_none (k.g a u e) h)]; exact k.g a u e
  · by_cases ha : a = p
    · subst ha; rw [upd_same] at e ⊢; exact e
    · rw [upd_ne ha] at e ⊢; exact k.m a u e
  · by_cases ha : a = p
    · subst ha; exact Same.none k.g h
    · rw [upd_ne ha] at e; exact k.d a u e
theorem Ok.chg [Tb] {G M H : Hp} {p : Addr} {u : HO} (o : HO) (k : Ok G M H) (h : M p = some u) (hm : Mt (some o):=by exact trivial) : Ok G (upd M p o) (upd H p o):=by
  have gp : G p = none:=k.d p u h
  refine ⟨fun a u e=>?_,fun a u e=>?_,fun a u e=>?_,uo k.mu hm,Ad k.tb (k.m p u h) (k.mu p u h).nt⟩
  · rw [upd_ne (ne_of_none e gp)]; exact k.g a u e
  · by_cases ha : a = p
    · subst ha; rw [upd_same] at e ⊢; exact e
    · rw [upd_ne ha] at e ⊢; exact k.m a u e
  · by_cases ha : a = p
    · subst ha; exact gp
    · rw [upd_ne ha] at e; exact k.d a u e
theorem Ok.frz [Tb] {G M H : Hp} {p : Addr} {o : HO} (k : Ok G (upd M p o) H) (h : M p = none) : Ok (upd G p o) M H:=by
  refine ⟨fun a u e=>?_,fun a u e=>?_,fun a u e=>?_,fun a u e=>k.mu a u (by rw [upd_ne (ne_of_none e h)]; exact e),vY k.tb (k.mu p o upd_same).nt.noTbl⟩
  · by_cases ha : a = p
    · subst ha; rw [upd_same] at e; exact k.m a u (by rw [upd_same]; exact e)
    · rw [upd_ne ha] at e; exact k.g a u e
  · exact k.m a u (by rw [upd_ne (ne_of_none e h)]; exact e)
  · have ha:=ne_of_none e h
    rw [upd_ne ha]
    exact k.d a u (by rw [upd_ne ha]; exact e)
theorem Ok.less [Tb] {G M M' H : Hp} (k : Ok G M' H) (s : Same M M') : Ok G M H:=⟨k.g,fun a o e=>k.m a o (s a o e),fun a o e=>k.d a o (s a o e),fun a o e=>k.mu a o (s a o e),k.tb⟩
theorem Ok.gp [Tb] {G M H : Hp} {p : Addr} {o : HO} (k : Ok G (upd M p o) H) : G p = none:=k.d p o upd_same
theorem lh {M : Hp} {p : Addr} {o : HO} (h : M p = some o) : upd M p o = M:=by
  funext a
  unfold upd
  split
  · next e=>rw [e,h]
  · rfl
theorem sX {M : Hp} {p q : Addr} {o u : HO} (h : p ≠ q) : upd (upd M p o) q u = upd (upd M q u) p o:=by
  funext a
  unfold upd
  by_cases h1 : a = q <;> by_cases h2 : a = p
  · subst h1; exact absurd h2.symm h
  · rw [if_pos h1,if_neg h2,if_pos h1]
  · rw [if_neg h1,if_pos h2,if_pos h2]
  · rw [if_neg h1,if_neg h2,if_neg h2,if_neg h1]
theorem fR {G H : Hp} {a : Addr} {u : HO} (e : Same G H) (h : Rd G a u) : Rd H a u:=by
  rcases h with h | ⟨o,h⟩
  · exact Or.inl (e a _ h)
  · exact Or.inr ⟨o,e a _ h⟩
def clsAt (K : Fg) (n : Str) : Addr:=match PySem.W.nsIn K mainGlobals n with
  | some (some (.ref C))=>C
  | _=>0
theorem rB {K : Fg} {n : Str} {C : Addr} (h : PySem.W.nsIn K mainGlobals n = some (some (.ref C))) : clsAt K n = C:=by
  unfold clsAt
  rw [h]
mutual
inductive NKq (K : Fg) (G : Hp) : V→NestedKey→Prop
  | int (i : Int) : NKq K G (.int i) (.num i)
  | str {x : Str} (h : PyData.strOk x = true) : NKq K G (.str x) (.text x)
  | tup {a : Addr} {xs : List V} {ks : List NestedKey} : ic K G a xs→dh K G xs ks→NKq K G (.ref a) (.tup ks)
inductive dh (K : Fg) (G : Hp) : List V→List NestedKey→Prop
  | nil : dh K G [] []
  | cons {v : V} {k : NestedKey} {vs : List V} {ks : List NestedKey} : NKq K G v k→dh K G vs ks→dh K G (v :: vs) (k :: ks)
end
mutual
theorem eH {K : Fg} {G H : Hp} (e : Same G H) : ∀ (k : NestedKey) {v : V},NKq K G v k→NKq K H v k
  | .none,_,h=>by cases h
  | .num i,_,h=>by cases h; exact .int i
  | .text x,_,h=>by
    cases h with
    | str h=>exact .str h
  | .tup ks,_,h=>by
    cases h with
    | tup a b=>exact .tup (a.up e) (iZ e ks b)
theorem iZ {K : Fg} {G H : Hp} (e : Same G H) : ∀ (ks : List NestedKey) {vs : List V},dh K G vs ks→dh K H vs ks
  | [],_,h=>by cases h; exact .nil
  | k :: ks,_,h=>by
    cases h with
    | cons a b=>exact .cons (eH e k a) (iZ e ks b)
end
inductive Dat where
  | none
  | bool (b : Bool)
  | int (i : Int)
  | str (s : Str)
  | list (xs : List Dat)
  | tuple (xs : List Dat)
  | rtup (xs : List Dat)
  | dK (ks : List Key) (xs : List Dat)
  | dT (ks : List (List Key)) (xs : List Dat)
  | ins (C : Str) (ns : List Str) (xs : List Dat)
  | dN (w : World) (ks : List NestedKey) (xs : List Dat)
abbrev sok (x : Str) : Bool:=PyData.strOk x
def keyOk : Key→Bool
  | .inl _=>true
  | .inr x=>sok x
mutual
inductive Dq (K : Fg) (G : Hp) : V→Dat→Prop
  | non : Dq K G .non .none
  | bl (b : Bool) : Dq K G (.bl b) (.bool b)
  | int (i : Int) : Dq K G (.int i) (.int i)
  | str {x : Str} (h : sok x = true) : Dq K G (.str x) (.str x)
  | lst {a : Addr} {xs : List V} {ds : List Dat} : G a = some (.lst xs)→ap K G xs ds→Dq K G (.ref a) (.list ds)
  | tup {a : Addr} {xs : List V} {ds : List Dat} : ic K G a xs→ap K G xs ds→Dq K G (.ref a) (.tuple ds)
  | rtup {a : Addr} {xs : List V} {ds : List Dat} : G a = some (.tup xs)→ap K G xs ds→Dq K G (.ref a) (.rtup ds)
  | dK {a : Addr} {kvs : List (Key×V)} {ks : List Key} {ds : List Dat} : Rd G a (.dK kvs)→kvs.map (·.1) = ks→ks.all keyOk = true→ap K G (kvs.map (·.2)) ds→Dq K G (.ref a) (.dK ks ds)
  | dT {a : Addr} {kvs : List (List Key×V)} {ks : List (List Key)} {ds : List Dat} : Rd G a (.dT kvs)→kvs.map (·.1) = ks→(ks.all fun k=>k.all keyOk) = true→ap K G (kvs.map (·.2)) ds→Dq K G (.ref a) (.dT ks ds)
  | ins {a dx : Addr} {C : Str} {fs : List (Str×V)} {ns : List Str} {ds : List Dat} : G a = some (.ins (clsAt K C) dx fs)→fs.map (·.1) = ns→ap K G (fs.map (·.2)) ds→Dq K G (.ref a) (.ins C ns ds)
  | dN {a : Addr} {w : World} {es : List (NestedKey×Addr×V)} {ks : List NestedKey} {ds : List Dat} : Rd G a (dnO w a es)→es.map (·.1) = ks→dh K G (es.map fun e=>V.ref e.2.1) ks→ap K G (es.map (·.2.2)) ds→Dq K G (.ref a) (.dN w ks ds)
inductive ap (K : Fg) (G : Hp) : List V→List Dat→Prop
  | nil : ap K G [] []
  | cons {v : V} {d : Dat} {vs : List V} {ds : List Dat} : Dq K G v d→ap K G vs ds→ap K G (v :: vs) (d :: ds)
end
mutual
def toPy : Dat→PyData
  | .none=>.none
  | .bool b=>.bool b
  | .int i=>.int i
  | .str x=>.str x
  | .list xs=>.list (cB xs)
  | .tuple xs=>.tuple (cB xs)
  | .rtup xs=>.tuple (cB xs)
  | .dK _ _=>.none
  | .dT _ _=>.none
  | .ins _ _ _=>.none
  | .dN _ _ _=>.none
def cB : List Dat→List PyData
  | []=>[]
  | x :: xs=>toPy x :: cB xs
def pur : Dat→Bool
  | .none=>true
  | .bool _=>true
  | .int _=>true
  | .str _=>true
  | .list xs=>gF xs
  | .tuple xs=>gF xs
  | .rtup xs=>gF xs
  | .dK _ _=>false
  | .dT _ _=>false
  | .ins _ _ _=>false
  | .dN _ _ _=>false
def gF : List Dat→Bool
  | []=>true
  | x :: xs=>pur x && gF xs
end
section
variable {K : Fg}
theorem bN {G H : Hp} {a : Addr} {xs : List V} (e : Same G H) (h : SqT K G a xs) : SqT K H a xs:=by
  rcases h with h | h
  · exact Or.inl (fR e h)
  · exact Or.inr h
mutual
theorem aa {G H : Hp} (e : Same G H) : ∀ (d : Dat) {v : V},Dq K G v d→Dq K H v d
  | .none,_,h=>by cases h; exact .non
  | .bool b,_,h=>by cases h; exact .bl b
  | .int i,_,h=>by cases h; exact .int i
  | .str x,_,h=>by
    cases h with
    | str h=>exact .str h
  | .list ds,_,h=>by
    cases h with
    | lst a b=>exact .lst (e _ _ a) (aj e ds b)
  | .tuple ds,_,h=>by
    cases h with
    | tup a b=>exact .tup (a.up e) (aj e ds b)
  | .rtup ds,_,h=>by
    cases h with
    | rtup a b=>exact .rtup (e _ _ a) (aj e ds b)
  | .dK ks ds,_,h=>by
    cases h with
    | dK a b c d=>exact .dK (fR e a) b c (aj e ds d)
  | .dT ks ds,_,h=>by
    cases h with
    | dT a b c d=>exact .dT (fR e a) b c (aj e ds d)
  | .ins C ns ds,_,h=>by
    cases h with
    | ins a b c=>exact .ins (e _ _ a) b (aj e ds c)
  | .dN w ks ds,_,h=>by
    cases h with
    | dN a b c d=>exact .dN (fR e a) b (iZ e _ c) (aj e ds d)
theorem aj {G H : Hp} (e : Same G H) : ∀ (ds : List Dat) {vs : List V},ap K G vs ds→ap K H vs ds
  | [],_,h=>by cases h; exact .nil
  | d :: ds,_,h=>by
    cases h with
    | cons a b=>exact .cons (aa e d a) (aj e ds b)
end
mutual
theorem dX {G : Hp} : ∀ (d : Dat) {v : V},pur d = true→Dq K G v d→Dp K G v (toPy d)
  | .none,_,_,h=>by cases h; unfold toPy; exact .non
  | .bool b,_,_,h=>by cases h; unfold toPy; exact .bl b
  | .int i,_,_,h=>by cases h; unfold toPy; exact .int i
  | .str x,_,_,h=>by cases h; unfold toPy; exact .str x
  | .list ds,_,p,h=>by
    cases h with
    | lst a b=>unfold toPy; exact .lst (.inl (.inl a)) (fS ds (by unfold pur at p; exact p) b)
  | .tuple ds,_,p,h=>by
    cases h with
    | tup a b=>unfold toPy; exact .tup a.sq (fS ds (by unfold pur at p; exact p) b)
  | .rtup ds,_,p,h=>by
    cases h with
    | rtup a b=>unfold toPy; exact .tup (.inl (.inl a)) (fS ds (by unfold pur at p; exact p) b)
  | .dK _ _,_,p,h=>by unfold pur at p; cases p
  | .dT _ _,_,p,h=>by unfold pur at p; cases p
  | .ins _ _ _,_,p,h=>by unfold pur at p; cases p
  | .dN _ _ _,_,p,h=>by unfold pur at p; cases p
theorem fS {G : Hp} : ∀ (ds : List Dat) {vs : List V},gF ds = true→ap K G vs ds→DpAll K G vs (cB ds)
  | [],_,_,h=>by cases h; unfold cB; exact .nil
  | d :: ds,_,p,h=>by
    cases h with
    | cons a b=>
      unfold gF at p
      rw [Bool.and_eq_true] at p
      unfold cB
      exact .cons (dX d p.1 a) (fS ds p.2 b)
end
mutual
theorem sR {G : Hp} : ∀ (d : Dat) {v : V},pur d = true→Dq K G v d→(toPy d).canLay0 = true
  | .none,_,_,h=>by unfold toPy PyData.canLay0; rfl
  | .bool b,_,_,h=>by unfold toPy PyData.canLay0; rfl
  | .int i,_,_,h=>by unfold toPy PyData.canLay0; rfl
  | .str x,_,_,h=>by
    cases h with
    | str h=>unfold toPy PyData.canLay0; exact h
  | .list ds,_,p,h=>by
    cases h with
    | lst a b=>unfold toPy PyData.canLay0; exact eW ds (by unfold pur at p; exact p) b
  | .tuple ds,_,p,h=>by
    cases h with
    | tup a b=>unfold toPy PyData.canLay0; exact eW ds (by unfold pur at p; exact p) b
  | .rtup ds,_,p,h=>by
    cases h with
    | rtup a b=>unfold toPy PyData.canLay0; exact eW ds (by unfold pur at p; exact p) b
  | .dK _ _,_,p,h=>by unfold pur at p; cases p
  | .dT _ _,_,p,h=>by unfold pur at p; cases p
  | .ins _ _ _,_,p,h=>by unfold pur at p; cases p
  | .dN _ _ _,_,p,h=>by unfold pur at p; cases p
theorem eW {G : Hp} : ∀ (ds : List Dat) {vs : List V},gF ds = true→ap K G vs ds→PyData.canLayAll0 (cB ds) = true
  | [],_,_,h=>by unfold cB PyData.canLayAll0; rfl
  | d :: ds,_,p,h=>by
    cases h with
    | cons a b=>
      unfold gF at p
      rw [Bool.and_eq_true] at p
      unfold cB PyData.canLayAll0
      rw [sR d p.1 a,eW ds p.2 b]
      rfl
end
theorem aw {G : Hp} : ∀ {ds : List Dat} {vs : List V},ap K G vs ds→vs.length = ds.length
  | _,_,.nil=>rfl
  | _,_,.cons _ b=>congrArg (· + 1) (aw b)
theorem dq {G : Hp} : ∀ {ds : List Dat} {vs : List V} {i : Nat} {d : Dat},ap K G vs ds→ds[i]? = some d→∃ v,vs[i]? = some v∧Dq K G v d
  | _,_,_,_,.nil,h=>by simp at h
  | _,_,0,_,.cons a _,h=>by simp at h; subst h; exact ⟨_,rfl,a⟩
  | _,_,i + 1,d,.cons _ b,h=>by
    obtain ⟨v,h1,h2⟩:=dq (i:=i) (d:=d) b (by simpa using h)
    exact ⟨v,by simpa using h1,h2⟩
theorem bJ {G : Hp} : ∀ {ds es : List Dat} {vs ws : List V},ap K G vs ds→ap K G ws es→ap K G (vs ++ ws) (ds ++ es)
  | _,_,_,_,.nil,h=>h
  | _,_,_,_,.cons a b,h=>.cons a (bJ b h)
theorem iY {G : Hp} : ∀ {ds : List Dat} {vs : List V} (n : Nat),ap K G vs ds→ap K G (vs.drop n) (ds.drop n)
  | _,_,0,h=>h
  | _,_,_ + 1,.nil=>.nil
  | _,_,n + 1,.cons _ b=>iY n b
theorem iE {G : Hp} : ∀ {ds : List Dat} {vs : List V} (n : Nat),ap K G vs ds→ap K G (vs.take n) (ds.take n)
  | _,_,0,_=>.nil
  | _,_,_ + 1,.nil=>.nil
  | _,_,n + 1,.cons a b=>.cons a (iE n b)
theorem gi {G : Hp} : ∀ {ds : List Dat} {vs : List V} (n : Nat) {v : V} {d : Dat},Dq K G v d→ap K G vs ds→ap K G (vs.set n v) (ds.set n d)
  | _,_,_,_,_,_,.nil=>.nil
  | _,_,0,_,_,a,.cons _ b=>.cons a b
  | _,_,n + 1,_,_,a,.cons x b=>.cons x (gi n a b)
theorem gy {G : Hp} : ∀ {ds : List Dat} {vs : List V} (n : Nat),ap K G vs ds→ap K G (vs.eraseIdx n) (ds.eraseIdx n)
  | _,_,_,.nil=>.nil
  | _,_,0,.cons _ b=>b
  | _,_,n + 1,.cons x b=>.cons x (gy n b)
theorem jH {G : Hp} : ∀ {ns : List Bool} {vs : List V},ap K G vs (ns.map Dat.bool)→vs = ns.map V.bl
  | [],_,h=>by cases h; rfl
  | n :: ns,_,h=>by
    cases h with
    | cons a b=>cases a; exact congrArg (V.bl n :: ·) (jH b)
theorem cq {G : Hp} : ∀ {ns : List Str} {vs : List V},ap K G vs (ns.map Dat.str)→vs = ns.map V.str
  | [],_,h=>by cases h; rfl
  | n :: ns,_,h=>by
    cases h with
    | cons a b=>cases a; exact congrArg (V.str n :: ·) (cq b)
end
abbrev VP:=V→Hp→Prop
def Mo (P : VP) : Prop:=∀ v G G',Same G G'→P v G→P v G'
abbrev DD (K : Fg) (d : Dat) : VP:=fun v G=>Dq K G v d
abbrev OW (p : Addr) : VP:=fun v _=>v = .ref p
theorem aQ {K : Fg} {d : Dat} : Mo (DD K d):=fun _ _ _ s h=>aa s d h
theorem bo {p : Addr} : Mo (OW p):=fun _ _ _ _ h=>h
def Ev [Tb] (te : TE) (σ : St) (G M M' : Hp) (P : VP) : Prop:=
  ∀ G0 H,Same G G0→Ok G0 M H→∀ Q : VK,(∀ v G' H',Same G0 G'→Ok G' M' H'→P v G'→Q v H')→te σ H Q
def EvA [Tb] (ta : TA) (σ : St) (G M M' : Hp) (P : List V→Hp→Prop) : Prop:=
  ∀ G0 H,Same G G0→Ok G0 M H→∀ Q : List V→Hp→Prop,(∀ vs G' H',Same G0 G'→Ok G' M' H'→P vs G'→Q vs H')→ta σ H Q
def EvT [Tb] (tt : TT) (σ : St) (G M M' : Hp) (b : Bool) : Prop:=
  ∀ G0 H,Same G G0→Ok G0 M H→∀ Q : Bool→Hp→Prop,(∀ G' H',Same G0 G'→Ok G' M' H'→Q b H')→tt σ H Q
def EvL [Tb] (K : Fg) (te : TE) (σ : St) (G M M' : Hp) (ds : List Dat) : Prop:=
  ∀ G0 H,Same G G0→Ok G0 M H→∀ Q : VK,(∀ p vs G' H',Same G0 G'→Ok G' (upd M' p (.lst vs)) H'→M' p = none→ap K G' vs ds→Q (.ref p) H')→te σ H Q
def EvO [Tb] (to : TO) (σ : St) (G M M' : Hp) (o : Option Int) : Prop:=
  ∀ G0 H,Same G G0→Ok G0 M H→∀ Q : Option Int→Hp→Prop,(∀ G' H',Same G0 G'→Ok G' M' H'→Q o H')→to σ H Q
def RV2 [Tb] (r : R2) (G M M' : Hp) (P1 P2 P : VP) : Prop:=
  ∀ x y G0 H,Same G G0→Ok G0 M H→P1 x G0→P2 y G0→∀ Q : VK,(∀ v G' H',Same G0 G'→Ok G' M' H'→P v G'→Q v H')→r x y H Q
def RVn [Tb] (r : List V→Hp→VK→Prop) (G M M' : Hp) (Ps : List V→Hp→Prop) (P : VP) : Prop:=
  ∀ xs G0 H,Same G G0→Ok G0 M H→Ps xs G0→∀ Q : VK,(∀ v G' H',Same G0 G'→Ok G' M' H'→P v G'→Q v H')→r xs H Q
def Dc [Tb] (K : Fg) (r : List V→Hp→VK→Prop) (G M M' : Hp) (Ps : List V→Hp→Prop) (ds : List Dat) : Prop:=
  ∀ xs G0 H,Same G G0→Ok G0 M H→Ps xs G0→∀ Q : VK,(∀ p vs G' H',Same G0 G'→Ok G' (upd M' p (.lst vs)) H'→M' p = none→ap K G' vs ds→Q (.ref p) H')→r xs H Q
def CT [Tb] (K : Fg) (r : R2) (G M M' : Hp) (P1 P2 : VP) (ds : List Dat) : Prop:=
  ∀ x y G0 H,Same G G0→Ok G0 M H→P1 x G0→P2 y G0→∀ Q : VK,(∀ p vs G' H',Same G0 G'→Ok G' (upd M' p (.lst vs)) H'→M' p = none→ap K G' vs ds→Q (.ref p) H')→r x y H Q
def az : List V→Hp→Prop:=fun vs _=>vs = []
def ak (P : VP) (R : List V→Hp→Prop) : List V→Hp→Prop:=fun vs G=>∃ v r,vs = v :: r∧P v G∧R r G
section
variable {K : Fg} {σ : St} {G G' M M1 M2 M3 : Hp} {ta tb te tc : TE} {P P1 P2 : VP} {d e : Dat} {ds es : List Dat}
theorem Ev.up [Tb] (s : Same G G') (h : Ev te σ G M M1 P) : Ev te σ G' M M1 P:=fun G0 H a=>h G0 H (s.trans a)
theorem EvT.up [Tb] {tt : TT} {b : Bool} (s : Same G G') (h : EvT tt σ G M M1 b) : EvT tt σ G' M M1 b:=fun G0 H a=>h G0 H (s.trans a)
theorem EvL.up [Tb] (s : Same G G') (h : EvL K te σ G M M1 ds) : EvL K te σ G' M M1 ds:=fun G0 H a=>h G0 H (s.trans a)
theorem EvL.ev [Tb] (h : EvL K te σ G M M1 ds) : Ev te σ G M M1 (DD K (.list ds)):=fun G0 H s k Q q=>
  h G0 H s k Q fun p vs G' H' s' k' hp hd=>q _ (upd G' p (.lst vs)) H' (s'.trans (Same.new k'.gp)) (k'.frz hp) (.lst upd_same (aj (Same.new k'.gp) ds hd))
theorem ev_var [Tb] {i : Nat} {v : V} (h : σ[i]? = some (some v)) (m : Mo P) (hp : P v G) : Ev (tVar i) σ G M M P:=fun G0 H s k Q q=>
  ⟨v,h,q v G0 H (Same.refl G0) k (m v G G0 s hp)⟩
theorem CG [Tb] {i : Nat} {v : V} (h : σ[i]? = some (some v)) (hp : Dq K G v d) : Ev (tVar i) σ G M M (DD K d):=ev_var h aQ hp
theorem aq [Tb] {i : Nat} {p : Addr} (h : σ[i]? = some (some (.ref p))) : Ev (tVar i) σ G M M (OW p):=ev_var h bo rfl
theorem ev_c [Tb] {v : V} (hp : ∀ G,Dq K G v d) : Ev (tC v) σ G M M (DD K d):=fun G0 H s k Q q=>q v G0 H (Same.refl G0) k (hp G0)
theorem ab [Tb] {i : Int} : Ev (tC (.int i)) σ G M M (DD K (.int i)):=ev_c fun _=>.int i
theorem ca [Tb] {x : Str} (h : sok x = true) : Ev (tC (.str x)) σ G M M (DD K (.str x)):=ev_c fun _=>.str h
theorem dJ [Tb] {b : Bool} : Ev (tC (.bl b)) σ G M M (DD K (.bool b)):=ev_c fun _=>.bl b
theorem ev_op [Tb] {r : R2} (m : Mo P1) (ha : Ev ta σ G M M1 P1) (hb : Ev tb σ G M1 M2 P2) (hr : RV2 r G M2 M3 P1 P2 P) : Ev (tOp r ta tb) σ G M M3 P:=fun G0 H s k Q q=>
  ha G0 H s k _ fun x G1 H1 s1 k1 hx=>hb G1 H1 (s.trans s1) k1 _ fun y G2 H2 s2 k2 hy=>hr x y G2 H2 ((s.trans s1).trans s2) k2 (m x G1 G2 s2 hx) hy Q fun v G3 H3 s3 k3 hv=>q v G3 H3 ((s1.trans s2).trans s3) k3 hv
theorem Bi [Tb] {r : R2} (m : Mo P1) (ha : Ev ta σ G M M1 P1) (hb : Ev tb σ G M1 M2 P2) (hr : CT K r G M2 M3 P1 P2 ds) : EvL K (tOp r ta tb) σ G M M3 ds:=fun G0 H s k Q q=>
  ha G0 H s k _ fun x G1 H1 s1 k1 hx=>hb G1 H1 (s.trans s1) k1 _ fun y G2 H2 s2 k2 hy=>hr x y G2 H2 ((s.trans s1).trans s2) k2 (m x G1 G2 s2 hx) hy Q fun p vs G3 H3 s3 k3 hv=>q p vs G3 H3 ((s1.trans s2).trans s3) k3 hv
theorem ea_nil [Tb] : EvA tNil σ G M M az:=fun G0 H s k Q q=>q [] G0 H (Same.refl _) k rfl
theorem ea_cons [Tb] {tr : TA} {R : List V→Hp→Prop} (m : Mo P) (ha : Ev ta σ G M M1 P) (hr : EvA tr σ G M1 M2 R) : EvA (tCons ta tr) σ G M M2 (ak P R):=fun G0 H s k Q q=>
  ha G0 H s k _ fun x G1 H1 s1 k1 hx=>hr G1 H1 (s.trans s1) k1 _ fun xs G2 H2 s2 k2 hy=>q (x :: xs) G2 H2 (s1.trans s2) k2 ⟨x,xs,rfl,m x G1 G2 s2 hx,hy⟩
theorem ae [Tb] {tr : TA} {R : List V→Hp→Prop} (ha : Ev ta σ G M M1 (DD K d)) (hr : EvA tr σ G M1 M2 R) : EvA (tCons ta tr) σ G M M2 (ak (DD K d) R):=ea_cons aQ ha hr
theorem ev_cb [Tb] {r : List V→Hp→VK→Prop} {t : TA} {R : List V→Hp→Prop} (ha : EvA t σ G M M1 R) (hr : RVn r G M1 M2 R P) : Ev (tCB r t) σ G M M2 P:=fun G0 H s k Q q=>
  ha G0 H s k _ fun xs G1 H1 s1 k1 hx=>hr xs G1 H1 (s.trans s1) k1 hx Q fun v G2 H2 s2 k2 hv=>q v G2 H2 (s1.trans s2) k2 hv
theorem el_cb [Tb] {r : List V→Hp→VK→Prop} {t : TA} {R : List V→Hp→Prop} (ha : EvA t σ G M M1 R) (hr : Dc K r G M1 M2 R ds) : EvL K (tCB r t) σ G M M2 ds:=fun G0 H s k Q q=>
  ha G0 H s k _ fun xs G1 H1 s1 k1 hx=>hr xs G1 H1 (s.trans s1) k1 hx Q fun p vs G2 H2 s2 k2 hv=>q p vs G2 H2 (s1.trans s2) k2 hv
def qv (K : Fg) (ds : List Dat) : List V→Hp→Prop:=fun vs G=>ap K G vs ds
theorem aC [Tb] : EvA tNil σ G M M (qv K []):=fun G0 H s k Q q=>q [] G0 H (Same.refl _) k .nil
theorem ag [Tb] {tr : TA} (ha : Ev ta σ G M M1 (DD K d)) (hr : EvA tr σ G M1 M2 (qv K ds)) : EvA (tCons ta tr) σ G M M2 (qv K (d :: ds)):=fun G0 H s k Q q=>
  ha G0 H s k _ fun x G1 H1 s1 k1 hx=>hr G1 H1 (s.trans s1) k1 _ fun xs G2 H2 s2 k2 hy=>q (x :: xs) G2 H2 (s1.trans s2) k2 (.cons (aa s2 d hx) hy)
theorem bV [Tb] {t : TA} (ha : EvA t σ G M M1 (qv K ds)) (hl : ds.length ≤ sizeLine:=by simp [sizeLine_eq]) : Ev (wC t) σ G M M1 (DD K (.tuple ds)):=fun G0 H s k Q q=>
  ha G0 H s k _ fun xs G1 H1 s1 k1 hx=>⟨by rw [aw hx]; exact hl,fun p o hp hd=>q _ (upd G1 p (.frz o (.tup xs))) _ (s1.trans (Same.new (Same.none k1.g hp))) (k1.newG _ hp) (.tup (.inl ⟨o,upd_same,hd⟩) (aj (Same.new (Same.none k1.g hp)) ds hx))⟩
theorem qt [Tb] {Q : VK} {G0 G1 H1 M1 : Hp} {xs : List V} (s1 : Same G0 G1) (k1 : Ok G1 M1 H1) (hx : ap K G1 xs ds) (q : ∀ p vs G' H',Same G0 G'→Ok G' (upd M1 p (.lst vs)) H'→M1 p = none→ap K G' vs ds→Q (.ref p) H') : ∀ p,H1 p = none→Q (.ref p) (upd H1 p (.lst xs)):=
  fun p hp=>q p xs G1 _ s1 (k1.newM _ hp) (Same.none k1.m hp) hx
theorem vE [Tb] {Q : VK} {G0 G1 H1 M1 : Hp} {xs : List V} (s1 : Same G0 G1) (k1 : Ok G1 M1 H1) (hx : ap K G1 xs ds) (q : ∀ v G' H',Same G0 G'→Ok G' M1 H'→Dq K G' v (.tuple ds)→Q v H') : ∀ p o,H1 p = none→o.dict = none→Q (.ref p) (upd H1 p (.frz o (.tup xs))):=
  fun p o hp hd=>q _ (upd G1 p (.frz o (.tup xs))) _ (s1.trans (Same.new (Same.none k1.g hp))) (k1.newG _ hp) (.tup (.inl ⟨o,upd_same,hd⟩) (aj (Same.new (Same.none k1.g hp)) ds hx))
theorem zo [Tb] {Q : VK} {G0 G1 H1 M1 : Hp} {xs : List V} (s1 : Same G0 G1) (k1 : Ok G1 M1 H1) (hx : ap K G1 xs ds) (q : ∀ v G' H',Same G0 G'→Ok G' M1 H'→Dq K G' v (.rtup ds)→Q v H') : ∀ p,H1 p = none→Q (.ref p) (upd H1 p (.tup xs)):=
  fun p hp=>q _ (upd G1 p (.tup xs)) _ (s1.trans (Same.new (Same.none k1.g hp))) (k1.newG _ hp) (.rtup upd_same (aj (Same.new (Same.none k1.g hp)) ds hx))
theorem el_lst [Tb] {t : TA} (ha : EvA t σ G M M1 (qv K ds)) (hl : ds.length ≤ sizeLine:=by simp [sizeLine_eq]) : EvL K (tLst t) σ G M M1 ds:=fun G0 H s k Q q=>
  ha G0 H s k _ fun xs G1 H1 s1 k1 hx=>⟨by rw [aw hx]; exact hl,qt s1 k1 hx q⟩
theorem ev_is [Tb] {d' : Dat} (h : Ev te σ G M M1 (DD K d)) (e : d = d') : Ev te σ G M M1 (DD K d'):=e ▸ h
theorem rv_I0 [Tb] {g : Int→Int→V} {f : Int→Int→Dat} {i j : Int} (hg : ∀ i j G,Dq K G (g i j) (f i j)) : RV2 (rI0 g) G M M (DD K (.int i)) (DD K (.int j)) (DD K (f i j)):=fun x y G0 H s k hx hy Q q=>by
  cases hx; cases hy
  exact ⟨i,j,rfl,rfl,q _ G0 H (Same.refl _) k (hg i j G0)⟩
theorem rv_I [Tb] {C : Int→Int→Prop} {g : Int→Int→V} {f : Int→Int→Dat} {i j : Int} (hg : ∀ i j G,Dq K G (g i j) (f i j)) (hc : C i j) : RV2 (rI C g) G M M (DD K (.int i)) (DD K (.int j)) (DD K (f i j)):=fun x y G0 H s k hx hy Q q=>by
  cases hx; cases hy
  exact ⟨i,j,rfl,rfl,hc,q _ G0 H (Same.refl _) k (hg i j G0)⟩
theorem bh [Tb] {i j : Int} (ha : Ev ta σ G M M1 (DD K (.int i))) (hb : Ev tb σ G M1 M2 (DD K (.int j))) : Ev (tOp (rI0 fun i j=>.int (i + j)) ta tb) σ G M M2 (DD K (.int (i + j))):=ev_op aQ ha hb (rv_I0 (f:=fun i j=>.int (i + j)) fun i j _=>.int _)
theorem dE [Tb] {i j : Int} (ha : Ev ta σ G M M1 (DD K (.int i))) (hb : Ev tb σ G M1 M2 (DD K (.int j))) : Ev (tOp (rI0 fun i j=>.int (i - j)) ta tb) σ G M M2 (DD K (.int (i - j))):=ev_op aQ ha hb (rv_I0 (f:=fun i j=>.int (i - j)) fun i j _=>.int _)
theorem xa [Tb] {i j : Int} (hc : j ≠ 0) (ha : Ev ta σ G M M1 (DD K (.int i))) (hb : Ev tb σ G M1 M2 (DD K (.int j))) : Ev (tOp (rI (fun _ j=>j ≠ 0) fun i j=>.int (i.fmod j)) ta tb) σ G M M2 (DD K (.int (i.fmod j))):=ev_op aQ ha hb (rv_I (f:=fun i j=>.int (i.fmod j)) (fun i j _=>.int _) hc)
theorem xS [Tb] {i j : Int} (hc : CPow i j) (ha : Ev ta σ G M M1 (DD K (.int i))) (hb : Ev tb σ G M1 M2 (DD K (.int j))) : Ev (tOp (rI CPow fun i j=>.int (i ^ j.toNat)) ta tb) σ G M M2 (DD K (.int (i ^ j.toNat))):=ev_op aQ ha hb (rv_I (f:=fun i j=>.int (i ^ j.toNat)) (fun i j _=>.int _) hc)
theorem uy [Tb] {i j : Int} (ha : Ev ta σ G M M1 (DD K (.int i))) (hb : Ev tb σ G M1 M2 (DD K (.int j))) : Ev (tOp (rI0 fun i j=>.bl (decide (i < j))) ta tb) σ G M M2 (DD K (.bool (decide (i < j)))):=ev_op aQ ha hb (rv_I0 (f:=fun i j=>.bool (decide (i < j))) fun i j _=>.bl _)
theorem gW [Tb] {i j : Int} (ha : Ev ta σ G M M1 (DD K (.int i))) (hb : Ev tb σ G M1 M2 (DD K (.int j))) : Ev (tOp (rI0 fun i j=>.bl (decide (j < i))) ta tb) σ G M M2 (DD K (.bool (decide (j < i)))):=ev_op aQ ha hb (rv_I0 (f:=fun i j=>.bool (decide (j < i))) fun i j _=>.bl _)
theorem nW [Tb] {i j : Int} (ha : Ev ta σ G M M1 (DD K (.int i))) (hb : Ev tb σ G M1 M2 (DD K (.int j))) : Ev (tOp rEq ta tb) σ G M M2 (DD K (.bool (decide (i = j)))):=ev_op aQ ha hb fun x y G0 H s k hx hy Q q=>by
  cases hx; cases hy
  refine ⟨rfl,q _ G0 H (Same.refl _) k ?_⟩
  rw [show decide (V.int i = V.int j) = decide (i = j) by simp]
  exact .bl _
theorem g9 [Tb] {i j : Int} (ha : Ev ta σ G M M1 (DD K (.int i))) (hb : Ev tb σ G M1 M2 (DD K (.int j))) : Ev (tOp rNe ta tb) σ G M M2 (DD K (.bool (!decide (i = j)))):=ev_op aQ ha hb fun x y G0 H s k hx hy Q q=>by
  cases hx; cases hy
  refine ⟨rfl,q _ G0 H (Same.refl _) k ?_⟩
  rw [show decide (V.int i = V.int j) = decide (i = j) by simp]
  exact .bl _
theorem xg [Tb] {i j : Str} (ha : Ev ta σ G M M1 (DD K (.str i))) (hb : Ev tb σ G M1 M2 (DD K (.str j))) : Ev (tOp rEq ta tb) σ G M M2 (DD K (.bool (decide (i = j)))):=ev_op aQ ha hb fun x y G0 H s k hx hy Q q=>by
  cases hx; cases hy
  refine ⟨rfl,q _ G0 H (Same.refl _) k ?_⟩
  rw [show decide (V.str i = V.str j) = decide (i = j) by simp]
  exact .bl _
theorem uj [Tb] {i j : Str} (ha : Ev ta σ G M M1 (DD K (.str i))) (hb : Ev tb σ G M1 M2 (DD K (.str j))) : Ev (tOp rNe ta tb) σ G M M2 (DD K (.bool (!decide (i = j)))):=ev_op aQ ha hb fun x y G0 H s k hx hy Q q=>by
  cases hx; cases hy
  refine ⟨rfl,q _ G0 H (Same.refl _) k ?_⟩
  rw [show decide (V.str i = V.str j) = decide (i = j) by simp]
  exact .bl _
theorem eA {v : V} {n : Nat} (p : pur d = true) (hn : (toPy d).depth ≤ 64) (h : Dq K G v d) : SeqAt.shaped (toPy d) = true:=by
  unfold SeqAt.shaped
  rw [sR d p h]
  simpa using hn
theorem xQ [Tb] (p1 : pur d = true) (p2 : pur e = true) (h1 : (toPy d).depth ≤ 64) (h2 : (toPy e).depth ≤ 64) (ha : Ev ta σ G M M1 (DD K d)) (hb : Ev tb σ G M1 M2 (DD K e)) : Ev (tOp (rEqD K) ta tb) σ G M M2 (DD K (.bool (PyData.eqv (toPy d) (toPy e)))):=ev_op aQ ha hb fun x y G0 H s k hx hy Q q=>
  ⟨toPy d,toPy e,dX d p1 (aa k.g d hx),dX e p2 (aa k.g e hy),eA (n:=0) p1 h1 hx,eA (n:=0) p2 h2 hy,q _ G0 H (Same.refl _) k (.bl _)⟩
theorem xK [Tb] (p1 : pur d = true) (p2 : pur e = true) (h1 : (toPy d).depth ≤ 64) (h2 : (toPy e).depth ≤ 64) (ha : Ev ta σ G M M1 (DD K d)) (hb : Ev tb σ G M1 M2 (DD K e)) : Ev (tOp (rNeD K) ta tb) σ G M M2 (DD K (.bool (!PyData.eqv (toPy d) (toPy e)))):=ev_op aQ ha hb fun x y G0 H s k hx hy Q q=>
  ⟨toPy d,toPy e,dX d p1 (aa k.g d hx),dX e p2 (aa k.g e hy),eA (n:=0) p1 h1 hx,eA (n:=0) p2 h2 hy,q _ G0 H (Same.refl _) k (.bl _)⟩
theorem pS [Tb] (p1 : pur d = true) (p2 : pur (.list ds) = true) (h1 : (toPy d).depth ≤ 64) (h2 : (toPy (.list ds)).depth ≤ 64) (ha : Ev ta σ G M M1 (DD K d)) (hb : Ev tb σ G M1 M2 (DD K (.list ds))) : Ev (tOp (rNotInD K) ta tb) σ G M M2 (DD K (.bool (!(cB ds).any fun z=>PyData.eqv z (toPy d)))):=ev_op aQ ha hb fun x y G0 H s k hx hy Q q=>by
  have e : toPy (.list ds) = .list (cB ds):=by unfold toPy; rfl
  have h3:=dX _ p2 (aa k.g _ hy)
  have h4:=eA (n:=0) p2 h2 hy
  rw [e] at h3 h4
  exact ⟨toPy d,cB ds,dX d p1 (aa k.g d hx),h3,eA (n:=0) p1 h1 hx,h4,q _ G0 H (Same.refl _) k (.bl _)⟩
theorem bM {G : Hp} {v : V} (h : Dq K G v (.list ds)) : ∃ a vs,v = .ref a∧G a = some (.lst vs)∧ap K G vs ds:=by
  cases h with | lst a b=>exact ⟨_,_,rfl,a,b⟩
theorem bx {G : Hp} {v : V} (h : Dq K G v (.tuple ds)) : ∃ a vs,v = .ref a∧SqT K G a vs∧ap K G vs ds:=by
  cases h with | tup a b=>exact ⟨_,_,rfl,a.sq,b⟩
theorem j3 {G : Hp} {v : V} (h : Dq K G v (.rtup ds)) : ∃ a vs,v = .ref a∧G a = some (.tup vs)∧ap K G vs ds:=by
  cases h with | rtup a b=>exact ⟨_,_,rfl,a,b⟩
theorem nR {G : Hp} {vs : List V} {i : Int} (h : ap K G vs ds) (ha : atI ds i = some d) : ∃ v,atI vs i = some v∧Dq K G v d:=by
  unfold atI at ha ⊢
  rw [aw h]
  cases e : ixN ds.length i with
  | none=>rw [e] at ha; cases ha
  | some j=>
    rw [e] at ha
    obtain ⟨v,h1,h2⟩:=dq h ha
    exact ⟨v,h1,h2⟩
theorem xn [Tb] {i : Int} (hi : atI ds i = some d) (ha : Ev ta σ G M M1 (DD K (.list ds))) (hb : Ev tb σ G M1 M2 (DD K (.int i))) : Ev (tOp (rIxL K) ta tb) σ G M M2 (DD K d):=ev_op aQ ha hb fun x y G0 H s k hx hy Q q=>by
  obtain ⟨a,vs,rfl,h1,h2⟩:=bM hx
  cases hy
  obtain ⟨v,h3,h4⟩:=nR h2 hi
  exact ⟨a,vs,i,v,rfl,rfl,.inl (.inl (k.g _ _ h1)),h3,q v G0 H (Same.refl _) k h4⟩
theorem au [Tb] {i : Int} (hi : atI ds i = some d) (ha : Ev ta σ G M M1 (DD K (.tuple ds))) (hb : Ev tb σ G M1 M2 (DD K (.int i))) : Ev (tOp (rIxT K) ta tb) σ G M M2 (DD K d):=ev_op aQ ha hb fun x y G0 H s k hx hy Q q=>by
  obtain ⟨a,vs,rfl,h1,h2⟩:=bx hx
  cases hy
  obtain ⟨v,h3,h4⟩:=nR h2 hi
  exact ⟨a,vs,i,v,rfl,rfl,bN k.g h1,h3,q v G0 H (Same.refl _) k h4⟩
theorem fA [Tb] {i : Int} {p : Addr} {vs : List V} (ha : Ev ta σ G M M1 (OW p)) (hb : Ev tb σ G M1 M2 (DD K (.int i))) (hp : M2 p = some (.lst vs)) (hv : ap K G vs ds) (hi : atI ds i = some d) : Ev (tOp (rIxL K) ta tb) σ G M M2 (DD K d):=ev_op bo ha hb fun x y G0 H s k hx hy Q q=>by
  cases hx
  cases hy
  obtain ⟨v,h3,h4⟩:=nR hv hi
  exact ⟨p,vs,i,v,rfl,rfl,.inl (.inl (k.m _ _ hp)),h3,q v G0 H (Same.refl _) k (aa s d h4)⟩
def cut {α : Type} (xs : List α) (lo hi : Option Int) : List α:=(xs.drop (HT.sIx xs.length 0 lo)).take (HT.sIx xs.length xs.length hi - HT.sIx xs.length 0 lo)
theorem uw {G : Hp} {vs : List V} {lo hi : Option Int} (h : ap K G vs ds) : ap K G (cutV vs lo hi) (cut ds lo hi):=by
  unfold cutV cut
  rw [aw h]
  exact iE _ (iY _ h)
theorem oP {α β : Type} {f : α→β} {xs : List α} {lo hi : Option Int} : cut (xs.map f) lo hi = (cut xs lo hi).map f:=by
  unfold cut
  rw [List.length_map,← List.map_drop,← List.map_take]
theorem eo_none [Tb] : EvO tNoPart σ G M M none:=fun G0 H _ k Q q=>q G0 H (Same.refl _) k
theorem eo_some [Tb] {i : Int} (h : Ev te σ G M M1 (DD K (.int i))) : EvO (tPart te) σ G M M1 (some i):=fun G0 H s k Q q=>h G0 H s k _ fun v G1 H1 s1 k1 hv=>by
  cases hv
  exact ⟨i,rfl,q G1 H1 s1 k1⟩
theorem yR [Tb] {tl th : TO} {lo hi : Option Int} (h : Ev te σ G M M (DD K (.list ds))) (h1 : EvO tl σ G M M lo) (h2 : EvO th σ G M M hi) : EvL K (tSl (rSlL K) te tl th) σ G M M (cut ds lo hi):=fun G0 H s k Q q=>
  h G0 H s k _ fun x G1 H1 s1 k1 hx=>h1 G1 H1 (s.trans s1) k1 _ fun G2 H2 s2 k2=>h2 G2 H2 ((s.trans s1).trans s2) k2 _ fun G3 H3 s3 k3=>by
    obtain ⟨a,vs,rfl,ha,hb⟩:=bM hx
    have s13:=s2.trans s3
    exact ⟨a,vs,rfl,.inl (.inl ((s13.trans k3.g) _ _ ha)),qt (s1.trans s13) k3 (aj s13 _ (uw hb)) q⟩
end
end Kx
end
section
namespace Kx
open PySem L2
section
variable {K : Fg} {σ : St} {G G' M M1 M2 M3 : Hp} {ta tb te tc : TE} {P P1 P2 : VP} {d e : Dat} {ds es : List Dat}
theorem kA [Tb] {tl th : TO} {lo hi : Option Int} (h : Ev te σ G M M (DD K (.tuple ds))) (h1 : EvO tl σ G M M lo) (h2 : EvO th σ G M M hi) : Ev (tSl (vU K) te tl th) σ G M M (DD K (.tuple (cut ds lo hi))):=fun G0 H s k Q q=>
  h G0 H s k _ fun x G1 H1 s1 k1 hx=>h1 G1 H1 (s.trans s1) k1 _ fun G2 H2 s2 k2=>h2 G2 H2 ((s.trans s1).trans s2) k2 _ fun G3 H3 s3 k3=>by
    have s13:=s2.trans s3
    have hx3:=aa s13 _ hx
    obtain ⟨a,vs,rfl,ha,hb⟩:=bx hx3
    refine ⟨a,vs,rfl,bN k3.g ha,fun hw=>?_,fun _=>vE (s1.trans s13) k3 (uw hb) q⟩
    have e1 : cut ds lo hi = ds:=by
      unfold cut
      rw [← aw hb,hw.1,hw.2,List.drop_zero,Nat.sub_zero,aw hb,List.take_length]
    rw [e1] at q
    exact q _ G3 H3 (s1.trans s13) k3 hx3
theorem v4 [Tb] (hl : ds.length + es.length ≤ sizeLine) (ha : Ev ta σ G M M1 (DD K (.tuple ds))) (hb : Ev tb σ G M1 M2 (DD K (.tuple es))) : Ev (tOp (oI K) ta tb) σ G M M2 (DD K (.tuple (ds ++ es))):=ev_op aQ ha hb fun x y G0 H s k hx hy Q q=>by
  obtain ⟨a,vs,rfl,ha,hb⟩:=bx hx
  obtain ⟨b,ws,rfl,hc,hd⟩:=bx hy
  have l1:=aw hb
  have l2:=aw hd
  refine ⟨a,b,vs,ws,rfl,rfl,bN k.g ha,bN k.g hc,by rw [l1,l2]; exact hl,fun z=>?_,fun _ z=>?_,fun _ _=>vE (Same.refl _) k (bJ hb hd) q⟩
  · subst z
    cases hb
    exact q _ G0 H (Same.refl _) k hy
  · subst z
    cases hd
    rw [List.append_nil] at q
    exact q _ G0 H (Same.refl _) k hx
theorem yJ [Tb] (hl : ds.length + es.length ≤ sizeLine) (ha : Ev ta σ G M M1 (DD K (.list ds))) (hb : Ev tb σ G M1 M2 (DD K (.list es))) : EvL K (tOp rCat ta tb) σ G M M2 (ds ++ es):=Bi aQ ha hb fun x y G0 H s k hx hy Q q=>by
  obtain ⟨a,vs,rfl,ha,hb⟩:=bM hx
  obtain ⟨b,ws,rfl,hc,hd⟩:=bM hy
  exact ⟨a,b,vs,ws,rfl,rfl,k.g _ _ ha,k.g _ _ hc,by rw [aw hb,aw hd]; exact hl,qt (Same.refl _) k (bJ hb hd) q⟩
def kh (K : Fg) : List V→Hp→VK→Prop:=fun xs H Q=>∃ p ys,xs = [.ref p]∧(SqL K H p ys∨SqT K H p ys)∧∀ l,H l = none→Q (.ref l) (upd H l (.lst ys))
def rLen (K : Fg) : List V→Hp→VK→Prop:=fun xs H Q=>∃ p ys,xs = [.ref p]∧(SqL K H p ys∨SqT K H p ys)∧Q (.int ys.length) H
theorem one_of {R : List V→Hp→Prop} {xs : List V} {G : Hp} (h : ak P az xs G) : ∃ v,xs = [v]∧P v G:=by
  obtain ⟨v,r,rfl,hp,hr⟩:=h
  cases hr
  exact ⟨v,rfl,hp⟩
theorem qQ [Tb] (ha : EvA (tCons ta tNil) σ G M M1 (ak (DD K (.list ds)) az)) : EvL K (tCB (kh K) (tCons ta tNil)) σ G M M1 ds:=el_cb ha fun xs G0 H s k hx Q q=>by
  obtain ⟨v,rfl,hv⟩:=one_of (R:=az) hx
  obtain ⟨a,vs,rfl,ha,hb⟩:=bM hv
  exact ⟨a,vs,rfl,.inl (.inl (.inl (k.g _ _ ha))),qt (Same.refl _) k hb q⟩
theorem cx [Tb] (ha : EvA (tCons ta tNil) σ G M M1 (ak (DD K (.list ds)) az)) : Ev (tCB (ib K) (tCons ta tNil)) σ G M M1 (DD K (.tuple ds)):=ev_cb ha fun xs G0 H s k hx Q q=>by
  obtain ⟨v,rfl,hv⟩:=one_of (R:=az) hx
  obtain ⟨a,vs,rfl,ha,hb⟩:=bM hv
  exact ⟨a,vs,rfl,.inl ⟨.inl (.inl (k.g _ _ ha)),vE (Same.refl _) k hb q⟩⟩
theorem ki [Tb] {p : Addr} {vs : List V} (hp : M1 p = some (.lst vs)) (hd : ap K G vs ds) (ha : EvA (tCons ta tNil) σ G M M1 (ak (OW p) az)) : Ev (tCB (ib K) (tCons ta tNil)) σ G M M1 (DD K (.tuple ds)):=ev_cb ha fun xs G0 H s k hx Q q=>by
  obtain ⟨v,rfl,hv⟩:=one_of (R:=az) hx
  cases hv
  exact ⟨p,vs,rfl,.inl ⟨.inl (.inl (k.m _ _ hp)),vE (Same.refl _) k (aj s _ hd) q⟩⟩
theorem vn [Tb] (ha : EvA (tCons ta tNil) σ G M M1 (ak (DD K (.list ds)) az)) : Ev (tCB (rLen K) (tCons ta tNil)) σ G M M1 (DD K (.int (ds.length : Int))):=ev_cb ha fun xs G0 H s k hx Q q=>by
  obtain ⟨v,rfl,hv⟩:=one_of (R:=az) hx
  obtain ⟨a,vs,rfl,ha,hb⟩:=bM hv
  refine ⟨a,vs,rfl,.inl (.inl (.inl (k.g _ _ ha))),q _ G0 H (Same.refl _) k ?_⟩
  rw [aw hb]
  exact .int _
theorem gJ [Tb] (ha : EvA (tCons ta tNil) σ G M M1 (ak (DD K (.tuple ds)) az)) : Ev (tCB (rLen K) (tCons ta tNil)) σ G M M1 (DD K (.int (ds.length : Int))):=ev_cb ha fun xs G0 H s k hx Q q=>by
  obtain ⟨v,rfl,hv⟩:=one_of (R:=az) hx
  obtain ⟨a,vs,rfl,ha,hb⟩:=bx hv
  refine ⟨a,vs,rfl,.inr (bN k.g ha),q _ G0 H (Same.refl _) k ?_⟩
  rw [aw hb]
  exact .int _
theorem vb [Tb] {p : Addr} {vs : List V} (hp : M1 p = some (.lst vs)) (hd : ap K G vs ds) (ha : EvA (tCons ta tNil) σ G M M1 (ak (OW p) az)) : Ev (tCB (rLen K) (tCons ta tNil)) σ G M M1 (DD K (.int (ds.length : Int))):=ev_cb ha fun xs G0 H s k hx Q q=>by
  obtain ⟨v,rfl,hv⟩:=one_of (R:=az) hx
  cases hv
  refine ⟨p,vs,rfl,.inl (.inl (.inl (k.m _ _ hp))),q _ G0 H (Same.refl _) k ?_⟩
  rw [aw hd]
  exact .int _
theorem fK [Tb] {bs : List Bool} (ha : EvA (tCons ta tNil) σ G M M1 (ak (DD K (.list (bs.map Dat.bool))) az)) : Ev (tCB (rAll K) (tCons ta tNil)) σ G M M1 (DD K (.bool (bs.all id))):=ev_cb ha fun xs G0 H s k hx Q q=>by
  obtain ⟨v,rfl,hv⟩:=one_of (R:=az) hx
  obtain ⟨a,vs,rfl,ha,hb⟩:=bM hv
  rw [jH hb] at ha
  exact ⟨a,bs,rfl,.inl (.inl (k.g _ _ ha)),q _ G0 H (Same.refl _) k (.bl _)⟩
def wK : List V→Hp→VK→Prop:=fun xs H Q=>(∃ i,xs = [.int i]∧Q (.int i) H)∨∃ k,xs = [.bl k]∧Q (.int (if k then 1 else 0)) H
theorem oQ [Tb] {b : Bool} (ha : EvA (tCons ta tNil) σ G M M1 (ak (DD K (.bool b)) az)) : Ev (tCB wK (tCons ta tNil)) σ G M M1 (DD K (.int (if b then 1 else 0))):=ev_cb ha fun xs G0 H s k hx Q q=>by
  obtain ⟨v,rfl,hv⟩:=one_of (R:=az) hx
  cases hv
  exact .inr ⟨b,rfl,q _ G0 H (Same.refl _) k (.int _)⟩
def B5 : List V→Hp→VK→Prop:=fun xs H Q=>∃ i,xs = [.int i]∧Q (.int (if i < 0 then -i else i)) H
theorem rR [Tb] {i : Int} (ha : EvA (tCons ta tNil) σ G M M1 (ak (DD K (.int i)) az)) : Ev (tCB B5 (tCons ta tNil)) σ G M M1 (DD K (.int (if i < 0 then -i else i))):=ev_cb ha fun xs G0 H s k hx Q q=>by
  obtain ⟨v,rfl,hv⟩:=one_of (R:=az) hx
  cases hv
  exact ⟨i,rfl,q _ G0 H (Same.refl _) k (.int _)⟩
def wR : List V→Hp→VK→Prop:=fun xs H Q=>∃ i j,xs = [.int i,.int j]∧Q (.int (if j > i then j else i)) H
def wV : List V→Hp→VK→Prop:=fun xs H Q=>∃ i j,xs = [.int i,.int j]∧Q (.int (if j < i then j else i)) H
theorem dB {xs : List V} {G : Hp} (h : ak P (ak P1 az) xs G) : ∃ v w,xs = [v,w]∧P v G∧P1 w G:=by
  obtain ⟨v,r,rfl,hp,hr⟩:=h
  obtain ⟨w,r,rfl,hq,hr⟩:=hr
  cases hr
  exact ⟨v,w,rfl,hp,hq⟩
theorem ev_max2 [Tb] {i j : Int} (ha : EvA (tCons ta (tCons tb tNil)) σ G M M1 (ak (DD K (.int i)) (ak (DD K (.int j)) az))) : Ev (tCB wR (tCons ta (tCons tb tNil))) σ G M M1 (DD K (.int (if j > i then j else i))):=ev_cb ha fun xs G0 H s k hx Q q=>by
  obtain ⟨v,w,rfl,hv,hw⟩:=dB hx
  cases hv; cases hw
  exact ⟨i,j,rfl,q _ G0 H (Same.refl _) k (.int _)⟩
theorem uU [Tb] {i j : Int} (ha : EvA (tCons ta (tCons tb tNil)) σ G M M1 (ak (DD K (.int i)) (ak (DD K (.int j)) az))) : Ev (tCB wV (tCons ta (tCons tb tNil))) σ G M M1 (DD K (.int (if j < i then j else i))):=ev_cb ha fun xs G0 H s k hx Q q=>by
  obtain ⟨v,w,rfl,hv,hw⟩:=dB hx
  cases hv; cases hw
  exact ⟨i,j,rfl,q _ G0 H (Same.refl _) k (.int _)⟩
def ku : List V→Hp→VK→Prop:=fun xs H Q=>∃ i j,xs = [.int i,.int j]∧CDivW i j∧∀ p,H p = none→Q (.ref p) (upd H p (.tup [.int (i / j),.int (i % j)]))
theorem p9 [Tb] {i j : Int} (hc : CDivW i j) (ha : EvA (tCons ta (tCons tb tNil)) σ G M M1 (ak (DD K (.int i)) (ak (DD K (.int j)) az))) : Ev (tCB ku (tCons ta (tCons tb tNil))) σ G M M1 (DD K (.rtup [.int (i / j),.int (i % j)])):=ev_cb ha fun xs G0 H s k hx Q q=>by
  obtain ⟨v,w,rfl,hv,hw⟩:=dB hx
  cases hv; cases hw
  exact ⟨i,j,rfl,hc,zo (Same.refl _) k (.cons (.int _) (.cons (.int _) .nil)) q⟩
def tyD : Dat→String
  | .none=>"NoneType"
  | .bool _=>"bool"
  | .int _=>"int"
  | .str _=>"str"
  | .list _=>"list"
  | .tuple _=>"tuple"
  | .rtup _=>"tuple"
  | .dK _ _=>"dict"
  | .dT _ _=>"dict"
  | .ins _ _ _=>"object"
  | .dN _ _ _=>"dict"
def pd : Dat→Bool
  | .ins _ _ _=>true
  | .dT _ _=>true
  | .dN _ _ _=>true
  | _=>false
structure ph (K : Fg) (C : Addr) : Prop where
  cl : Cls K C
  ha : PySem.W.findIn K (.ref C) "__class__" = some (some (.builtin "object.__class__"))
  hn : PySem.W.specialIn K (.builtin "object.__class__") "__get__" = some (some (.builtin "getset_descriptor.__get__"))
  htk : PySem.W.takesIn K (.builtin "object.__class__") = some true
  hm : PySem.W.mroIn K C (.type "object") = some true
def tyV (K : Fg) : Dat→Value
  | .ins C _ _=>.ref (clsAt K C)
  | d=>.type (tyD d)
theorem sO {H : Hp} {v : V} (s : Same G H) (hc : ∀ C ns xs,d = .ins C ns xs→ph K (clsAt K C)) (hT : (∀ ks xs,d ≠ .dT ks xs)∧∀ w ks xs,d ≠ .dN w ks xs) (h : Dq K G v d) : TyX K H v (tyV K d):=by
  cases h with
  | non=>exact .base .non
  | bl b=>exact .base (.bl b)
  | int i=>exact .base (.int i)
  | str x=>exact .base (.str _)
  | lst a b=>exact .base (.lst (s _ _ a))
  | tup a b=>
    rcases a with ⟨o,a,_⟩ | ⟨o,its,n,h1,h2,_⟩
    · exact .fTuple (s _ _ a)
    · exact .kTuple h1 h2
  | rtup a b=>exact .base (.tup (s _ _ a))
  | dK a _ _ _=>
    rcases a with a | ⟨o,a⟩
    · exact .base (.dK (s _ _ a))
    · exact .fDict (s _ _ a)
  | dT a _ _ _=>exact absurd rfl (hT.1 _ _)
  | dN _ _ _ _=>exact absurd rfl (hT.2 _ _ _)
  | ins a b c=>
    have q:=hc _ _ _ rfl
    exact .base (.ins (s _ _ a) q.cl q.ha q.hn q.htk q.hm)
theorem yp (h : pd d = false) : tyV K d = .type (tyD d):=by
  cases d <;> first | rfl | cases h
theorem CQ (h : pd d = false) : (∀ ks xs,d ≠ .dT ks xs)∧∀ w ks xs,d ≠ .dN w ks xs:=
  ⟨fun ks xs e=>(by subst e; cases h),fun w ks xs e=>(by subst e; cases h)⟩
theorem zu (h : pd d = false) : ∀ C ns xs,d = .ins C ns xs→ph K (clsAt K C):=fun C ns xs e=>by subst e; cases h
abbrev CLS (n : String) : VP:=fun v _=>v = .ty n
theorem cY {n : String} : Mo (CLS n):=fun _ _ _ _ h=>h
theorem cO [Tb] {n : String} : Ev (tC (.ty n)) σ G M M (CLS n):=fun G0 H _ k Q q=>q _ G0 H (Same.refl _) k rfl
theorem cU [Tb] {n : String} {b : Bool} (hi : pd d = false) (hb : kitB (tyD d) n = some b) (ha : EvA (tCons ta (tCons tb tNil)) σ G M M1 (ak (DD K d) (ak (CLS n) az))) : Ev (tCB (rIsi K) (tCons ta (tCons tb tNil))) σ G M M1 (DD K (.bool b)):=ev_cb ha fun xs G0 H s k hx Q q=>by
  obtain ⟨v,w,rfl,hv,hw⟩:=dB hx
  cases hw
  exact ⟨v,_,_,_,b,rfl,.ty n,yp hi ▸ sO k.g (zu hi) (CQ hi) hv,kit_ty hb,q _ G0 H (Same.refl _) k (.bl _)⟩
theorem et_B [Tb] {b : Bool} (h : Ev te σ G M M1 (DD K (.bool b))) : EvT (tB te) σ G M M1 b:=fun G0 H s k Q q=>h G0 H s k _ fun v G1 H1 s1 k1 hv=>by
  cases hv
  exact ⟨b,rfl,q G1 H1 s1 k1⟩
theorem et_test [Tb] {b : Bool} (h : Ev te σ G M M1 (DD K (.bool b))) : EvT (tTest te) σ G M M1 b:=fun G0 H s k Q q=>h G0 H s k _ fun v G1 H1 s1 k1 hv=>by
  cases hv
  exact ⟨b,rfl,q G1 H1 s1 k1⟩
theorem et_not [Tb] {t : TT} {b : Bool} (h : EvT t σ G M M1 b) : EvT (tNot t) σ G M M1 (!b):=fun G0 H s k Q q=>h G0 H s k _ fun G1 H1 s1 k1=>q G1 H1 s1 k1
theorem j7 [Tb] {t u : TT} {a c : Bool} (h : EvT t σ G M M1 a) (h1 : a = true→EvT u σ G M1 M2 c) (h2 : a = false→c = false∧M2 = M1) : EvT (tAnd t u) σ G M M2 c:=fun G0 H s k Q q=>h G0 H s k _ fun G1 H1 s1 k1=>by
  cases a with
  | true=>exact iteT (h1 rfl G1 H1 (s.trans s1) k1 Q fun G2 H2 s2 k2=>q G2 H2 (s1.trans s2) k2)
  | false=>
    obtain ⟨rfl,rfl⟩:=h2 rfl
    exact iteF (q G1 H1 s1 k1)
theorem hL [Tb] {t u : TT} {a c : Bool} (h : EvT t σ G M M1 a) (h1 : a = false→EvT u σ G M1 M2 c) (h2 : a = true→c = true∧M2 = M1) : EvT (tOr t u) σ G M M2 c:=fun G0 H s k Q q=>h G0 H s k _ fun G1 H1 s1 k1=>by
  cases a with
  | false=>exact iteF (h1 rfl G1 H1 (s.trans s1) k1 Q fun G2 H2 s2 k2=>q G2 H2 (s1.trans s2) k2)
  | true=>
    obtain ⟨rfl,rfl⟩:=h2 rfl
    exact iteT (q G1 H1 s1 k1)
theorem et_and [Tb] {t u : TT} {a b : Bool} (h : EvT t σ G M M1 a) (h1 : a = true→EvT u σ G M1 M1 b) : EvT (tAnd t u) σ G M M1 (a && b):=j7 h (fun e=>by rw [e]; exact h1 e) fun e=>by rw [e]; exact ⟨rfl,rfl⟩
theorem et_or [Tb] {t u : TT} {a b : Bool} (h : EvT t σ G M M1 a) (h1 : a = false→EvT u σ G M1 M1 b) : EvT (tOr t u) σ G M M1 (a || b):=hL h (fun e=>by rw [e]; exact h1 e) fun e=>by rw [e]; exact ⟨rfl,rfl⟩
theorem fH [Tb] {a c : Bool} (h : Ev ta σ G M M1 (DD K (.bool a))) (h1 : a = true→Ev tb σ G M1 M2 (DD K (.bool c))) (h2 : a = false→c = false∧M2 = M1) : Ev (tAndV ta tb) σ G M M2 (DD K (.bool c)):=fun G0 H s k Q q=>h G0 H s k _ fun v G1 H1 s1 k1 hv=>by
  cases hv
  refine ⟨a,rfl,?_⟩
  cases a with
  | true=>exact iteT (h1 rfl G1 H1 (s.trans s1) k1 Q fun v G2 H2 s2 k2=>q v G2 H2 (s1.trans s2) k2)
  | false=>
    obtain ⟨rfl,rfl⟩:=h2 rfl
    exact iteF (q _ G1 H1 s1 k1 (.bl _))
theorem xE [Tb] {a c : Bool} (h : Ev ta σ G M M1 (DD K (.bool a))) (h1 : a = false→Ev tb σ G M1 M2 (DD K (.bool c))) (h2 : a = true→c = true∧M2 = M1) : Ev (tOrV ta tb) σ G M M2 (DD K (.bool c)):=fun G0 H s k Q q=>h G0 H s k _ fun v G1 H1 s1 k1 hv=>by
  cases hv
  refine ⟨a,rfl,?_⟩
  cases a with
  | false=>exact iteF (h1 rfl G1 H1 (s.trans s1) k1 Q fun v G2 H2 s2 k2=>q v G2 H2 (s1.trans s2) k2)
  | true=>
    obtain ⟨rfl,rfl⟩:=h2 rfl
    exact iteT (q _ G1 H1 s1 k1 (.bl _))
theorem nO [Tb] {a b : Bool} (h : Ev ta σ G M M1 (DD K (.bool a))) (h1 : a = true→Ev tb σ G M1 M1 (DD K (.bool b))) : Ev (tAndV ta tb) σ G M M1 (DD K (.bool (a && b))):=fH h (fun e=>by rw [e]; exact h1 e) fun e=>by rw [e]; exact ⟨rfl,rfl⟩
theorem yH [Tb] {a : Bool} (h : Ev ta σ G M M1 (DD K (.bool a))) : Ev (tNotV ta) σ G M M1 (DD K (.bool (!a))):=fun G0 H s k Q q=>h G0 H s k _ fun v G1 H1 s1 k1 hv=>by
  cases hv
  exact ⟨a,rfl,q _ G1 H1 s1 k1 (.bl _)⟩
theorem ev_if [Tb] {t : TT} {b : Bool} (h : EvT t σ G M M1 b) (h1 : b = true→Ev ta σ G M1 M2 P) (h2 : b = false→Ev tb σ G M1 M2 P) : Ev (tIf t ta tb) σ G M M2 P:=fun G0 H s k Q q=>h G0 H s k _ fun G1 H1 s1 k1=>by
  cases b with
  | true=>exact iteT (h1 rfl G1 H1 (s.trans s1) k1 Q fun v G2 H2 s2 k2=>q v G2 H2 (s1.trans s2) k2)
  | false=>exact iteF (h2 rfl G1 H1 (s.trans s1) k1 Q fun v G2 H2 s2 k2=>q v G2 H2 (s1.trans s2) k2)
theorem gk [Tb] {g g' : Int→Int→Bool} {i j l : Int} (ha : Ev ta σ G M M1 (DD K (.int i))) (hb : Ev tb σ G M1 M2 (DD K (.int j))) (hc : Ev tc σ G M2 M2 (DD K (.int l))) :
    Ev (tChain (rI0 fun i j=>.bl (g i j)) (rI0 fun i j=>.bl (g' i j)) ta tb tc) σ G M M2 (DD K (.bool (g i j && g' j l))):=fun G0 H s k Q q=>
  ha G0 H s k _ fun x G1 H1 s1 k1 hx=>hb G1 H1 (s.trans s1) k1 _ fun y G2 H2 s2 k2 hy=>by
    cases hx; cases hy
    refine ⟨i,j,rfl,rfl,g i j,rfl,?_⟩
    cases e : g i j with
    | true=>
      refine iteT (hc G2 H2 ((s.trans s1).trans s2) k2 _ fun z G3 H3 s3 k3 hz=>?_)
      cases hz
      refine ⟨j,l,rfl,rfl,?_⟩
      rw [e] at q
      exact q _ G3 H3 ((s1.trans s2).trans s3) k3 (.bl _)
    | false=>
      rw [e] at q
      exact iteF (q _ G2 H2 (s1.trans s2) k2 (.bl _))
def spP [Tb] {α ρ : Type} (args : α→List V→Hp→Prop) (m : α→Option ρ) (res : ρ→VP) : Sp:=fun vs H Q _=>
  ∃ (G M : Hp) (a : α) (r : ρ),Ok G M H∧args a vs G∧m a = some r∧∀ v G' H',Same G G'→Ok G' M H'→res r v G'→Q v H'
abbrev Sto:=Int×Int×Int
def sto (z : Sto) : HO:=.lst [.int z.1,.int z.2.1,.int z.2.2]
def spD [Tb] {α ρ : Type} (args : α→List V→Hp→Prop) (m : α→Sto→Option (ρ×Sto)) (res : ρ→VP) : Sp:=fun vs H Q _=>
  ∃ (G M : Hp) (s : Addr) (z z' : Sto) (a : α) (r : ρ) (ws : List V),vs = .ref s :: ws∧Ok G M H∧M s = some (sto z)∧args a ws G∧m a z = some (r,z')∧∀ v G' H',Same G G'→Ok G' (upd M s (sto z')) H'→res r v G'→Q v H'
theorem ai [Tb] {α ρ : Type} {args : α→List V→Hp→Prop} {m : α→Option ρ} {res : ρ→VP} {E : XK} {t : TA} {a : α} {r : ρ} (hm : m a = some r) (ha : EvA t σ G M M1 (args a)) : Ev (tCall (spP args m res) [] E t) σ G M M1 (res r):=fun G0 H s k Q q=>
  ha G0 H s k _ fun vs G1 H1 s1 k1 hv=>by
    rw [List.append_nil]
    exact ⟨G1,M1,a,r,k1,hv,hm,fun v G2 H2 s2 k2 hr=>q v G2 H2 (s1.trans s2) k2 hr⟩
theorem aL [Tb] {α ρ : Type} {args : α→List V→Hp→Prop} {m : α→Sto→Option (ρ×Sto)} {res : ρ→VP} {E : XK} {t : TA} {a : α} {r : ρ} {s : Addr} {z z' : Sto} (hs : M1 s = some (sto z)) (hm : m a z = some (r,z')) (ha : EvA t σ G M M1 (ak (OW s) (args a))) : Ev (tCall (spD args m res) [] E t) σ G M (upd M1 s (sto z')) (res r):=fun G0 H s k Q q=>
  ha G0 H s k _ fun vs G1 H1 s1 k1 hv=>by
    obtain ⟨v,ws,rfl,rfl,hw⟩:=hv
    rw [List.append_nil]
    exact ⟨G1,M1,_,z,z',a,r,ws,rfl,k1,hs,hw,hm,fun v G2 H2 s2 k2 hr=>q v G2 H2 (s1.trans s2) k2 hr⟩
end
end Kx
end
section
namespace Kx
open PySem L2
section
variable {X : Cx}
theorem w4 : CallR X (.builtin "len") (rLen X.K):=call_len_seq
theorem uZ : CallR X (.type "list") (kh X.K):=call_list_of
theorem tR : CallR X (.type "tuple") (ib X.K):=pK
theorem qS : CallR X (.type "int") wK:=call_int1
theorem qN : CallR X (.builtin "abs") B5:=call_abs
theorem v6 (h : X.calm = true) : CallR X (.builtin "max") wR:=call_max2 h
theorem vO (h : X.calm = true) : CallR X (.builtin "min") wV:=call_min2 h
theorem qd : CallR X (.builtin "divmod") ku:=fun pins s σ H xs us Q I r h=>by
  obtain ⟨i,j,rfl,hc,q⟩:=h
  exact call_divmodW pins s σ H _ us Q I r ⟨i,j,rfl,⟨hc.1,PyProof.noPylong_of_log2 hc.2⟩,q⟩
end
section
variable {K : Fg} {σ : St} {G G' M M1 M2 M3 : Hp} {ta tb te tc : TE} {P P1 P2 : VP} {d e : Dat} {ds es : List Dat}
def Walks [Tb] (K : Fg) (J : It) (G : Hp) (ds : List Dat) : Prop:=
  ∃ (Y : Nat→Hp→V→Hp→Prop) (Gd : Hp→Prop),Walk J ds.length Gd Y∧(∀ H,Same G H→Gd H)∧
    ∀ i d H x H' G2 M2,ds[i]? = some d→Same G G2→Ok G2 M2 H→Y i H x H'→∃ G3,Same G2 G3∧Ok G3 M2 H'∧Dq K G3 x d
def Src [Tb] (K : Fg) (wi : TI) (σ : St) (G M M' : Hp) (ds : List Dat) : Prop:=
  ∀ G0 H,Same G G0→Ok G0 M H→∀ R : It→Hp→Prop,(∀ J G' H',Same G0 G'→Ok G' M' H'→Walks K J G' ds→R J H')→wi σ H R
theorem eh {vs : List V} {i : Nat} {x : V} (h : ap K G vs ds) (hx : vs[i]? = some x) (hd : ds[i]? = some d) : Dq K G x d:=by
  obtain ⟨v,h1,h2⟩:=dq h hd
  rw [hx] at h1
  cases h1
  exact h2
theorem src_list [Tb] (h : Ev ta σ G M M1 (DD K (.list ds))) : Src K (iList K ta) σ G M M1 ds:=fun G0 H s k R q=>
  h G0 H s k _ fun v G1 H1 s1 k1 hv=>by
    obtain ⟨a,vs,rfl,h1,h2⟩:=bM hv
    refine ⟨a,rfl,⟨vs,.inl (.inl (k1.g _ _ h1))⟩,q _ G1 H1 s1 k1 ?_⟩
    refine ⟨_,_,(aw h2) ▸ (walk_list (K:=K) (a:=a) (xs:=vs)),fun H s=>.inl (.inl (s _ _ h1)),fun i d H x H' G2 M2 hd s2 k2 y=>?_⟩
    obtain ⟨rfl,hx⟩:=y
    exact ⟨G2,Same.refl _,k2,aa s2 _ (eh h2 hx hd)⟩
theorem be [Tb] (h : Ev ta σ G M M1 (DD K (.tuple ds))) : Src K (iTup K ta) σ G M M1 ds:=fun G0 H s k R q=>
  h G0 H s k _ fun v G1 H1 s1 k1 hv=>by
    obtain ⟨a,vs,rfl,h1,h2⟩:=bx hv
    refine ⟨a,rfl,⟨vs,bN k1.g h1⟩,q _ G1 H1 s1 k1 ?_⟩
    refine ⟨_,_,(aw h2) ▸ (walk_tup (K:=K) (a:=a) (xs:=vs)),fun H s=>bN s h1,fun i d H x H' G2 M2 hd s2 k2 y=>?_⟩
    obtain ⟨rfl,hx⟩:=y
    exact ⟨G2,Same.refl _,k2,aa s2 _ (eh h2 hx hd)⟩
def aN (lo hi : Int) : List Int:=(List.range (hi - lo).toNat).map fun k : Nat=>lo + (k : Int)
theorem iV (lo hi : Int) : (aN lo hi).length = (hi - lo).toNat:=by
  unfold aN
  rw [List.length_map,List.length_range]
theorem cP {lo hi : Int} {i : Nat} (h : i < (hi - lo).toNat) : (aN lo hi)[i]? = some (lo + (i : Int)):=by
  unfold aN
  rw [List.getElem?_map,List.getElem?_range h]
  rfl
theorem mn [Tb] {lo hi : Int} {n : Nat} (e : n = (hi - lo).toNat) : Walks K (Itr lo n) G ((aN lo hi).map Dat.int):=by
  have el : ((aN lo hi).map Dat.int).length = n:=by rw [List.length_map,iV,e]
  refine ⟨YFn fun i=>.int (lo + i),fun _=>True,(by rw [el]; exact walk_range),fun H _=>True.intro,fun i d H x H' G2 M2 hd s2 k2 y=>?_⟩
  obtain ⟨rfl,rfl⟩:=y
  have hi : i < (hi - lo).toNat:=by
    rw [← e,← el]
    exact (List.getElem?_eq_some_iff.mp hd).1
  rw [List.getElem?_map,cP hi] at hd
  cases hd
  exact ⟨G2,Same.refl _,k2,.int _⟩
theorem nL [Tb] {ta : TA} {n : Int} (h1 : -(2 ^ 62) ≤ n) (h2 : n < 2 ^ 62) (h : EvA ta σ G M M1 (ak (DD K (.int n)) az)) : Src K (iRng1 ta) σ G M M1 ((aN 0 n).map Dat.int):=fun G0 H s k R q=>
  h G0 H s k _ fun vs G1 H1 s1 k1 hv=>by
    obtain ⟨v,rfl,hw⟩:=one_of (R:=az) hv
    cases hw
    exact ⟨n,rfl,h1,h2,q _ G1 H1 s1 k1 (mn (by rw [Int.sub_zero]))⟩
theorem lX {z : Str} {c : Nat} (h : sok z = true) (hc : c ∈ z.cps.toList) : sok ⟨#[c]⟩ = true:=by
  unfold sok PyData.strOk at h ⊢
  rw [Array.all_eq_true'] at h
  simp only [List.all_toArray,List.all_cons,List.all_nil,Bool.and_true,decide_eq_true_eq]
  have:=h c (by simpa using hc)
  simpa using this
theorem vF [Tb] {z : Str} (h : Ev ta σ G M M1 (DD K (.str z))) : Src K (iStr ta) σ G M M1 (z.cps.toList.map fun c=>Dat.str ⟨#[c]⟩):=fun G0 H s k R q=>
  h G0 H s k _ fun v G1 H1 s1 k1 hv=>by
    have hs : sok z = true:=by
      cases hv with
      | str h=>exact h
    cases hv
    refine ⟨z,rfl,q _ G1 H1 s1 k1 ?_⟩
    have el : (z.cps.toList.map fun c=>Dat.str ⟨#[c]⟩).length = z.cps.size:=by simp
    refine ⟨_,_,el ▸ walk_str,fun H _=>True.intro,fun i d H x H' G2 M2 hd s2 k2 y=>?_⟩
    obtain ⟨rfl,c,hc,rfl⟩:=y
    have e1 : (z.cps.toList)[i]? = some c:=by simpa using hc
    rw [List.getElem?_map,e1] at hd
    cases hd
    exact ⟨G2,Same.refl _,k2,.str (lX hs (List.mem_of_getElem? e1))⟩
theorem iJ [Tb] {J : It} {n : Nat} {xs ys : Nat→Option V} {Gd : Hp→Prop} (w : Walk J n Gd (YPair xs ys)) (hn : ds.length = n) (hG : ∀ H,Same G H→Gd H)
    (hd : ∀ (i : Nat) (d : Dat) (x y : V),ds[i]? = some d→xs i = some x→ys i = some y→∃ d1 d2,d = .rtup [d1,d2]∧Dq K G x d1∧Dq K G y d2) : Walks K J G ds:=by
  refine ⟨_,_,hn ▸ w,hG,fun i d H x H' G2 M2 hi s2 k2 y=>?_⟩
  obtain ⟨T,x,y,rfl,hT,rfl,hx,hy⟩:=y
  obtain ⟨d1,d2,rfl,h1,h2⟩:=hd i d x y hi hx hy
  have gT:=Same.none k2.g hT
  have s3 : Same G2 (upd G2 T (.tup [x,y])):=Same.new gT
  exact ⟨upd G2 T (.tup [x,y]),s3,k2.newG _ hT,.rtup upd_same (.cons (aa (s2.trans s3) _ h1) (.cons (aa (s2.trans s3) _ h2) .nil))⟩
def lq (ds : List Dat) : List Dat:=ds.mapIdx fun i d=>.rtup [.int (i : Int),d]
def pX (ds es : List Dat) : List Dat:=List.zipWith (fun a b=>.rtup [a,b]) ds es
theorem um {i : Nat} {p : Dat} (h : (pX ds es)[i]? = some p) : ∃ a b,p = .rtup [a,b]∧ds[i]? = some a∧es[i]? = some b:=by
  unfold pX at h
  rw [List.getElem?_zipWith] at h
  cases e1 : ds[i]? with
  | none=>rw [e1] at h; cases h
  | some a=>
    cases e2 : es[i]? with
    | none=>rw [e1,e2] at h; cases h
    | some b=>
      rw [e1,e2] at h
      cases h
      exact ⟨a,b,rfl,rfl,rfl⟩
def Tg (g : TG) (v : V) (σ : St) (G : Hp) (F : St→Prop) : Prop:=∀ H Q,Same G H→(∀ σ2,F σ2→Q σ2 H)→g v σ H Q
def Tgs (g : TGs) (vs : List V) (σ : St) (G : Hp) (F : St→Prop) : Prop:=∀ H Q,Same G H→(∀ σ2,F σ2→Q σ2 H)→g vs σ H Q
theorem ay {i : Nat} {v : V} {F : St→Prop} (h : F (σ.set i (some v))) : Tg (gName i) v σ G F:=fun _ _ _ q=>q _ h
theorem jW {F : St→Prop} (h : F σ) : Tgs gNil [] σ G F:=fun _ _ _ q=>⟨rfl,q _ h⟩
theorem cN {g : TG} {gs : TGs} {v : V} {vs : List V} {F : St→Prop} (h : Tg g v σ G fun σ2=>Tgs gs vs σ2 G F) : Tgs (gCons g gs) (v :: vs) σ G F:=fun H Q s q=>
  ⟨v,vs,rfl,h H _ s fun σ2 h2=>h2 H _ s q⟩
theorem qP {n : Nat} {gs : TGs} {v : V} {F : St→Prop} (hv : Dq K G v (.tuple ds)) (hn : ds.length = n) (h : ∀ vs,ap K G vs ds→Tgs gs vs σ G F) : Tg (gTup K n gs) v σ G F:=fun H Q s q=>by
  obtain ⟨a,vs,rfl,h1,h2⟩:=bx hv
  exact ⟨a,vs,rfl,bN s h1,by rw [aw h2]; exact hn,h vs h2 H Q s q⟩
theorem ua {g1 g2 : TG} {v : V} {F : St→Prop} {d1 d2 : Dat} (hv : Dq K G v (.tuple [d1,d2])) (h : ∀ v1 v2,Dq K G v1 d1→Dq K G v2 d2→Tg g1 v1 σ G fun σ1=>Tg g2 v2 σ1 G F) : Tg (gTup K 2 (gCons g1 (gCons g2 gNil))) v σ G F:=
  qP hv rfl fun vs hs=>by
    cases hs with
    | cons a b=>
      cases b with
      | cons b c=>
        cases c
        exact cN fun H Q s q=>h _ _ a b H Q s fun σ1 h1=>q σ1 (cN fun H' Q' s' q'=>h1 H' Q' s' fun σ2 h2=>q' σ2 (jW h2))
theorem uK {n : Nat} {gs : TGs} {v : V} {F : St→Prop} (hv : Dq K G v (.rtup ds)) (hn : ds.length = n) (h : ∀ vs,ap K G vs ds→Tgs gs vs σ G F) : Tg (gTup K n gs) v σ G F:=fun H Q s q=>by
  obtain ⟨a,vs,rfl,h1,h2⟩:=j3 hv
  exact ⟨a,vs,rfl,(.inl (.inl (s _ _ h1))),by rw [aw h2]; exact hn,h vs h2 H Q s q⟩
theorem mz {g1 g2 : TG} {v : V} {F : St→Prop} {d1 d2 : Dat} (hv : Dq K G v (.rtup [d1,d2])) (h : ∀ v1 v2,Dq K G v1 d1→Dq K G v2 d2→Tg g1 v1 σ G fun σ1=>Tg g2 v2 σ1 G F) : Tg (gTup K 2 (gCons g1 (gCons g2 gNil))) v σ G F:=
  uK hv rfl fun vs hs=>by
    cases hs with
    | cons a b=>
      cases b with
      | cons b c=>
        cases c
        exact cN fun H Q s q=>h _ _ a b H Q s fun σ1 h1=>q σ1 (cN fun H' Q' s' q'=>h1 H' Q' s' fun σ2 h2=>q' σ2 (jW h2))
theorem wn {g1 g2 g3 : TG} {v : V} {F : St→Prop} {d1 d2 d3 : Dat} (hv : Dq K G v (.tuple [d1,d2,d3])) (h : ∀ v1 v2 v3,Dq K G v1 d1→Dq K G v2 d2→Dq K G v3 d3→Tg g1 v1 σ G fun σ1=>Tg g2 v2 σ1 G fun σ2=>Tg g3 v3 σ2 G F) : Tg (gTup K 3 (gCons g1 (gCons g2 (gCons g3 gNil)))) v σ G F:=
  qP hv rfl fun vs hs=>by
    cases hs with
    | cons a b=>
      cases b with
      | cons b c=>
        cases c with
        | cons c d=>
          cases d
          exact cN fun H Q s q=>h _ _ _ a b c H Q s fun σ1 h1=>q σ1 (cN fun H' Q' s' q'=>h1 H' Q' s' fun σ2 h2=>q' σ2 (cN fun H'' Q'' s'' q''=>h2 H'' Q'' s'' fun σ3 h3=>q'' σ3 (jW h3)))
def LcB [Tb] (K : Fg) (tt : TT) (te : TE) (σ : St) (G M M' : Hp) (o : Option Dat) : Prop:=
  ∃ (M1 : Hp) (b : Bool),EvT tt σ G M M1 b∧(b = true→∃ e,o = some e∧Ev te σ G M1 M' (DD K e))∧(b = false→o = none∧M' = M1)
theorem o9 [Tb] (h : Ev te σ G M M1 (DD K e)) : LcB K tYes te σ G M M1 (some e):=⟨M,true,fun G0 H _ k Q q=>q G0 H (Same.refl _) k,fun _=>⟨e,rfl,h⟩,fun z=>Bool.noConfusion z⟩
theorem uD [Tb] {wi : TI} {g : TG} {tt : TT} {vs : List Nat} (src : Src K wi σ G M M1 ds) (os : List (Option Dat)) (mm : Nat→Hp) (hm0 : mm 0 = M1) (hmn : mm ds.length = M2) (hdom : ∀ i a,(mm i a).isSome = (M1 a).isSome) (hl : os.length = ds.length) (hz : ds.length ≤ sizeLine)
    (hs : ∀ (i : Nat) (d : Dat) (o : Option Dat) (D : Addr) (acc : List V) (G1 : Hp) (v : V),ds[i]? = some d→os[i]? = some o→M1 D = none→Same G G1→Dq K G1 v d→
      Tg g v (wipe σ vs) G1 fun σ2=>wipe σ2 vs = wipe σ vs∧LcB K tt te σ2 G1 (upd (mm i) D (.lst acc)) (upd (mm (i + 1)) D (.lst acc)) o) :
    EvL K (tLc wi g tt te vs) σ G M M2 (os.filterMap id):=by
  intro G0 H s k Q q
  refine src G0 H s k _ fun J G1 H1 s1 k1 w=>?_
  obtain ⟨Y,Gd,w,hGd,hY⟩:=w
  intro D hD
  have mD : M1 D = none:=Same.none k1.m hD
  have none_at : ∀ i,mm i D = none:=fun i=>by
    have:=hdom i D
    rw [mD] at this
    cases e : mm i D with
    | none=>rfl
    | some _=>rw [e] at this; cases this
  refine lc_it w (fun i H=>∃ G2 acc,Same G1 G2∧Ok G2 (upd (mm i) D (.lst acc)) H∧ap K G2 acc ((os.take i).filterMap id)) ?_ ?_ ?_ ?_
  · refine ⟨G1,[],Same.refl _,?_,.nil⟩
    rw [hm0]
    exact k1.newM _ hD
  · rintro i H2 _ ⟨G2,acc,s2,k2,_⟩
    exact hGd H2 (s2.trans k2.g)
  · rintro i x H2 H3 hi ⟨G2,acc,s2,k2,hacc⟩ y
    obtain ⟨d,hd⟩ : ∃ d,ds[i]? = some d:=⟨ds[i],List.getElem?_eq_getElem hi⟩
    obtain ⟨o,ho⟩ : ∃ o,os[i]? = some o:=⟨os[i]'(by omega),List.getElem?_eq_getElem (by omega)⟩
    obtain ⟨G3,s3,k3,hx⟩:=hY i d H2 x H3 G2 _ hd s2 k2 y
    refine hs i d o D acc G3 x hd ho mD (((s.trans s1).trans s2).trans s3) hx H3 _ k3.g ?_
    rintro σ2 ⟨hw,Mx,b,h1,h2,h3⟩
    refine ⟨hw,h1 G3 H3 (Same.refl _) k3 _ fun G4 H4 s4 k4=>?_⟩
    have et : (os.take (i + 1)).filterMap id = (os.take i).filterMap id ++ o.toList:=by
      rw [List.take_add_one,ho,List.filterMap_append]
      cases o <;> rfl
    cases b with
    | true=>
      obtain ⟨e,rfl,he⟩:=h2 rfl
      refine iteT (he G4 H4 s4 k4 _ fun z G5 H5 s5 k5 hz5=>?_)
      refine ⟨acc,k5.m _ _ upd_same,?_,?_⟩
      · rw [aw hacc]
        refine Nat.lt_of_le_of_lt (List.length_filterMap_le _ _) ?_
        rw [List.length_take]
        omega
      · refine ⟨G5,acc ++ [z],((s2.trans s3).trans s4).trans s5,?_,?_⟩
        · have:=k5.chg (p:=D) (u:=.lst acc) (.lst (acc ++ [z])) upd_same
          rw [upd_upd] at this
          exact this
        · rw [et]
          exact bJ (aj ((s3.trans s4).trans s5) _ hacc) (.cons hz5 .nil)
    | false=>
      obtain ⟨rfl,e2⟩:=h3 rfl
      subst e2
      refine iteF ⟨G4,acc,(s2.trans s3).trans s4,k4,?_⟩
      rw [et,show (none : Option Dat).toList = [] from rfl,List.append_nil]
      exact aj (s3.trans s4) _ hacc
  · rintro H2 ⟨G2,acc,s2,k2,hacc⟩
    have e1 : os.take ds.length = os:=by rw [← hl,List.take_length]
    rw [e1] at hacc
    have:=none_at ds.length
    rw [hmn] at k2 this
    exact q D acc G2 H2 (s1.trans s2) k2 this hacc
theorem yV [Tb] {wi : TI} {g : TG} {vs : List Nat} (src : Src K wi σ G M M1 ds) (es : List Dat) (hl : es.length = ds.length) (hz : ds.length ≤ sizeLine)
    (hs : ∀ (i : Nat) (d e : Dat) (Mx G1 : Hp) (v : V),ds[i]? = some d→es[i]? = some e→Same M1 Mx→Same G G1→Dq K G1 v d→Tg g v (wipe σ vs) G1 fun σ2=>wipe σ2 vs = wipe σ vs∧Ev te σ2 G1 Mx Mx (DD K e)) :
    EvL K (tLc wi g tYes te vs) σ G M M1 es:=by
  have:=uD (tt:=tYes) (te:=te) (g:=g) (vs:=vs) (M2:=M1) src (es.map some) (fun _=>M1) rfl rfl (fun _ _=>rfl) (by rw [List.length_map]; exact hl) hz fun i d o D acc G1 v hd ho hD s hv=>by
    rw [List.getElem?_map] at ho
    cases e : es[i]? with
    | none=>rw [e] at ho; cases ho
    | some e'=>
      rw [e] at ho
      cases ho
      exact fun H Q sg q=>hs i d e' (upd M1 D (.lst acc)) G1 v hd e (Same.new hD) s hv H Q sg fun σ2 h2=>q σ2 ⟨h2.1,o9 h2.2⟩
  rw [List.filterMap_map,show (id ∘ some : Dat→Option Dat) = some from rfl,List.filterMap_some] at this
  exact this
theorem yC [Tb] {wi : TI} {g : TG} {vs : List Nat} {s : Addr} {zs : Nat→Sto} (src : Src K wi σ G M M1 ds) (es : List Dat) (h0 : M1 s = some (sto (zs 0))) (hl : es.length = ds.length) (hz : ds.length ≤ sizeLine)
    (hs : ∀ (i : Nat) (d e : Dat) (Mx G1 : Hp) (v : V),ds[i]? = some d→es[i]? = some e→(∀ a o,a ≠ s→M1 a = some o→Mx a = some o)→Mx s = some (sto (zs i))→Same G G1→Dq K G1 v d→Tg g v (wipe σ vs) G1 fun σ2=>wipe σ2 vs = wipe σ vs∧Ev te σ2 G1 Mx (upd Mx s (sto (zs (i + 1)))) (DD K e)) :
    EvL K (tLc wi g tYes te vs) σ G M (upd M1 s (sto (zs ds.length))) es:=by
  have:=uD (tt:=tYes) (te:=te) (g:=g) (vs:=vs) (M2:=upd M1 s (sto (zs ds.length))) src (es.map some) (fun i=>upd M1 s (sto (zs i))) (lh h0) rfl (fun i a=>by
    by_cases ha : a = s
    · subst ha; rw [upd_same,h0]; rfl
    · rw [upd_ne ha]) (by rw [List.length_map]; exact hl) hz fun i d o D acc G1 v hd ho hD sg hv=>by
    rw [List.getElem?_map] at ho
    cases e : es[i]? with
    | none=>rw [e] at ho; cases ho
    | some e'=>
      rw [e] at ho
      cases ho
      have nD : s ≠ D:=ne_of_none h0 hD
      refine fun H Q sgh q=>hs i d e' (upd (upd M1 s (sto (zs i))) D (.lst acc)) G1 v hd e (fun a o ha hm=>?_) ?_ sg hv H Q sgh fun σ2 h2=>q σ2 ⟨h2.1,o9 ?_⟩
      · rw [upd_ne (ne_of_none hm hD),upd_ne ha]
        exact hm
      · rw [upd_ne nD,upd_same]
      · have h3:=h2.2
        rw [sX (p:=D) nD.symm,upd_upd] at h3
        exact h3
  rw [List.filterMap_map,show (id ∘ some : Dat→Option Dat) = some from rfl,List.filterMap_some] at this
  exact this
variable {D : Ends} {H : Hp} {u : TS}
theorem bT [Tb] {i : Nat} {σ' : V→St} (he : Ev te σ G M M1 P) (ok : Ok G M H) (hσ : ∀ v,σ.set i (some v) = σ' v) (k : ∀ v G' H',Same G G'→Ok G' M1 H'→P v G'→u D (σ' v) H') : tSeq (tAsg te (gName i)) u D σ H:=
  he G H (Same.refl _) ok _ fun v G1 H1 s1 k1 hv=>by
    show u D (σ.set i (some v)) H1
    rw [hσ v]
    exact k v G1 H1 s1 k1 hv
theorem q_setL [Tb] {i : Nat} {σ' : V→St} (he : EvL K te σ G M M1 ds) (ok : Ok G M H) (hσ : ∀ v,σ.set i (some v) = σ' v) (k : ∀ p vs G' H',Same G G'→Ok G' (upd M1 p (.lst vs)) H'→M1 p = none→ap K G' vs ds→u D (σ' (.ref p)) H') : tSeq (tAsg te (gName i)) u D σ H:=
  he G H (Same.refl _) ok _ fun p vs G1 H1 s1 k1 hp hv=>by
    show u D (σ.set i (some (.ref p))) H1
    rw [hσ]
    exact k p vs G1 H1 s1 k1 hp hv
theorem aM [Tb] (he : Ev te σ G M M1 P) (ok : Ok G M H) (k : ∀ v G' H',Same G G'→Ok G' M1 H'→P v G'→D.rt v H') : tSeq (tRet te) u D σ H:=
  he G H (Same.refl _) ok _ k
theorem bX [Tb] (he : Ev te σ G M M1 P) (ok : Ok G M H) (k : ∀ G' H',Same G G'→Ok G' M1 H'→u D σ H') : tSeq (tDrop te) u D σ H:=
  he G H (Same.refl _) ok _ fun v G1 H1 s1 k1 _=>k G1 H1 s1 k1
theorem q_if [Tb] {c : TT} {t t' : TS} {b : Bool} (hc : EvT c σ G M M1 b) (ok : Ok G M H) (h1 : b = true→∀ G' H',Same G G'→Ok G' M1 H'→t { D with nx:=u D } σ H') (h2 : b = false→∀ G' H',Same G G'→Ok G' M1 H'→t' { D with nx:=u D } σ H') : tSeq (tIfS c t t') u D σ H:=
  hc G H (Same.refl _) ok _ fun G1 H1 s1 k1=>by
    cases b with
    | true=>exact iteT (h1 rfl G1 H1 s1 k1)
    | false=>exact iteF (h2 rfl G1 H1 s1 k1)
theorem AR [Tb] {c : TT} {t t' : TS} {b : Bool} (J : St→Hp→Hp→Prop) (hc : EvT c σ G M M1 b) (ok : Ok G M H)
    (h1 : b = true→∀ G' H' D',Same G G'→Ok G' M1 H'→D'.rt = D.rt→D'.bk = D.bk→D'.ct = D.ct→(∀ σ2 G2 M2 H2,Same G' G2→Ok G2 M2 H2→J σ2 G2 M2→D'.nx σ2 H2)→t D' σ H')
    (h2 : b = false→∀ G' H' D',Same G G'→Ok G' M1 H'→D'.rt = D.rt→D'.bk = D.bk→D'.ct = D.ct→(∀ σ2 G2 M2 H2,Same G' G2→Ok G2 M2 H2→J σ2 G2 M2→D'.nx σ2 H2)→t' D' σ H')
    (k : ∀ σ2 G2 M2 H2,Same G G2→Ok G2 M2 H2→J σ2 G2 M2→u D σ2 H2) : tSeq (tIfS c t t') u D σ H:=
  q_if hc ok (fun e G' H' s' k'=>h1 e G' H' { D with nx:=u D } s' k' rfl rfl rfl fun σ2 G2 M2 H2 s2 k2 j=>k σ2 G2 M2 H2 (s'.trans s2) k2 j)
    (fun e G' H' s' k'=>h2 e G' H' { D with nx:=u D } s' k' rfl rfl rfl fun σ2 G2 M2 H2 s2 k2 j=>k σ2 G2 M2 H2 (s'.trans s2) k2 j)
theorem bp (h : D.nx σ H) : tNext D σ H:=h
theorem qT [Tb] {i j : Nat} {ta : TA} {σ' : V→V→St} (he : EvA ta σ G M M1 (ak P1 (ak P2 az))) (ok : Ok G M H) (hσ : ∀ v w,(σ.set i (some v)).set j (some w) = σ' v w) (k : ∀ v w G' H',Same G G'→Ok G' M1 H'→P1 v G'→P2 w G'→u D (σ' v w) H') : tSeq (tPar i j ta) u D σ H:=
  he G H (Same.refl _) ok _ fun vs G1 H1 s1 k1 hv=>by
    obtain ⟨v,w,rfl,h1,h2⟩:=dB hv
    refine ⟨v,w,rfl,?_⟩
    show u D ((σ.set i (some v)).set j (some w)) H1
    rw [hσ]
    exact k v w G1 H1 s1 k1 h1 h2
theorem fG [Tb] {p : Addr} {vs : List V} (ho : Ev ta σ G M M (OW p)) (ha : EvA (tCons te tNil) σ G M M1 (ak (DD K d) az)) (hp0 : M p = some (.lst vs)) (hp : M1 p = some (.lst vs)) (hl : vs.length < sizeLine) (ok : Ok G M H)
    (k : ∀ v G' H',Same G G'→Ok G' (upd M1 p (.lst (vs ++ [v]))) H'→Dq K G' v d→u D σ H') : tSeq (tDrop (tBM K "list" rAppend ta (tCons te tNil))) u D σ H:=
  ho G H (Same.refl _) ok _ fun x G1 H1 s1 k1 hx=>by
    cases hx
    refine ⟨.inl ⟨rfl,_,.inl (.inl (k1.m _ _ hp0))⟩,ha G1 H1 s1 k1 _ fun xs G2 H2 s2 k2 hv=>?_⟩
    obtain ⟨v,rfl,hw⟩:=one_of (R:=az) hv
    exact ⟨p,vs,v,rfl,rfl,k2.m _ _ hp,hl,k v G2 _ (s1.trans s2) (k2.chg _ hp) hw⟩
theorem mw [Tb] {p : Addr} {vs : List V} (ho : Ev ta σ G M M (OW p)) (ha : EvA (tCons te tNil) σ G M M1 (ak (DD K (.list ds)) az)) (hp0 : M p = some (.lst vs)) (hp : M1 p = some (.lst vs)) (hl : vs.length + ds.length ≤ sizeLine) (ok : Ok G M H)
    (k : ∀ ws G' H',Same G G'→Ok G' (upd M1 p (.lst (vs ++ ws))) H'→ap K G' ws ds→u D σ H') : tSeq (tDrop (tBM K "list" rExtend ta (tCons te tNil))) u D σ H:=
  ho G H (Same.refl _) ok _ fun x G1 H1 s1 k1 hx=>by
    cases hx
    refine ⟨.inl ⟨rfl,_,.inl (.inl (k1.m _ _ hp0))⟩,ha G1 H1 s1 k1 _ fun xs G2 H2 s2 k2 hv=>?_⟩
    obtain ⟨v,rfl,hw⟩:=one_of (R:=az) hv
    obtain ⟨a,ws,rfl,h1,h2⟩:=bM hw
    exact ⟨p,a,vs,ws,rfl,rfl,k2.m _ _ hp,k2.g _ _ h1,by rw [aw h2]; exact hl,k ws G2 _ (s1.trans s2) (k2.chg _ hp) h2⟩
theorem eP [Tb] {p : Addr} {vs : List V} {i : Int} {j : Nat} (he : Ev te σ G M M1 (DD K d)) (ho : Ev ta σ G M1 M1 (OW p)) (hi : Ev tb σ G M1 M2 (DD K (.int i))) (hp : M2 p = some (.lst vs)) (hj : ixN vs.length i = some j) (ok : Ok G M H)
    (k : ∀ v G' H',Same G G'→Ok G' (upd M2 p (.lst (vs.set j v))) H'→Dq K G' v d→u D σ H') : tSeq (tAsg te (gSub ta tb rSetL)) u D σ H:=
  he G H (Same.refl _) ok _ fun v G1 H1 s1 k1 hv=>ho G1 H1 s1 k1 _ fun x G2 H2 s2 k2 hx=>hi G2 H2 (s1.trans s2) k2 _ fun y G3 H3 s3 k3 hy=>by
    cases hx; cases hy
    exact ⟨p,vs,i,j,rfl,rfl,k3.m _ _ hp,hj,k v G3 _ ((s1.trans s2).trans s3) (k3.chg _ hp) (aa (s2.trans s3) _ hv)⟩
theorem wz [Tb] {wi : TI} {g : TG} {tb : TS} (src : Src K wi σ G M M1 ds) (ok : Ok G M H) (J : Nat→St→Hp→Hp→Prop) (h0 : ∀ G',Same G G'→J 0 σ G' M1)
    (hs : ∀ i d v σ1 G1 M2 H1 (N : St→Hp→Prop),ds[i]? = some d→J i σ1 G1 M2→Same G G1→Ok G1 M2 H1→Dq K G1 v d→(∀ σ2 G2 M3 H2,Same G1 G2→Ok G2 M3 H2→J (i + 1) σ2 G2 M3→N σ2 H2)→g v σ1 H1 fun σ2 H2=>tb { D with nx:=N,ct:=N,bk:=u D } σ2 H2)
    (hJ : ∀ i σ1 G1 G2 M2,J i σ1 G1 M2→Same G1 G2→J i σ1 G2 M2)
    (hd : ∀ σ1 G1 M2 H1,Same G G1→Ok G1 M2 H1→J ds.length σ1 G1 M2→u D σ1 H1) : tSeq (tFor wi g tb) u D σ H:=by
  refine src G H (Same.refl _) ok _ fun J' G1 H1 s1 k1 w=>?_
  obtain ⟨Y,Gd,w,hGd,hY⟩:=w
  refine for_it w (D:={ D with nx:=u D }) (fun i σ1 H2=>∃ G2 M2,Same G1 G2∧Ok G2 M2 H2∧J i σ1 G2 M2) ⟨G1,M1,Same.refl _,k1,h0 G1 s1⟩ ?_ ?_ ?_
  · rintro i σ1 H2 _ ⟨G2,M2,s2,k2,_⟩
    exact hGd H2 (s2.trans k2.g)
  · rintro i x σ1 H2 H3 hi ⟨G2,M2,s2,k2,j⟩ y
    obtain ⟨d,hd'⟩ : ∃ d,ds[i]? = some d:=⟨ds[i],List.getElem?_eq_getElem hi⟩
    obtain ⟨G3,s3,k3,hx⟩:=hY i d H2 x H3 G2 M2 hd' s2 k2 y
    exact hs i d x σ1 G3 M2 H3 _ hd' (hJ i σ1 G2 G3 M2 j s3) ((s1.trans s2).trans s3) k3 hx fun σ2 G4 M4 H4 s4 k4 j4=>⟨G4,M4,(s2.trans s3).trans s4,k4,j4⟩
  · rintro σ1 H2 ⟨G2,M2,s2,k2,j⟩
    exact hd σ1 G2 M2 H2 (s1.trans s2) k2 j
end
end Kx
end
section
namespace Kx
open PySem L2
theorem bs {α β : Type} {x : Option α} {f : α→Option β} {r : β} (h : x.bind f = some r) : ∃ a,x = some a∧f a = some r:=by
  cases x with
  | none=>cases h
  | some a=>exact ⟨a,rfl,h⟩
theorem aK {α : Type} {b : Bool} {x y : α} {r : α} (e : b = true) (h : cond b x y = r) : x = r:=by subst e; exact h
theorem aJ {α : Type} {b : Bool} {x y : α} {r : α} (e : b = false) (h : cond b x y = r) : y = r:=by subst e; exact h
instance (i j : Int) : Decidable (CMul i j):=by unfold CMul; exact inferInstance
instance (i j : Int) : Decidable (CDivN i j):=by unfold CDivN; exact inferInstance
instance (i j : Int) : Decidable (CDiv i j):=by unfold CDiv; exact inferInstance
instance (i j : Int) : Decidable (CPow i j):=by unfold CPow; exact inferInstance
def grd (p : Prop) [Decidable p] : Option Unit:=if p then some () else none
theorem bz {p : Prop} [Decidable p] {u : Unit} (h : grd p = some u) : p:=by
  unfold grd at h
  split at h
  · assumption
  · cases h
theorem bD {p : Prop} [Decidable p] (h : p) : grd p = some ():=by
  unfold grd
  rw [if_pos h]
def fM (i j : Int) : Prop:=CMul i j∨CMulX i j
instance (i j : Int) : Decidable (CMulX i j):=by unfold CMulX; exact inferInstance
instance (i j : Int) : Decidable (fM i j):=by unfold fM; exact inferInstance
theorem co {X : Cx} : OpR X (binaryOp .Mult) (rI fM fun i j=>.int (i * j)):=opI fun _ _ _ _ _ _ _ hc q=>PyProof.Rows.mul_int q (hc.elim (fun h=>h.ok) (fun h=>h.ok))
def jL (i j : Int) : Prop:=CDivN i j∨CDivW i j
instance (i j : Int) : Decidable (CDivW i j):=by unfold CDivW; exact inferInstance
instance (i j : Int) : Decidable (jL i j):=by unfold jL; exact inferInstance
theorem dU {X : Cx} : OpR X (binaryOp .FloorDiv) (rI jL fun i j=>.int (i.fdiv j)):=by
  intro pins s σ H x y v u Q I rx ry h
  obtain ⟨i,j,rfl,rfl,hc,q⟩:=h
  rcases hc with hc | hc
  · exact op_fdivN pins s σ H _ _ v u Q I rx ry ⟨i,j,rfl,rfl,hc,q⟩
  · refine op_fdivW pins s σ H _ _ v u Q I rx ry ⟨i,j,rfl,rfl,hc,?_⟩
    have e : i / j = i.fdiv j:=(Int.fdiv_eq_ediv_of_nonneg i (by have:=hc.1; omega)).symm
    show Q (.int (i / j)) H
    rw [e]
    exact q
def fc (i j : Int) : Option Int:=(grd (fM i j)).bind fun _=>some (i * j)
def dL (i j : Int) : Option Int:=(grd (jL i j)).bind fun _=>some (i.fdiv j)
def dr (i j : Int) : Option Int:=(grd (j ≠ 0)).bind fun _=>some (i.fmod j)
def uI (i j : Int) : Option Int:=(grd (CPow i j)).bind fun _=>some (i ^ j.toNat)
theorem v9 {i j r : Int} (h : fc i j = some r) : fM i j∧r = i * j:=by
  obtain ⟨_,h1,h2⟩:=bs h
  exact ⟨bz h1,(Option.some.inj h2).symm⟩
theorem qR {i j r : Int} (h : dL i j = some r) : jL i j∧r = i.fdiv j:=by
  obtain ⟨_,h1,h2⟩:=bs h
  exact ⟨bz h1,(Option.some.inj h2).symm⟩
theorem uH {i j r : Int} (h : dr i j = some r) : j ≠ 0∧r = i.fmod j:=by
  obtain ⟨_,h1,h2⟩:=bs h
  exact ⟨bz h1,(Option.some.inj h2).symm⟩
theorem uL {i j r : Int} (h : uI i j = some r) : CPow i j∧r = i ^ j.toNat:=by
  obtain ⟨_,h1,h2⟩:=bs h
  exact ⟨bz h1,(Option.some.inj h2).symm⟩
theorem gO {α β : Type} {f : α→β} {xs : List α} {i : Int} {x : α} (h : atI xs i = some x) : atI (xs.map f) i = some (f x):=by
  unfold atI at h ⊢
  rw [List.length_map]
  cases e : ixN xs.length i with
  | none=>rw [e] at h; cases h
  | some j=>
    rw [e] at h
    show (xs.map f)[j]? = _
    rw [List.getElem?_map,show xs[j]? = some x from h]
    rfl
def cD {α β : Type} (f : α→Option β) : List α→Option (List β)
  | []=>some []
  | x :: xs=>(f x).bind fun y=>(cD f xs).bind fun ys=>some (y :: ys)
theorem cV {α β : Type} {f : α→Option β} : ∀ {xs : List α} {ys : List β},cD f xs = some ys→ys.length = xs.length
  | [],ys,h=>by cases h; rfl
  | x :: xs,ys,h=>by
    obtain ⟨y,_,h⟩:=bs h
    obtain ⟨zs,h2,h⟩:=bs h
    cases h
    exact congrArg (· + 1) (cV h2)
theorem cK {α β : Type} {f : α→Option β} : ∀ {xs : List α} {ys : List β} {i : Nat} {x : α} {y : β},cD f xs = some ys→xs[i]? = some x→ys[i]? = some y→f x = some y
  | [],ys,_,_,_,h,h1,_=>by simp at h1
  | a :: xs,ys,i,x,y,h,h1,h2=>by
    obtain ⟨b,hb,h⟩:=bs h
    obtain ⟨zs,hz,h⟩:=bs h
    cases h
    cases i with
    | zero=>simp at h1 h2; subst h1; subst h2; exact hb
    | succ i=>exact cK hz (by simpa using h1) (by simpa using h2)
def lcO {α β : Type} (f : α→Option β) (xs : List α) : Option (List β):=(grd (xs.length ≤ 16777216)).bind fun _=>cD f xs
def uY {α β : Type} (f : α→Sto→Option (β×Sto)) : List α→Sto→Option (List β×Sto)
  | [],z=>some ([],z)
  | x :: xs,z=>(f x z).bind fun y=>(uY f xs y.2).bind fun ys=>some (y.1 :: ys.1,ys.2)
def lcS {α β : Type} (f : α→Sto→Option (β×Sto)) (xs : List α) (z : Sto) : Option (List β×Sto):=(grd (xs.length ≤ 16777216)).bind fun _=>uY f xs z
theorem lN {α β : Type} {f : α → Sto → Option (β × Sto)} : ∀ {xs : List α} {z : Sto} {r : List β × Sto}, uY f xs z = some r → r.1.length = xs.length ∧ ∃ zs : Nat → Sto, zs 0 = z ∧ zs xs.length = r.2 ∧
      ∀ (i : Nat) (x : α) (y : β),xs[i]? = some x→r.1[i]? = some y→f x (zs i) = some (y,zs (i + 1))
  | [],z,r,h=>by cases h; exact ⟨rfl,fun _=>z,rfl,rfl,fun i x y h=>by simp at h⟩
  | a :: xs,z,r,h=>by
    obtain ⟨b,hb,h⟩:=bs h
    obtain ⟨r',hz,h⟩:=bs h
    cases h
    obtain ⟨hl,zs,h0,hn,hi⟩:=lN hz
    refine ⟨congrArg (· + 1) hl,fun i=>match i with | 0=>z | i + 1=>zs i,rfl,hn,fun i x y h1 h2=>?_⟩
    cases i with
    | zero=>
      simp at h1 h2
      subst h1; subst h2
      show f a z = some (b.1,zs 0)
      rw [h0]
      exact hb
    | succ i=>exact hi i x y (by simpa using h1) (by simpa using h2)
def cC {S α : Type} (f : S→α→Option S) : List α→S→Option S
  | [],s=>some s
  | x :: xs,s=>(f s x).bind fun s'=>cC f xs s'
def forR {S R α : Type} (f : S→α→Option (S ⊕ R)) : List α→S→Option (S ⊕ R)
  | [],s=>some (.inl s)
  | x :: xs,s=>(f s x).bind fun s'=>match s' with
    | .inl s'=>forR f xs s'
    | .inr r=>some (.inr r)
abbrev eL {α : Type} (e : α→Dat) (xs : List α) : Dat:=.list (xs.map e)
abbrev eT {α : Type} (e : α→Dat) (xs : List α) : Dat:=.tuple (xs.map e)
abbrev eN (_ : Unit) : Dat:=.none
abbrev eP2 {α β : Type} (e1 : α→Dat) (e2 : β→Dat) (p : α×β) : Dat:=.tuple [e1 p.1,e2 p.2]
abbrev eR2 {α β : Type} (e1 : α→Dat) (e2 : β→Dat) (p : α×β) : Dat:=.rtup [e1 p.1,e2 p.2]
abbrev eP3 {α β γ : Type} (e1 : α→Dat) (e2 : β→Dat) (e3 : γ→Dat) (p : α×β×γ) : Dat:=.tuple [e1 p.1,e2 p.2.1,e3 p.2.2]
section
variable {K : Fg} {σ : St} {G G' M M1 M2 M3 : Hp} {ta tb te tc : TE} {P P1 P2 : VP} {d e : Dat} {ds es : List Dat}
theorem szl {n : Nat} (h : n ≤ 16777216) : n ≤ sizeLine:=by rw [sizeLine_eq]; exact h
theorem vp {n : Nat} (h : n < 16777216) : n < sizeLine:=by rw [sizeLine_eq]; exact h
theorem mH {α β : Type} {ea : α→Dat} {eb : β→Dat} {xs : List α} {ys : List β} : pX (xs.map ea) (ys.map eb) = (xs.zip ys).map (eR2 ea eb):=by
  unfold pX
  rw [List.zipWith_map,List.zip,List.map_zipWith]
def dO {α : Type} (xs : List α) : List (Int×α):=xs.mapIdx fun i x=>((i : Int),x)
theorem dv {α : Type} {ea : α→Dat} {xs : List α} : lq (xs.map ea) = (dO xs).map (eR2 Dat.int ea):=by
  unfold lq dO
  apply List.ext_getElem?
  intro i
  simp only [List.getElem?_mapIdx,List.getElem?_map,Option.map_map]
  cases xs[i]? <;> rfl
theorem Src.is [Tb] {wi : TI} {ds' : List Dat} (h : Src K wi σ G M M1 ds) (e : ds = ds') : Src K wi σ G M M1 ds':=e ▸ h
theorem bj [Tb] {α β : Type} {ea : α→Dat} {eb : β→Dat} {f : α→Option β} {xs : List α} {ys : List β} {wi : TI} {g : TG} {vs : List Nat} (src : Src K wi σ G M M1 (xs.map ea)) (hf : lcO f xs = some ys)
    (hs : ∀ (x : α) (y : β) (Mx G1 : Hp) (v : V),f x = some y→Same M1 Mx→Same G G1→Dq K G1 v (ea x)→Tg g v (wipe σ vs) G1 fun σ2=>wipe σ2 vs = wipe σ vs∧Ev te σ2 G1 Mx Mx (DD K (eb y))) :
    EvL K (tLc wi g tYes te vs) σ G M M1 (ys.map eb):=by
  obtain ⟨_,h1,h2⟩:=bs hf
  have hl:=cV h2
  refine yV src (ys.map eb) (by rw [List.length_map,List.length_map,hl]) (by rw [List.length_map]; exact szl (bz h1)) fun i d e Mx G1 v hd he sM sG hv=>?_
  rw [List.getElem?_map] at hd he
  cases e1 : xs[i]? with
  | none=>rw [e1] at hd; cases hd
  | some x=>
    cases e2 : ys[i]? with
    | none=>rw [e2] at he; cases he
    | some y=>
      rw [e1] at hd; rw [e2] at he
      cases hd; cases he
      exact hs x y Mx G1 v (cK h2 e1 e2) sM sG hv
theorem kg [Tb] {α β : Type} {ea : α→Dat} {eb : β→Dat} {f : α→Sto→Option (β×Sto)} {xs : List α} {r : List β×Sto} {z : Sto} {s : Addr} {wi : TI} {g : TG} {vs : List Nat} (src : Src K wi σ G M M1 (xs.map ea)) (h0 : M1 s = some (sto z)) (hf : lcS f xs z = some r)
    (hs : ∀ (x : α) (y : β) (z z' : Sto) (Mx G1 : Hp) (v : V),f x z = some (y,z')→(∀ a o,a ≠ s→M1 a = some o→Mx a = some o)→Mx s = some (sto z)→Same G G1→Dq K G1 v (ea x)→Tg g v (wipe σ vs) G1 fun σ2=>wipe σ2 vs = wipe σ vs∧Ev te σ2 G1 Mx (upd Mx s (sto z')) (DD K (eb y))) :
    EvL K (tLc wi g tYes te vs) σ G M (upd M1 s (sto r.2)) (r.1.map eb):=by
  obtain ⟨_,h1,h2⟩:=bs hf
  obtain ⟨hl,zs,e0,en,hi⟩:=lN h2
  subst e0
  rw [← en,← List.length_map (as:=xs) (f:=ea)]
  refine yC src (r.1.map eb) h0 (by rw [List.length_map,List.length_map,hl]) (by rw [List.length_map]; exact szl (bz h1)) fun i d e Mx G1 v hd he sM hMs sG hv=>?_
  rw [List.getElem?_map] at hd he
  cases e1 : xs[i]? with
  | none=>rw [e1] at hd; cases hd
  | some x=>
    cases e2 : r.1[i]? with
    | none=>rw [e2] at he; cases he
    | some y=>
      rw [e1] at hd; rw [e2] at he
      cases hd; cases he
      exact hs x y _ _ Mx G1 v (hi i x y e1 e2) sM hMs sG hv
variable {D : Ends} {H : Hp} {u : TS}
theorem drop_cons {α : Type} {xs : List α} {i : Nat} {x : α} (h : xs[i]? = some x) : xs.drop i = x :: xs.drop (i + 1):=by
  obtain ⟨h1,h2⟩:=List.getElem?_eq_some_iff.mp h
  rw [List.drop_eq_getElem_cons h1,h2]
theorem bP [Tb] {S α : Type} {ea : α→Dat} {f : S→α→Option S} {xs : List α} {st fin : S} {wi : TI} {g : TG} {tb : TS} (src : Src K wi σ G M M1 (xs.map ea)) (ok : Ok G M H) (J : S→St→Hp→Hp→Prop) (hf : cC f xs st = some fin)
    (h0 : ∀ G',Same G G'→J st σ G' M1) (hJ : ∀ s σ1 G1 G2 M2,J s σ1 G1 M2→Same G1 G2→J s σ1 G2 M2)
    (hs : ∀ x v s s' σ1 G1 M2 H1 (N : St→Hp→Prop),f s x = some s'→J s σ1 G1 M2→Same G G1→Ok G1 M2 H1→Dq K G1 v (ea x)→(∀ σ2 G2 M3 H2,Same G1 G2→Ok G2 M3 H2→J s' σ2 G2 M3→N σ2 H2)→g v σ1 H1 fun σ2 H2=>tb { D with nx:=N,ct:=N,bk:=u D } σ2 H2)
    (hd : ∀ σ1 G1 M2 H1,Same G G1→Ok G1 M2 H1→J fin σ1 G1 M2→u D σ1 H1) : tSeq (tFor wi g tb) u D σ H:=by
  refine wz src ok (fun i σ1 G1 M2=>∃ s,J s σ1 G1 M2∧cC f (xs.drop i) s = some fin) (fun G' s'=>⟨st,h0 G' s',hf⟩) ?_ (fun i σ1 G1 G2 M2 ⟨s,j,e⟩ s2=>⟨s,hJ s σ1 G1 G2 M2 j s2,e⟩) ?_
  · rintro i d v σ1 G1 M2 H1 N hd ⟨s,j,e⟩ s1 k1 hv hN
    rw [List.getElem?_map] at hd
    cases ex : xs[i]? with
    | none=>rw [ex] at hd; cases hd
    | some x=>
      rw [ex] at hd
      cases hd
      rw [drop_cons ex] at e
      obtain ⟨s',e1,e2⟩:=bs e
      exact hs x v s s' σ1 G1 M2 H1 N e1 j s1 k1 hv fun σ2 G2 M3 H2 s2 k2 j2=>hN σ2 G2 M3 H2 s2 k2 ⟨s',j2,e2⟩
  · rintro σ1 G1 M2 H1 s1 k1 ⟨s,j,e⟩
    rw [List.length_map,List.drop_length] at e
    cases e
    exact hd σ1 G1 M2 H1 s1 k1 j
theorem oa [Tb] {S R α : Type} {ea : α→Dat} {f : S→α→Option (S ⊕ R)} {xs : List α} {st : S} {fin : S ⊕ R} {wi : TI} {g : TG} {tb : TS} (src : Src K wi σ G M M1 (xs.map ea)) (ok : Ok G M H) (J : S→St→Hp→Hp→Prop) (hf : forR f xs st = some fin)
    (h0 : ∀ G',Same G G'→J st σ G' M1) (hJ : ∀ s σ1 G1 G2 M2,J s σ1 G1 M2→Same G1 G2→J s σ1 G2 M2)
    (hs : ∀ x v s s' σ1 G1 M2 H1 (N : St→Hp→Prop),f s x = some s'→(∀ r,s' = .inr r→fin = .inr r)→J s σ1 G1 M2→Same G G1→Ok G1 M2 H1→Dq K G1 v (ea x)→(∀ s2 σ2 G2 M3 H2,s' = .inl s2→Same G1 G2→Ok G2 M3 H2→J s2 σ2 G2 M3→N σ2 H2)→g v σ1 H1 fun σ2 H2=>tb { D with nx:=N,ct:=N,bk:=u D } σ2 H2)
    (hd : ∀ s σ1 G1 M2 H1,fin = .inl s→Same G G1→Ok G1 M2 H1→J s σ1 G1 M2→u D σ1 H1) : tSeq (tFor wi g tb) u D σ H:=by
  refine wz src ok (fun i σ1 G1 M2=>∃ s,J s σ1 G1 M2∧forR f (xs.drop i) s = some fin) (fun G' s'=>⟨st,h0 G' s',hf⟩) ?_ (fun i σ1 G1 G2 M2 ⟨s,j,e⟩ s2=>⟨s,hJ s σ1 G1 G2 M2 j s2,e⟩) ?_
  · rintro i d v σ1 G1 M2 H1 N hd ⟨s,j,e⟩ s1 k1 hv hN
    rw [List.getElem?_map] at hd
    cases ex : xs[i]? with
    | none=>rw [ex] at hd; cases hd
    | some x=>
      rw [ex] at hd
      cases hd
      rw [drop_cons ex] at e
      obtain ⟨s',e1,e2⟩:=bs e
      refine hs x v s s' σ1 G1 M2 H1 N e1 (fun r er=>?_) j s1 k1 hv fun s2 σ2 G2 M3 H2 es s2' k2 j2=>?_
      · subst er
        exact (Option.some.inj e2).symm
      · subst es
        exact hN σ2 G2 M3 H2 s2' k2 ⟨s2,j2,e2⟩
  · rintro σ1 G1 M2 H1 s1 k1 ⟨s,j,e⟩
    rw [List.length_map,List.drop_length] at e
    exact hd s σ1 G1 M2 H1 (Option.some.inj e).symm s1 k1 j
theorem bU {M0 M : Hp} {s : Addr} {o : HO} (hB : ∀ a u,a ≠ s→M0 a = some u→M a = some u) (hs : M s = some o) : Same (upd M0 s o) M:=fun a u e=>by
  by_cases ha : a = s
  · subst ha; rw [upd_same] at e; rw [hs]; exact e
  · rw [upd_ne ha] at e; exact hB a u ha e
theorem Ok.giveL [Tb] {G M M0 H : Hp} {p : Addr} {o : HO} (k : Ok G M H) (hp : M p = some o) (h0 : M0 p = none) (hB : Same M0 M) : Ok (upd G p o) M0 H:=by
  refine ⟨fun a u e=>?_,fun a u e=>k.m a u (hB a u e),fun a u e=>?_,fun a u e=>k.mu a u (hB a u e),vY k.tb (k.mu p o hp).nt.noTbl⟩
  · by_cases ha : a = p
    · subst ha; rw [upd_same] at e; exact k.m a u (hp.trans e)
    · rw [upd_ne ha] at e; exact k.g a u e
  · rw [upd_ne (ne_of_none e h0)]
    exact k.d a u (hB a u e)
end
end Kx
end
section
namespace Kx
open PySem L2
section
variable {K : Fg} {σ σ' : St} {G G' M M1 M2 M3 : Hp} {ta tb te tc : TE} {P P1 P2 : VP} {d e : Dat} {ds es : List Dat} {D : Ends} {H : Hp} {u : TS}
theorem nrm {F : St→Hp→Prop} (e : σ = σ') (h : F σ' H) : F σ H:=e ▸ h
theorem gn {i : Nat} {v : V} {Q : St→Hp→Prop} (h : Q (σ.set i (some v)) H) : gName i v σ H Q:=h
theorem oZ {Q : St→Hp→Prop} : (fun σ' H'=>gNil [] σ' H' Q) = Q:=by
  funext σ' H'
  exact propext ⟨fun h=>h.2,fun h=>⟨rfl,h⟩⟩
theorem pf {g : TG} {v : V} {Q : St→Hp→Prop} : (fun σ' H'=>gCons g gNil [v] σ' H' Q) = fun σ' H'=>g v σ' H' Q:=by
  funext σ' H'
  refine propext ⟨fun ⟨w,r,e,z⟩=>?_,fun z=>⟨v,[],rfl,?_⟩⟩
  · cases e
    rw [oZ] at z
    exact z
  · rw [oZ]
    exact z
theorem gt2 {g1 g2 : TG} {v : V} {Q : St→Hp→Prop} {d1 d2 : Dat} (hv : Dq K G v (.tuple [d1,d2])) (s : Same G H) (h : ∀ v1 v2,Dq K G v1 d1→Dq K G v2 d2→g1 v1 σ H fun σ1 H1=>g2 v2 σ1 H1 Q) : gTup K 2 (gCons g1 (gCons g2 gNil)) v σ H Q:=by
  obtain ⟨a,vs,rfl,h1,h2⟩:=bx hv
  cases h2 with
  | cons a1 b1=>
    cases b1 with
    | cons a2 b2=>
      cases b2
      refine ⟨a,_,rfl,bN s h1,rfl,_,_,rfl,?_⟩
      rw [pf]
      exact h _ _ a1 a2
theorem gr2 {g1 g2 : TG} {v : V} {Q : St→Hp→Prop} {d1 d2 : Dat} (hv : Dq K G v (.rtup [d1,d2])) (s : Same G H) (h : ∀ v1 v2,Dq K G v1 d1→Dq K G v2 d2→g1 v1 σ H fun σ1 H1=>g2 v2 σ1 H1 Q) : gTup K 2 (gCons g1 (gCons g2 gNil)) v σ H Q:=by
  obtain ⟨a,vs,rfl,h1,h2⟩:=j3 hv
  cases h2 with
  | cons a1 b1=>
    cases b1 with
    | cons a2 b2=>
      cases b2
      refine ⟨a,_,rfl,(.inl (.inl (s _ _ h1))),rfl,_,_,rfl,?_⟩
      rw [pf]
      exact h _ _ a1 a2
theorem og [Tb] {g : TG} (he : Ev te σ G M M1 P) (ok : Ok G M H) (k : ∀ v G' H',Same G G'→Ok G' M1 H'→P v G'→g v σ H' (u D)) : tSeq (tAsg te g) u D σ H:=
  he G H (Same.refl _) ok _ k
theorem vS [Tb] {p : Addr} {vs : List V} {i : Int} {j : Nat} {v : V} {Q : St→Hp→Prop} (ho : Ev ta σ G M M (OW p)) (hi : Ev tb σ G M M1 (DD K (.int i))) (hp : M1 p = some (.lst vs)) (hj : ixN vs.length i = some j) (ok : Ok G M H)
    (k : ∀ G' H',Same G G'→Ok G' (upd M1 p (.lst (vs.set j v))) H'→Q σ H') : gSub ta tb rSetL v σ H Q:=
  ho G H (Same.refl _) ok _ fun x G2 H2 s2 k2 hx=>hi G2 H2 s2 k2 _ fun y G3 H3 s3 k3 hy=>by
    cases hx; cases hy
    exact ⟨p,vs,i,j,rfl,rfl,k3.m _ _ hp,hj,k G3 _ (s2.trans s3) (k3.chg _ hp)⟩
end
end Kx
end
section
namespace Kx
open PySem L2
def gH {α : Type} (xs ys : List α) : Option (List α):=(grd (xs.length + ys.length ≤ 16777216)).bind fun _=>some (xs ++ ys)
theorem gP {α : Type} {xs ys r : List α} (h : gH xs ys = some r) : xs.length + ys.length ≤ 16777216∧r = xs ++ ys:=by
  obtain ⟨_,h1,h2⟩:=bs h
  exact ⟨bz h1,(Option.some.inj h2).symm⟩
def pU {α : Type} (xs : List α) (x : α) : Option (List α):=(grd (xs.length < 16777216)).bind fun _=>some (xs ++ [x])
theorem gM {α : Type} {xs r : List α} {x : α} (h : pU xs x = some r) : xs.length < 16777216∧r = xs ++ [x]:=by
  obtain ⟨_,h1,h2⟩:=bs h
  exact ⟨bz h1,(Option.some.inj h2).symm⟩
def cE (n : Int) : Option (List Int):=(grd (-(2 ^ 62) ≤ n∧n < 2 ^ 62)).bind fun _=>some (aN 0 n)
def rc {α : Type} (xs : List α) (i : Int) (x : α) : Option (List α):=(ixN xs.length i).bind fun j=>some (xs.set j x)
theorem pc {α : Type} {xs r : List α} {i : Int} {x : α} (h : rc xs i x = some r) : ∃ j,ixN xs.length i = some j∧r = xs.set j x:=by
  obtain ⟨j,h1,h2⟩:=bs h
  exact ⟨j,h1,(Option.some.inj h2).symm⟩
def tj {α : Type} (xs : List α) (i : Int) : Option (α×List α):=(grd (-(2 ^ 63) ≤ i∧i < 2 ^ 63)).bind fun _=>(seqIndex? i xs.length).bind fun k=>(xs[k]?).bind fun x=>some (x,xs.eraseIdx k)
def dmO (i j : Int) : Option (Int×Int):=(grd (CDivW i j)).bind fun _=>some (i / j,i % j)
theorem xi {i j : Int} {r : Int×Int} (h : dmO i j = some r) : CDivW i j∧r = (i / j,i % j):=by
  obtain ⟨_,h1,h2⟩:=bs h
  exact ⟨bz h1,(Option.some.inj h2).symm⟩
def orR {S R T : Type} (x : S ⊕ R) (f : S→Option T) (g : R→Option T) : Option T:=match x with
  | .inl s=>f s
  | .inr r=>g r
structure EqE {α : Type} [DecidableEq α] (e : α→Dat) (n : Nat) : Prop where
  pur : ∀ x,pur (e x) = true
  dep : ∀ x,(toPy (e x)).depth ≤ n
  eqv : ∀ x y,PyData.eqv (toPy (e x)) (toPy (e y)) = decide (x = y)
theorem beq_dec {α : Type} [DecidableEq α] [BEq α] [LawfulBEq α] (x y : α) : (x == y) = decide (x = y):=by
  by_cases h : x = y <;> simp [h]
theorem gK : EqE Dat.int 0:=⟨fun _=>by unfold Kx.pur; rfl,fun _=>by unfold toPy PyData.depth; exact Nat.le_refl _,fun x y=>by unfold toPy PyData.eqv; exact beq_dec x y⟩
theorem fT : EqE Dat.str 0:=⟨fun _=>by unfold Kx.pur; rfl,fun _=>by unfold toPy PyData.depth; exact Nat.le_refl _,fun x y=>by unfold toPy PyData.eqv; exact beq_dec x y⟩
theorem dy : ∀ ds : List Dat,cB ds = ds.map toPy
  | []=>by unfold cB; rfl
  | d :: ds=>by unfold cB; rw [dy ds]; rfl
theorem iN : ∀ {ds : List Dat},(∀ d ∈ ds,pur d = true)→gF ds = true
  | [],_=>by unfold gF; rfl
  | d :: ds,h=>by
    unfold gF
    rw [h d List.mem_cons_self,iN fun x hx=>h x (List.mem_cons_of_mem _ hx)]
    rfl
theorem eQ {ds : List Dat} : toPy (.list ds) = .list (ds.map toPy):=by unfold toPy; rw [dy]
theorem cb {ds : List Dat} : toPy (.tuple ds) = .tuple (ds.map toPy):=by unfold toPy; rw [dy]
theorem sU {ds : List Dat} (h : ∀ d ∈ ds,pur d = true) : pur (.list ds) = true:=by unfold pur; exact iN h
theorem jl {ds : List Dat} (h : ∀ d ∈ ds,pur d = true) : pur (.tuple ds) = true:=by unfold pur; exact iN h
section
variable {α β γ : Type} [DecidableEq α] [DecidableEq β] [DecidableEq γ] {e : α→Dat} {e2 : β→Dat} {e3 : γ→Dat} {n n2 n3 : Nat}
theorem mY (h : ∀ x,(toPy (e x)).depth ≤ n) : ∀ xs : List α,PyData.depthAll ((xs.map e).map toPy) ≤ n
  | []=>Nat.zero_le _
  | x :: xs=>by
    have h1:=h x
    have h2:=mY h xs
    rw [List.map_cons,List.map_cons]
    unfold PyData.depthAll
    omega
theorem eqvAll_map (h : ∀ x y,PyData.eqv (toPy (e x)) (toPy (e y)) = decide (x = y)) : ∀ xs ys : List α,PyData.eqvAll ((xs.map e).map toPy) ((ys.map e).map toPy) = decide (xs = ys)
  | [],[]=>by simp [PyData.eqvAll]
  | [],_ :: _=>by simp [PyData.eqvAll]
  | _ :: _,[]=>by simp [PyData.eqvAll]
  | x :: xs,y :: ys=>by
    rw [List.map_cons,List.map_cons,List.map_cons,List.map_cons]
    unfold PyData.eqvAll
    rw [h x y,eqvAll_map h xs ys]
    by_cases h1 : x = y <;> by_cases h2 : xs = ys <;> simp [h1,h2]
theorem rl (h : EqE e n) (xs : List α) : ∀ d ∈ xs.map e,pur d = true:=fun d hd=>by
  obtain ⟨x,_,rfl⟩:=List.mem_map.mp hd
  exact h.pur x
theorem kY (h : EqE e n) : EqE (eL e) (n + 1):=⟨fun xs=>sU (rl h xs),fun xs=>by rw [eQ]; unfold PyData.depth; exact Nat.succ_le_succ (mY h.dep xs),fun xs ys=>by rw [eQ,eQ]; unfold PyData.eqv; exact eqvAll_map h.eqv xs ys⟩
theorem kR (h : EqE e n) : EqE (eT e) (n + 1):=⟨fun xs=>jl (rl h xs),fun xs=>by rw [cb]; unfold PyData.depth; exact Nat.succ_le_succ (mY h.dep xs),fun xs ys=>by rw [cb,cb]; unfold PyData.eqv; exact eqvAll_map h.eqv xs ys⟩
theorem yP (h : EqE e n) (h2 : EqE e2 n2) : EqE (eP2 e e2) (n + n2 + 1):=by
  refine ⟨fun p=>jl fun d hd=>?_,fun p=>?_,fun p q=>?_⟩
  · rcases List.mem_cons.mp hd with h1 | hd
    · rw [h1]; exact h.pur _
    · have : d = e2 p.2:=by simpa using hd
      rw [this]; exact h2.pur _
  · have a:=h.dep p.1
    have b:=h2.dep p.2
    rw [cb]
    simp only [List.map_cons,List.map_nil,PyData.depth,PyData.depthAll]
    omega
  · obtain ⟨p1,p2⟩:=p
    obtain ⟨q1,q2⟩:=q
    rw [cb,cb]
    simp only [List.map_cons,List.map_nil,PyData.eqv,PyData.eqvAll,h.eqv,h2.eqv,Bool.and_true]
    by_cases a : p1 = q1 <;> by_cases b : p2 = q2 <;> simp [a,b]
end
section
variable {α β γ : Type} [DecidableEq α] {e : α→Dat} {n : Nat} {K : Fg} {σ : St} {G G' M M1 M2 M3 : Hp} {ta tb te tc : TE} {ds es : List Dat}
theorem rd [Tb] {x y : α} (h : EqE e n) (hn : n ≤ 63) (ha : Ev ta σ G M M1 (DD K (e x))) (hb : Ev tb σ G M1 M2 (DD K (e y))) : Ev (tOp (rEqD K) ta tb) σ G M M2 (DD K (.bool (decide (x = y)))):=by
  have:=xQ (h.pur x) (h.pur y) (Nat.le_trans (h.dep x) (by omega)) (Nat.le_trans (h.dep y) (by omega)) ha hb
  rw [h.eqv] at this
  exact this
theorem oh [Tb] {x y : α} (h : EqE e n) (hn : n ≤ 63) (ha : Ev ta σ G M M1 (DD K (e x))) (hb : Ev tb σ G M1 M2 (DD K (e y))) : Ev (tOp (rNeD K) ta tb) σ G M M2 (DD K (.bool (!decide (x = y)))):=by
  have:=xK (h.pur x) (h.pur y) (Nat.le_trans (h.dep x) (by omega)) (Nat.le_trans (h.dep y) (by omega)) ha hb
  rw [h.eqv] at this
  exact this
def gI {α : Type} [DecidableEq α] (x : α) (xs : List α) : Bool:=decide (x ∈ xs)
theorem oj (h : EqE e n) (x : α) : ∀ xs : List α,((cB (xs.map e)).any fun z=>PyData.eqv z (toPy (e x))) = decide (x ∈ xs)
  | []=>by rw [dy]; simp
  | y :: ys=>by
    have ih:=oj h x ys
    rw [dy] at ih ⊢
    rw [List.map_cons,List.map_cons,List.any_cons,ih,h.eqv]
    by_cases a : x = y
    · simp [a]
    · simp [a,Ne.symm a]
theorem pV [Tb] {x : α} {xs : List α} (h : EqE e n) (hn : n ≤ 63) (ha : Ev ta σ G M M1 (DD K (e x))) (hb : Ev tb σ G M1 M2 (DD K (.list (xs.map e)))) : Ev (tOp (rNotInD K) ta tb) σ G M M2 (DD K (.bool (!gI x xs))):=by
  have:=pS (h.pur x) ((kY h).pur xs) (Nat.le_trans (h.dep x) (by omega)) (Nat.le_trans ((kY h).dep xs) (by omega)) ha hb
  rw [oj h] at this
  exact this
theorem v0 [Tb] {xs ys zs : List β} {e : β→Dat} (h : gH xs ys = some zs) (ha : Ev ta σ G M M1 (DD K (.list (xs.map e)))) (hb : Ev tb σ G M1 M2 (DD K (.list (ys.map e)))) : EvL K (tOp rCat ta tb) σ G M M2 (zs.map e):=by
  obtain ⟨h1,rfl⟩:=gP h
  rw [List.map_append]
  exact yJ (by rw [List.length_map,List.length_map]; exact szl h1) ha hb
theorem hZ [Tb] {xs ys zs : List β} {e : β→Dat} (h : gH xs ys = some zs) (ha : Ev ta σ G M M1 (DD K (.tuple (xs.map e)))) (hb : Ev tb σ G M1 M2 (DD K (.tuple (ys.map e)))) : Ev (tOp (oI K) ta tb) σ G M M2 (DD K (.tuple (zs.map e))):=by
  obtain ⟨h1,rfl⟩:=gP h
  rw [List.map_append]
  exact v4 (by rw [List.length_map,List.length_map]; exact szl h1) ha hb
theorem aX [Tb] {ta : TA} {k : Int} {xs : List Int} (h : cE k = some xs) (ha : EvA ta σ G M M1 (ak (DD K (.int k)) az)) : Src K (iRng1 ta) σ G M M1 (xs.map Dat.int):=by
  obtain ⟨_,h1,h2⟩:=bs h
  cases h2
  exact nL (bz h1).1 (bz h1).2 ha
theorem u9 [Tb] {xs : List β} {e : β→Dat} {tl th : TO} {lo hi : Option Int} (h : Ev te σ G M M (DD K (.list (xs.map e)))) (h1 : EvO tl σ G M M lo) (h2 : EvO th σ G M M hi) : EvL K (tSl (rSlL K) te tl th) σ G M M ((cut xs lo hi).map e):=oP ▸ yR h h1 h2
theorem eJ [Tb] {xs : List β} {e : β→Dat} {tl th : TO} {lo hi : Option Int} (h : Ev te σ G M M (DD K (.tuple (xs.map e)))) (h1 : EvO tl σ G M M lo) (h2 : EvO th σ G M M hi) : Ev (tSl (vU K) te tl th) σ G M M (DD K (.tuple ((cut xs lo hi).map e))):=oP ▸ kA h h1 h2
theorem cj [Tb] {i j r : Int} (hc : fc i j = some r) (ha : Ev ta σ G M M1 (DD K (.int i))) (hb : Ev tb σ G M1 M2 (DD K (.int j))) : Ev (tOp (rI fM fun i j=>.int (i * j)) ta tb) σ G M M2 (DD K (.int r)):=by
  obtain ⟨h,rfl⟩:=v9 hc
  exact ev_op aQ ha hb (rv_I (f:=fun i j=>.int (i * j)) (fun i j _=>.int _) h)
theorem eG [Tb] {i j r : Int} (hc : dL i j = some r) (ha : Ev ta σ G M M1 (DD K (.int i))) (hb : Ev tb σ G M1 M2 (DD K (.int j))) : Ev (tOp (rI jL fun i j=>.int (i.fdiv j)) ta tb) σ G M M2 (DD K (.int r)):=by
  obtain ⟨h,rfl⟩:=qR hc
  exact ev_op aQ ha hb (rv_I (f:=fun i j=>.int (i.fdiv j)) (fun i j _=>.int _) h)
theorem b0 [Tb] {i j r : Int} (hc : dr i j = some r) (ha : Ev ta σ G M M1 (DD K (.int i))) (hb : Ev tb σ G M1 M2 (DD K (.int j))) : Ev (tOp (rI (fun _ j=>j ≠ 0) fun i j=>.int (i.fmod j)) ta tb) σ G M M2 (DD K (.int r)):=by
  obtain ⟨h,rfl⟩:=uH hc
  exact xa h ha hb
theorem va [Tb] {i j r : Int} (hc : uI i j = some r) (ha : Ev ta σ G M M1 (DD K (.int i))) (hb : Ev tb σ G M1 M2 (DD K (.int j))) : Ev (tOp (rI CPow fun i j=>.int (i ^ j.toNat)) ta tb) σ G M M2 (DD K (.int r)):=by
  obtain ⟨h,rfl⟩:=uL hc
  exact xS h ha hb
theorem xw [Tb] {i j : Int} {r : Int×Int} (hc : dmO i j = some r) (ha : EvA (tCons ta (tCons tb tNil)) σ G M M1 (ak (DD K (.int i)) (ak (DD K (.int j)) az))) : Ev (tCB ku (tCons ta (tCons tb tNil))) σ G M M1 (DD K (eR2 Dat.int Dat.int r)):=by
  obtain ⟨h,rfl⟩:=xi hc
  exact p9 h ha
theorem br [Tb] {xs : List β} {e : β→Dat} {i : Int} {x : β} (hi : atI xs i = some x) (ha : Ev ta σ G M M1 (DD K (.list (xs.map e)))) (hb : Ev tb σ G M1 M2 (DD K (.int i))) : Ev (tOp (rIxL K) ta tb) σ G M M2 (DD K (e x)):=xn (gO hi) ha hb
theorem ck [Tb] {xs : List β} {e : β→Dat} {i : Int} {x : β} (hi : atI xs i = some x) (ha : Ev ta σ G M M1 (DD K (.tuple (xs.map e)))) (hb : Ev tb σ G M1 M2 (DD K (.int i))) : Ev (tOp (rIxT K) ta tb) σ G M M2 (DD K (e x)):=au (gO hi) ha hb
theorem oM [Tb] {xs : List β} {e : β→Dat} {i : Int} {x : β} {p : Addr} {vs : List V} (hi : atI xs i = some x) (hp : M2 p = some (.lst vs)) (hv : ap K G vs (xs.map e)) (ha : Ev ta σ G M M1 (OW p)) (hb : Ev tb σ G M1 M2 (DD K (.int i))) : Ev (tOp (rIxL K) ta tb) σ G M M2 (DD K (e x)):=fA ha hb hp hv (gO hi)
theorem du [Tb] {xs : List β} {e : β→Dat} (ha : EvA (tCons ta tNil) σ G M M1 (ak (DD K (.list (xs.map e))) az)) : Ev (tCB (rLen K) (tCons ta tNil)) σ G M M1 (DD K (.int (xs.length : Int))):=ev_is (vn ha) (by rw [List.length_map])
theorem bG [Tb] {xs : List β} {e : β→Dat} (ha : EvA (tCons ta tNil) σ G M M1 (ak (DD K (.tuple (xs.map e))) az)) : Ev (tCB (rLen K) (tCons ta tNil)) σ G M M1 (DD K (.int (xs.length : Int))):=ev_is (gJ ha) (by rw [List.length_map])
theorem qX [Tb] {xs : List β} {e : β→Dat} {p : Addr} {vs : List V} (hp : M1 p = some (.lst vs)) (hd : ap K G vs (xs.map e)) (ha : EvA (tCons ta tNil) σ G M M1 (ak (OW p) az)) : Ev (tCB (rLen K) (tCons ta tNil)) σ G M M1 (DD K (.int (xs.length : Int))):=ev_is (vb hp hd ha) (by rw [List.length_map])
end
theorem aZ {M : Hp} {p q : Addr} {o u : HO} (n : q ≠ p) (h : M q = some o) : (upd M p u) q = some o:=(upd_ne n).trans h
theorem aG {M0 M : Hp} {s : Addr} {o : HO} (hB : ∀ a u,a ≠ s→M0 a = some u→M a = some u) : ∀ a u,a ≠ s→M0 a = some u→(upd M s o) a = some u:=fun a u h1 h2=>(upd_ne h1).trans (hB a u h1 h2)
theorem b8 {M0 M : Hp} {s p : Addr} {o : HO} (hB : ∀ a u,a ≠ s→M0 a = some u→M a = some u) (h0 : M0 p = none) : ∀ a u,a ≠ s→M0 a = some u→(upd M p o) a = some u:=fun a u h1 h2=>(upd_ne (ne_of_none h2 h0)).trans (hB a u h1 h2)
theorem b9 {M0 M : Hp} {p : Addr} {o : HO} (hB : Same M0 M) (h0 : M0 p = none) : Same M0 (upd M p o):=fun a u h2=>(upd_ne (ne_of_none h2 h0)).trans (hB a u h2)
theorem eV {M0 M : Hp} {s p : Addr} {o : HO} (hB : ∀ a u,a ≠ s→M0 a = some u→M a = some u) (hs : M s = some o) (h : M p = none) : M0 p = none:=by
  cases e : M0 p with
  | none=>rfl
  | some u=>
    have n : p ≠ s:=fun z=>by rw [z,hs] at h; cases h
    rw [hB p u n e] at h
    cases h
theorem dG {M0 M : Hp} {p : Addr} (hB : Same M0 M) (h : M p = none) : M0 p = none:=hB.free h
end Kx
end
section
theorem L2.Room.un65 {k : Nat} {A : PySem.Around} (r : L2.Room k A) : A.units + 65 < PySem.cLine:=by have:=r.un; omega
namespace Kx
open PySem L2
section
variable {K : Fg} {σ σ' : St} {G G' M M1 M2 M3 : Hp} {ta tb te tc : TE} {P P1 P2 : VP} {d e : Dat} {ds es : List Dat} {D : Ends} {H : Hp} {u : TS}
theorem vg [Tb] {i j : Nat} {σ' : V→V→St} (ha : Ev ta σ G M M1 P1) (m : Mo P1) (hb : EvL K tb σ G M1 M2 ds) (ok : Ok G M H) (hσ : ∀ v w,(σ.set i (some v)).set j (some w) = σ' v w)
    (k : ∀ v p vs G' H',Same G G'→Ok G' (upd M2 p (.lst vs)) H'→M2 p = none→P1 v G'→ap K G' vs ds→u D (σ' v (.ref p)) H') : tSeq (tPar i j (tCons ta (tCons tb tNil))) u D σ H:=
  ha G H (Same.refl _) ok _ fun v G1 H1 s1 k1 hv=>hb G1 H1 s1 k1 _ fun p vs G2 H2 s2 k2 hp hd=>⟨v,.ref p,rfl,by
    show u D ((σ.set i (some v)).set j (some (.ref p))) H2
    rw [hσ]
    exact k v p vs G2 H2 (s1.trans s2) k2 hp (m _ _ _ s2 hv) hd⟩
theorem sN [Tb] {i j : Nat} {v w : V} (k : Ok G M H) (h : ∀ G' H',Same G G'→Ok G' M H'→u D ((σ.set i (some v)).set j (some w)) H') (t : V) : [v,w].length ≤ sizeLine∧∀ p,H p = none→gTup K 2 (gCons (gName i) (gCons (gName j) gNil)) (.ref p) σ (upd H p (.tup [v,w])) (u D):=by
  refine ⟨by show 2 ≤ sizeLine; decide,fun p hp=>?_⟩
  have sp : Same G (upd G p (.tup [v,w])):=Same.new (Same.none k.g hp)
  exact ⟨p,[v,w],rfl,.inl (.inl upd_same),rfl,v,[w],rfl,w,[],rfl,rfl,h _ _ sp (k.newG _ hp)⟩
theorem gL [Tb] {i j : Nat} {σ' : V→V→St} (ha : Ev ta σ G M M1 P1) (m1 : Mo P1) (hb : Ev tb σ G M1 M2 P2) (m2 : Mo P2) (ok : Ok G M H) (hσ : ∀ v w,(σ.set i (some v)).set j (some w) = σ' v w)
    (k : ∀ v w G' H',Same G G'→Ok G' M2 H'→P1 v G'→P2 w G'→u D (σ' v w) H') : tSeq (tAsg (tTup (tCons ta (tCons tb tNil))) (gTup K 2 (gCons (gName i) (gCons (gName j) gNil)))) u D σ H:=
  ha G H (Same.refl _) ok _ fun v G1 H1 s1 k1 hv=>hb G1 H1 s1 k1 _ fun w G2 H2 s2 k2 hw=>sN (K:=K) k2 (fun G3 H3 s3 k3=>by
    rw [hσ]
    exact k v w G3 H3 ((s1.trans s2).trans s3) k3 (m1 _ _ _ (s2.trans s3) hv) (m2 _ _ _ s3 hw)) v
theorem uT [Tb] {i j : Nat} {σ' : V→V→St} (ha : Ev ta σ G M M1 P1) (m : Mo P1) (hb : EvL K tb σ G M1 M2 ds) (ok : Ok G M H) (hσ : ∀ v w,(σ.set i (some v)).set j (some w) = σ' v w)
    (k : ∀ v p vs G' H',Same G G'→Ok G' (upd M2 p (.lst vs)) H'→M2 p = none→P1 v G'→ap K G' vs ds→u D (σ' v (.ref p)) H') : tSeq (tAsg (tTup (tCons ta (tCons tb tNil))) (gTup K 2 (gCons (gName i) (gCons (gName j) gNil)))) u D σ H:=
  ha G H (Same.refl _) ok _ fun v G1 H1 s1 k1 hv=>hb G1 H1 s1 k1 _ fun p vs G2 H2 s2 k2 hp hd=>sN (K:=K) k2 (fun G3 H3 s3 k3=>by
    rw [hσ]
    exact k v p vs G3 H3 ((s1.trans s2).trans s3) k3 hp (m _ _ _ (s2.trans s3) hv) (aj s3 _ hd)) v
theorem aV (h : u D σ H) : tNext { D with nx:=u D } σ H:=h
theorem tW {S R T : Type} {s : S} {f : S→Option T} {g : R→Option T} {r : Option T} (h : orR (.inl s) f g = r) : f s = r:=h
end
end Kx
end
section
namespace Kx
open PySem L2
def SqB (K : Fg) : Bool→Hp→Addr→List V→Prop
  | true=>SqT K
  | false=>SqL K
def yU (K : Fg) (a : Addr) : It:=
  ⟨fun i H=>∃ (xs : List V) (x : V),SqT K H a xs∧xs[i]? = some x,fun i H v H'=>∃ T x,v = .ref T∧H T = none∧H' = upd H T (.tup [.int (i : Nat),x])∧∀ xs,SqT K H a xs→xs[i]? = some x,fun i H=>∃ xs : List V,SqT K H a xs∧xs.length = i⟩
def yE (K : Fg) (ka kb : Bool) (a b : Addr) : It:=
  ⟨fun i H=>∃ (xs ys : List V) (x y : V),SqB K ka H a xs∧SqB K kb H b ys∧xs[i]? = some x∧ys[i]? = some y,
    fun i H v H'=>∃ T x y,v = .ref T∧H T = none∧H' = upd H T (.tup [x,y])∧(∀ xs,SqB K ka H a xs→xs[i]? = some x)∧∀ ys,SqB K kb H b ys→ys[i]? = some y,
    fun i H=>∃ xs ys : List V,SqB K ka H a xs∧SqB K kb H b ys∧min xs.length ys.length = i⟩
def mS (K : Fg) (ta : TA) : TI:=fun σ H R=>ta σ H fun vs H1=>∃ a xs,vs = [.ref a]∧SqT K H1 a xs∧R (yU K a) H1
def ud (K : Fg) (ka kb : Bool) (ta : TA) : TI:=fun σ H R=>ta σ H fun vs H1=>∃ a b xs ys,vs = [.ref a,.ref b]∧SqB K ka H1 a xs∧SqB K kb H1 b ys∧R (yE K ka kb a b) H1
def ff : Bool→Heap→Addr→Addr→Nat→Prop
  | true=>fun h it a i=>h.IsTupleIter it a i
  | false=>fun h it a i=>h.IsListIter it a i
def xL : Bool→Heap→Addr→Array Value→Prop
  | true=>fun h a its=>h.IsTuple a its
  | false=>fun h a its=>h.IsList a its
theorem ff.at {k : Bool} {h h' : Heap} {it a : Addr} {i : Nat} (x : ff k h it a i) (e : ∀ o,h.get? it = some o→h'.get? it = some o) : ff k h' it a i:=by
  cases k with
  | true=>exact Heap.IsTupleIter.at x e
  | false=>exact Heap.IsListIter.at x e
theorem ff.obj {k : Bool} {h : Heap} {it a : Addr} {i : Nat} (x : ff k h it a i) : ∃ o,h.get? it = some o∧∀ v,o.data ≠ .cell v:=by
  cases k with
  | true=>
    obtain ⟨o,ho,_,hd⟩:=(show h.IsTupleIter it a i from x)
    exact ⟨o,ho,fun v q=>by rw [hd] at q; cases q⟩
  | false=>
    obtain ⟨o,ho,_,hd⟩:=(show h.IsListIter it a i from x)
    exact ⟨o,ho,fun v q=>by rw [hd] at q; cases q⟩
def rK : Bool→String
  | true=>"tuple_iterator"
  | false=>"list_iterator"
theorem iw (k : Bool) (a : Addr) (items : Array Value) : Begins (.ref a) { cls:=.type (rK k),data:=.fields #[.ref a,.int 0 0] } fun h=>xL k h a items:=by
  cases k with
  | true=>exact begins_tuple a items
  | false=>exact begins_list a items
theorem gj {k : Bool} {h : Heap} {it a : Addr} (e : h.get? it = some { cls:=.type (rK k),data:=.fields #[.ref a,.int 0 0] }) : ff k h it a 0:=by
  cases k with
  | true=>exact ⟨_,e,rfl,rfl⟩
  | false=>exact ⟨_,e,rfl,rfl⟩
theorem gu {prog : Program} {w : World} {A : Around} (k : Bool) (hh : A.handled = none) (it a : Addr) (hne : a ≠ it) (items : Array Value) : Draws prog w A it [it,a] items.size (fun i v=>items[i]? = some v) (fun i h=>ff k h it a i∧xL k h a items):=by
  cases k with
  | true=>exact Draws.tuple hh it a hne items
  | false=>exact Draws.list hh it a hne items
section
variable {X : Cx} {pins : List (Addr×Obj)} {σ : St} {H : Hp} {s : Shared}
theorem cH {k : Bool} {a : Addr} {xs : List V} (I : Inv X pins σ H s) (h : SqB X.K k H a xs) : ∃ its,Vals xs its∧xL k s.heap a its.toArray∧a < s.heap.objs.size:=by
  cases k with
  | true=>
    obtain ⟨its,rv,p,_⟩:=I.tuple h
    obtain ⟨o,ho,_⟩:=id p
    exact ⟨its,rv,p,Heap.lt_size ho⟩
  | false=>
    obtain ⟨its,rv,p,_⟩:=I.list h
    exact ⟨its,rv,p.isList,p.lt⟩
theorem o0 {k : Bool} {a : Addr} {xs ys : List V} (I : Inv X pins σ H s) (h : SqB X.K k H a xs) (h' : SqB X.K k H a ys) : xs = ys:=by
  cases k with
  | true=>exact I.tuple_inj h h'
  | false=>exact I.list_inj h h'
end
theorem nY {P : Program} {w : World} {K : Fg} {elts : List Expr} {kk : Nat} {tpos : Pos} (a e it : Addr) :
    Turn P w K (.Tuple elts kk tpos) (yU K a) [e,it] e (fun i h=>(∃ old,IsEnum h e it ((i : Nat) : Int) old)∧ff true h it a i∧e ≠ it∧a ≠ it∧a ≠ e) where
  mem:=by simp
  obj:=fun i h st b hb=>by
    obtain ⟨⟨old,he⟩,hi,_⟩:=st
    have e' : b = e∨b = it:=by simpa using hb
    rcases e' with z | z
    · rw [z]; exact ⟨_,he,fun v q=>nomatch q⟩
    · rw [z]; exact hi.obj
  keep:=fun i h h' st k=>let ⟨⟨old,he⟩,hi,hne⟩:=st; ⟨⟨old,k e (by simp) _ he⟩,hi.at fun o q=>k it (by simp) o q,hne⟩
  item:=by
    intro X hP hw hK hc i pins s σ H E I hf st hg
    subst hP hw hK
    obtain ⟨⟨old,he⟩,hit,hne,hai,hae⟩:=st
    obtain ⟨xs,x,hq,hx⟩:=hg
    obtain ⟨its,rv,p,hz⟩:=cH (k:=true) I hq
    have hlen:=rv.length
    have hil' : i < xs.length:=(List.getElem?_eq_some_iff.mp hx).1
    have hel : e < s.heap.objs.size:=Heap.lt_size he
    have hil : it < s.heap.objs.size:=by obtain ⟨_,q,_⟩:=hit.obj; exact Heap.lt_size q
    refine wpAny_pyNext_enum_itemD (gu (A:=X.A.in1) true (show X.A.in1.handled = none from I.ok.hd hc) it a hai its.toArray) he ⟨hit,p⟩ (by simp; omega) hne (by simp [hne,Ne.symm hae]) fun u h' tk hu ho hit' hT hsz hk=>?_
    obtain ⟨u',hu',ru⟩:=rv.get hx
    have eu : u = u':=by
      have : its.toArray[i]? = some u':=by simpa using hu'
      rw [hu] at this
      exact Option.some.inj this
    subst eu
    refine ⟨_,rfl,wpAny_letOwnedTupleGo_enum (s:={ s with heap:=h',toks:=tk + 1 }) ho fun h'' he' sb=>?_⟩
    have hT2 : h''.get? s.heap.objs.size = some { cls:=.type "tuple",data:=.seq #[.int i tk,u] }:=(sb.2 _ (Nat.ne_of_gt hel)).trans hT
    have new : ObjOk X.prog X.w (upd H s.heap.objs.size (.tup [.int (i : Nat),x])) h'' s.heap.objs.size (.tup [.int (i : Nat),x]):=
      ⟨by show 2 ≤ sizeLine; decide,[.int i tk,u],.cons ⟨_,rfl⟩ (.cons ru .nil),⟨_,hT2,rfl,_,rfl⟩⟩
    have I1 : Inv X pins σ (upd H s.heap.objs.size (.tup [.int (i : Nat),x])) { s with heap:=h'',toks:=tk + 1 }:=
      I.turnedNew (ch:=[e,it]) (fun b ob hb q=>(sb.2 b (fun z=>hb (by simp [z]))).trans (hk b ob (fun z=>hb (by simp [z])) (fun z=>hb (by simp [z])) q)) hf (Nat.le_refl _) new
    refine ⟨.ref s.heap.objs.size,_,I1,rfl,⟨_,x,rfl,I.hok.fresh (Nat.le_refl _),rfl,fun ys hy=>by rw [I.tuple_inj hy hq]; exact hx⟩,⟨⟨u,?_⟩,hit'.1.at fun o q=>(sb.2 it (Ne.symm hne)).trans q,hne,hai,hae⟩,fun b hb=>?_⟩
    · have e1 : ((i + 1 : Nat) : Int) = (i : Int) + 1:=by omega
      rw [e1]; exact he'
    · have hb' : b < s.heap.objs.size:=by
        have e' : b = e∨b = it:=by simpa using hb
        rcases e' with z | z
        · rw [z]; exact hel
        · rw [z]; exact hil
      rw [upd_ne (Nat.ne_of_lt hb')]
      exact (hf b hb).1
  done:=by
    intro X hP hw hK hc i pins s σ H E I hf st hg
    subst hP hw hK
    obtain ⟨⟨old,he⟩,hit,hne,hai,hae⟩:=st
    obtain ⟨xs,hq,hx⟩:=hg
    obtain ⟨its,rv,p,hz⟩:=cH (k:=true) I hq
    obtain ⟨f0,f1,f2,f3,f4,f5⟩:=hf it (by simp)
    have hl:=rv.length
    have en : its.toArray.size = i:=by simp; omega
    exact wpAny_pyNext_enum_endD (gu (A:=X.A.in1) true (show X.A.in1.handled = none from I.ok.hd hc) it a hai its.toArray) he (by rw [en]; exact ⟨hit,p⟩) fun h' eb=>⟨rfl,I.turned (t':=s.toks) (fun b o hb q=>eb b o hb q) f0 f1 f3 f4 f5⟩
  self:=fun A i s Q E st h=>let ⟨⟨_,he⟩,_⟩:=st; wpAny_pyIter_enum he h
end Kx
namespace PySem
theorem dP {v : Value} {o : Obj} {H : Heap→Prop} (B : Begins v o H) :
    Meets (Builtin.«enumerate.__new__» ⟨[.type "enumerate",v],[]⟩) (fun _ R s=>H s.heap∧
      R (.ok (.ret (.ref (s.heap.push o).objs.size))) { s with heap:=(s.heap.push o).push { cls:=.type "enumerate",data:=.fields #[.none,.bool false,.ref s.heap.objs.size,rawInt 0,.none,.none] } }):=
  .of_wp fun prog w A R s h=>by
    obtain ⟨hp,g,d,tk,os⟩:=s; obtain ⟨h1,h⟩:=h
    have hsub:=sub_enumerate
    have q1 : ∀ {A' : Around} {E : Value→Shared→Prop} {Q : Value→Shared→Prop},Q (.ref hp.objs.size) ⟨hp.push o,g,d,tk,os⟩→wpAny (model prog w) A' (pyIter v) Q E ⟨hp,g,d,tk,os⟩:=
      fun q=>B.iter prog w _ _ ⟨hp,g,d,tk,os⟩ _ h1 q
    wp_walk using q1
    refine wpAny_stack_any fun st=>wpAny_pure ?_
    split
    · rename_i c _ _ _ _ _
      cases (c == Value.type "enumerate")
      · wp_walk using q1
        exact ⟨_,rfl,h⟩
      · wp_walk using q1
        exact ⟨_,rfl,h⟩
    · wp_walk using q1
      exact ⟨_,rfl,h⟩
theorem kL {prog : Program} {w : World} {A : Around} {E : Value→Shared→Prop} {s : Shared} {v : Value} {o : Obj} {H : Heap→Prop} {Q : Value→Shared→Prop} (B : Begins v o H) (h1 : H s.heap)
    (h : ∀ h',IsEnum h' (s.heap.objs.size + 1) s.heap.objs.size 0 .none→h'.get? s.heap.objs.size = some o→h'.objs.size = s.heap.objs.size + 2→
      (∀ b o,s.heap.get? b = some o→h'.get? b = some o)→Q (.ref (s.heap.objs.size + 1)) { s with heap:=h' }) :
    wpAny (model prog w) A (call (.type "enumerate") [v]) Q E s:=by
  refine callType_new F.called_enumerate (by decide) (F.typeCall_enumerate_1 _) (F.newCall_enumerate_1 _) (fun obj=>F.args_object_init_2 obj _) F.entry_enumerate_new
    (dP B) ⟨h1,?_⟩
  have hz : (s.heap.push o).objs.size = s.heap.objs.size + 1:=Heap.size_push ..
  show _∧_
  rw [hz]
  have he : IsEnum ((s.heap.push o).push { cls:=.type "enumerate",data:=.fields #[.none,.bool false,.ref s.heap.objs.size,rawInt 0,.none,.none] }) (s.heap.objs.size + 1) s.heap.objs.size 0 .none:=by
    have:=Heap.get?_push_size (s.heap.push o) (o:={ cls:=.type "enumerate",data:=.fields #[.none,.bool false,.ref s.heap.objs.size,rawInt 0,.none,.none] }) rfl
    rw [hz] at this; exact this
  refine ⟨⟨_,he,rfl⟩,h _ he (Heap.get?_push_of_some _ (Heap.get?_push_size _ B.free)) (by rw [Heap.size_push,hz]) fun b o x=>Heap.get?_push_of_some _ (Heap.get?_push_of_some _ x)⟩
end PySem
namespace Kx
open PySem L2
theorem rf {X : Cx} {e : Expr} {ta : TA} {p pos tpos : Pos} {elts : List Expr} {kk : Nat} (hg : Gl X "enumerate") (hm : X.mg "enumerate" = none) (ha : PA X [e] ta) (hs : starEach [e] X.env = [(false,eval e X.env)]:=by rfl) :
    PI X (.Tuple elts kk tpos) (.Call (.Name "enumerate" p) [e] [] pos) (mS X.K ta):=by
  refine ⟨fun pins s σ H R I h=>?_⟩
  refine PyProof.Rows.Call_ (ld_blt I hg hm PyProof.Rows.boot_enumerate (PyProof.Rows.callWith_type1 (thn (ha.run pos pins s σ H _ I h) fun us s1 ⟨vs,H1,I1,r1,q1⟩=>?_) hs rfl))
  obtain ⟨a,xs,ex,hq,q⟩:=q1
  subst ex
  cases r1 with
  | cons r rr=>
    cases rr
    cases r
    obtain ⟨its,rv,p',hz⟩:=cH (k:=true) I1 hq
    refine kL (iw true a its.toArray) p' fun h' he hit hsz hk=>wpAny_pyIter_enum he ?_
    have I2 : Inv X pins σ H1 { s1 with heap:=h' }:=I1.kept (t':=s1.toks) hk
    refine ⟨s1.heap.objs.size + 1,[s1.heap.objs.size + 1,s1.heap.objs.size],_,_,H1,rfl,I2,nY a (s1.heap.objs.size + 1) s1.heap.objs.size,⟨⟨.none,he⟩,gj hit,Nat.succ_ne_self _,Nat.ne_of_lt hz,Nat.ne_of_lt (Nat.lt_succ_of_lt hz)⟩,fun b hb=>?_,q⟩
    have e' : b = s1.heap.objs.size + 1∨b = s1.heap.objs.size:=by simpa using hb
    have hle : s1.heap.objs.size ≤ b:=by
      rcases e' with z | z
      · rw [z]; exact Nat.le_add_right _ _
      · rw [z]; exact Nat.le_refl _
    exact I1.fpOk hle (I1.hok.fresh hle)
theorem qu {P : Program} {w : World} {K : Fg} {ka kb : Bool} {elts : List Expr} {kk : Nat} {tpos : Pos} {a b z TI TO i1 i2 : Addr} (D : ZipSep2 z TI TO i1 i2 [i1,a] [i2,b]) (ha : a ≠ i1) (hb : b ≠ i2) :
    Turn P w K (.Tuple elts kk tpos) (yE K ka kb a b) [z,TI,TO,i1,i2] z (fun i h=>IsZip h z TI TO .none∧IsTupOf2 h TI (.ref i1) (.ref i2)∧(∃ x y,IsTupOf2 h TO x y)∧ff ka h i1 a i∧ff kb h i2 b i) where
  mem:=by simp
  obj:=fun i h st c hc=>by
    obtain ⟨hz,hTI,⟨x,y,hTO⟩,h1,h2⟩:=st
    have e' : c = z∨c = TI∨c = TO∨c = i1∨c = i2:=by simpa using hc
    rcases e' with q | q | q | q | q
    · rw [q]; exact ⟨_,hz,fun v q=>nomatch q⟩
    · rw [q]; exact ⟨_,hTI,fun v q=>nomatch q⟩
    · rw [q]; exact ⟨_,hTO,fun v q=>nomatch q⟩
    · rw [q]; exact h1.obj
    · rw [q]; exact h2.obj
  keep:=fun i h h' st k=>by
    obtain ⟨hz,hTI,⟨x,y,hTO⟩,h1,h2⟩:=st
    exact ⟨k z (by simp) _ hz,k TI (by simp) _ hTI,⟨x,y,k TO (by simp) _ hTO⟩,h1.at fun o q=>k i1 (by simp) o q,h2.at fun o q=>k i2 (by simp) o q⟩
  item:=by
    intro X hP hw hK hc i pins s σ H E I hf st hg
    subst hP hw hK
    obtain ⟨hz,hTI,⟨x0,y0,hTO⟩,h1,h2⟩:=st
    obtain ⟨xs,ys,x,y,hqx,hqy,hx,hy⟩:=hg
    obtain ⟨its,rv,p,_⟩:=cH I hqx
    obtain ⟨its2,rv2,p2,_⟩:=cH I hqy
    have l1:=rv.length
    have l2:=rv2.length
    have g1 : i < xs.length:=(List.getElem?_eq_some_iff.mp hx).1
    have g2 : i < ys.length:=(List.getElem?_eq_some_iff.mp hy).1
    have hzl : z < s.heap.objs.size:=Heap.lt_size hz
    have hh : X.A.in1.handled = none:=I.ok.hd hc
    refine wpAny_pyNext_zipD2_item D (gu (A:=X.A.in1) ka hh i1 a ha its.toArray) (gu (A:=X.A.in1) kb hh i2 b hb its2.toArray) hz hTI hTO ⟨h1,p⟩ ⟨h2,p2⟩ (by simp; omega) (by simp; omega) fun u u2 h' tk hu hu2 z' TO' h1' h2' hT hsz hk=>?_
    have ru : RelV x u:=by
      obtain ⟨w,hw,r⟩:=rv.get hx
      have e : its.toArray[i]? = some w:=by simpa using hw
      rw [hu] at e
      cases e
      exact r
    have ru2 : RelV y u2:=by
      obtain ⟨w,hw,r⟩:=rv2.get hy
      have e : its2.toArray[i]? = some w:=by simpa using hw
      rw [hu2] at e
      cases e
      exact r
    refine ⟨_,rfl,wpAny_letOwnedTupleGo_zip (s:={ s with heap:=h',toks:=tk }) z' fun h'' z'' sb=>?_⟩
    have hT2 : h''.get? s.heap.objs.size = some { cls:=.type "tuple",data:=.seq #[u,u2] }:=(sb.2 _ (Nat.ne_of_gt hzl)).trans hT
    have new : ObjOk X.prog X.w (upd H s.heap.objs.size (.tup [x,y])) h'' s.heap.objs.size (.tup [x,y]):=
      ⟨by show 2 ≤ sizeLine; decide,[u,u2],.cons ru (.cons ru2 .nil),⟨_,hT2,rfl,_,rfl⟩⟩
    have I1 : Inv X pins σ (upd H s.heap.objs.size (.tup [x,y])) { s with heap:=h'',toks:=tk }:=
      I.turnedNew (t':=tk) (ch:=[z,TI,TO,i1,i2]) (fun c o hb q=>(sb.2 c (fun q'=>hb (by simp [q']))).trans (hk c o (fun q'=>hb (by simp [q'])) (fun q'=>hb (by simp [q'])) (fun q'=>hb (by simp [q'])) (fun q'=>hb (by simp [q'])) q)) hf (Nat.le_refl _) new
    refine ⟨.ref s.heap.objs.size,_,I1,rfl,⟨_,x,y,rfl,I.hok.fresh (Nat.le_refl _),rfl,fun l hl=>by rw [o0 I hl hqx]; exact hx,fun l hl=>by rw [o0 I hl hqy]; exact hy⟩,⟨z'',?_,⟨u,u2,?_⟩,?_,?_⟩,fun c hcm=>?_⟩
    · exact (sb.2 _ D.TIz).trans (hk _ _ D.TIz D.TITO D.TIi1 D.TIi2 hTI)
    · exact (sb.2 _ D.TOz).trans TO'
    · exact h1'.1.at fun o q=>(sb.2 _ (Ne.symm D.zi1)).trans q
    · exact h2'.1.at fun o q=>(sb.2 _ (Ne.symm D.zi2)).trans q
    · have hlt : c < s.heap.objs.size:=by
        have e' : c = z∨c = TI∨c = TO∨c = i1∨c = i2:=by simpa using hcm
        rcases e' with q | q | q | q | q
        · rw [q]; exact hzl
        · rw [q]; exact Heap.lt_size hTI
        · rw [q]; exact Heap.lt_size hTO
        · rw [q]; obtain ⟨_,e1,_⟩:=h1.obj; exact Heap.lt_size e1
        · rw [q]; obtain ⟨_,e2,_⟩:=h2.obj; exact Heap.lt_size e2
      rw [upd_ne (Nat.ne_of_lt hlt)]
      exact (hf c hcm).1
  done:=by
    intro X hP hw hK hc i pins s σ H E I hf st hg
    subst hP hw hK
    obtain ⟨hz,hTI,⟨x0,y0,hTO⟩,h1,h2⟩:=st
    obtain ⟨xs,ys,hqx,hqy,hend⟩:=hg
    obtain ⟨its,rv,p,_⟩:=cH I hqx
    obtain ⟨its2,rv2,p2,_⟩:=cH I hqy
    have l1:=rv.length
    have l2:=rv2.length
    have hh : X.A.in1.handled = none:=I.ok.hd hc
    exact wpAny_pyNext_zipD2_end D (gu (A:=X.A.in1) ka hh i1 a ha its.toArray) (gu (A:=X.A.in1) kb hh i2 b hb its2.toArray) hz hTI hTO ⟨h1,p⟩ ⟨h2,p2⟩ (by simp; omega) (by simp; omega) (by simp; omega) fun h' tk hk=>⟨rfl,I.turnedL (t':=tk) (ch:=[z,TI,TO,i1,i2]) (fun c o hb q=>
      hk c o (fun q'=>hb (by simp [q'])) (fun q'=>hb (by simp [q'])) (fun q'=>hb (by simp [q'])) (fun q'=>hb (by simp [q'])) q) hf⟩
  self:=fun A i s Q E st h=>wpAny_pyIter_zip st.1 h
theorem vH (ka kb : Bool) {X : Cx} {e e2 : Expr} {ta : TA} {p pos tpos : Pos} {elts : List Expr} {kk : Nat} (hg : Gl X "zip") (hm : X.mg "zip" = none) (ha : PA X [e,e2] ta)
    (hs : starEach [e,e2] X.env = (false,eval e X.env) :: starEach [e2] X.env:=by rfl) (hpl : (backTo pos (starEach [e2] X.env)).any (·.1) = false:=by rfl) :
    PI X (.Tuple elts kk tpos) (.Call (.Name "zip" p) [e,e2] [] pos) (ud X.K ka kb ta):=by
  refine ⟨fun pins s σ H R I h=>?_⟩
  refine PyProof.Rows.Call_ (ld_blt I hg hm PyProof.Rows.boot_zip (PyProof.Rows.callWith_type1 (thn (ha.run pos pins s σ H _ I h) fun us s1 ⟨vs,H1,I1,r1,q1⟩=>?_) hs hpl))
  obtain ⟨a,b,xs,ys,ex,hqx,hqy,q⟩:=q1
  subst ex
  cases r1 with
  | cons r rr=>
    cases rr with
    | cons r' rr=>
      cases rr
      cases r
      cases r'
      have fresh5 : ∀ c,c ∈ [s1.heap.objs.size + 4,s1.heap.objs.size + 2,s1.heap.objs.size + 3,s1.heap.objs.size,s1.heap.objs.size + 1]→FpOk X pins H1 c:=fun c hcm=>by
        have e' : c = s1.heap.objs.size + 4∨c = s1.heap.objs.size + 2∨c = s1.heap.objs.size + 3∨c = s1.heap.objs.size∨c = s1.heap.objs.size + 1:=by simpa using hcm
        have hle : s1.heap.objs.size ≤ c:=by
          rcases e' with z | z | z | z | z
          · rw [z]; exact Nat.le_add_right _ _
          · rw [z]; exact Nat.le_add_right _ _
          · rw [z]; exact Nat.le_add_right _ _
          · rw [z]; exact Nat.le_refl _
          · rw [z]; exact Nat.le_add_right _ _
        exact I1.fpOk hle (I1.hok.fresh hle)
      obtain ⟨its,rv,p1,la⟩:=cH I1 hqx
      obtain ⟨its2,rv2,p2,lb⟩:=cH I1 hqy
      refine zip_begins2 (iw ka a its.toArray) (iw kb b its2.toArray) p1 p2 fun h' hz hTI hTO h1 h2 hsz hk=>wpAny_pyIter_zip hz ?_
      have I2 : Inv X pins σ H1 { s1 with heap:=h' }:=I1.kept (t':=s1.toks) hk
      exact ⟨s1.heap.objs.size + 4,[s1.heap.objs.size + 4,s1.heap.objs.size + 2,s1.heap.objs.size + 3,s1.heap.objs.size,s1.heap.objs.size + 1],_,_,H1,rfl,I2,qu (zip_sep2 (fp1:=[a]) (fp2:=[b]) (by simpa using la) (by simpa using lb)) (Nat.ne_of_lt la) (Nat.ne_of_lt (Nat.lt_succ_of_lt lb)),⟨hz,hTI,⟨_,_,hTO⟩,gj h1,gj h2⟩,fresh5,q⟩
section
variable {K : Fg} {σ : St} {G G' M M1 M2 M3 : Hp} {ta tb te tc : TE} {P P1 P2 : VP} {d e : Dat} {ds es : List Dat}
def vt : Bool→List Dat→Dat
  | true=>.tuple
  | false=>.list
theorem sF {k : Bool} {v : V} {G : Hp} (h : Dq K G v (vt k ds)) : ∃ a vs,v = .ref a∧(∀ H,Same G H→SqB K k H a vs)∧ap K G vs ds:=by
  cases k with
  | true=>
    obtain ⟨a,vs,rfl,h1,h2⟩:=bx h
    exact ⟨a,vs,rfl,fun H s=>bN s h1,h2⟩
  | false=>
    obtain ⟨a,vs,rfl,h1,h2⟩:=bM h
    exact ⟨a,vs,rfl,fun H s=>.inl (.inl (s _ _ h1)),h2⟩
theorem dm [Tb] {ta : TA} (h : EvA ta σ G M M1 (ak (DD K (.tuple ds)) az)) : Src K (mS K ta) σ G M M1 (lq ds):=fun G0 H s k R q=>
  h G0 H s k _ fun vs G1 H1 s1 k1 hv=>by
    obtain ⟨v,rfl,hw⟩:=one_of (R:=az) hv
    obtain ⟨a,vs,rfl,h1,h2⟩:=bx hw
    refine ⟨a,vs,rfl,bN k1.g h1,q _ G1 H1 s1 k1 ?_⟩
    have w : Walk (yU K a) vs.length (fun H=>SqT K H a vs) (YPair (fun i=>some (.int (i : Nat))) (fun i=>vs[i]?)):=by
      refine ⟨fun i _ hi q=>⟨vs,vs[i],q,by simp [hi]⟩,fun _ q=>⟨vs,q,rfl⟩,fun i H v H' _ q y=>?_⟩
      obtain ⟨T,x,h1,h2,h3,h4⟩:=y
      exact ⟨T,.int (i : Nat),x,h1,h2,h3,rfl,h4 vs q⟩
    refine iJ w (by simp [lq,aw h2]) (fun H s=>bN s h1) fun i d x y hd hx hy=>?_
    cases hx
    unfold lq at hd
    rw [List.getElem?_mapIdx] at hd
    cases e : ds[i]? with
    | none=>rw [e] at hd; cases hd
    | some d'=>
      rw [e] at hd
      cases hd
      exact ⟨_,_,rfl,.int _,eh h2 hy e⟩
theorem mP [Tb] {ka kb : Bool} {ta : TA} (h : EvA ta σ G M M1 (ak (DD K (vt ka ds)) (ak (DD K (vt kb es)) az))) : Src K (ud K ka kb ta) σ G M M1 (pX ds es):=fun G0 H s k R q=>
  h G0 H s k _ fun vs G1 H1 s1 k1 hv=>by
    obtain ⟨v,w,rfl,hv1,hw1⟩:=dB hv
    obtain ⟨a,vs,rfl,h1,h2⟩:=sF hv1
    obtain ⟨b,ws,rfl,h3,h4⟩:=sF hw1
    refine ⟨a,b,vs,ws,rfl,h1 _ k1.g,h3 _ k1.g,q _ G1 H1 s1 k1 ?_⟩
    have w : Walk (yE K ka kb a b) (min vs.length ws.length) (fun H=>SqB K ka H a vs∧SqB K kb H b ws) (YPair (fun i=>vs[i]?) (fun i=>ws[i]?)):=by
      refine ⟨fun i _ hi q=>?_,fun _ q=>⟨vs,ws,q.1,q.2,rfl⟩,fun i H v H' _ q y=>?_⟩
      · have h1 : i < vs.length:=by omega
        have h2 : i < ws.length:=by omega
        exact ⟨vs,ws,vs[i],ws[i],q.1,q.2,by simp [h1],by simp [h2]⟩
      · obtain ⟨T,x,z,h1,h2,h3,h4,h5⟩:=y
        exact ⟨T,x,z,h1,h2,h3,h4 vs q.1,h5 ws q.2⟩
    refine iJ w (by simp [pX,aw h2,aw h4]) (fun H s=>⟨h1 _ s,h3 _ s⟩) fun i d x y hd hx hy=>?_
    obtain ⟨p,q,rfl,e1,e2⟩:=um hd
    exact ⟨p,q,rfl,eh h2 hx e1,eh h4 hy e2⟩
end
end Kx
end
section
namespace Kx
open PySem L2
section
variable {X : Cx} {K : Fg}
theorem aH (h : X.K = K:=by rfl) : IxR X (rIxL K):=h ▸ ix_list
theorem ah (h : X.K = K:=by rfl) : IxR X (rIxT K):=h ▸ ix_tup
theorem sj (h : X.K = K:=by rfl) : SlR X (rSlL K):=h ▸ sl_list
theorem cG (h : X.K = K:=by rfl) : SlR X (vU K):=h ▸ uR
theorem aR (h : X.K = K:=by rfl) : CallR X (.builtin "len") (rLen K):=h ▸ w4
theorem uz (h : X.K = K:=by rfl) : CallR X (.type "list") (kh K):=h ▸ uZ
theorem bu (h : X.K = K:=by rfl) : CallR X (.type "tuple") (ib K):=h ▸ tR
theorem bq (h : X.K = K:=by rfl) : CallR X (.builtin "isinstance") (rIsi K):=h ▸ call_isi
theorem fQ (hc : X.calm = true) (h : X.K = K:=by rfl) : CallR X (.builtin "all") (rAll K):=h ▸ cr_all hc
theorem o5 (hu : X.A.units + 64 < cLine) (h : X.K = K:=by rfl) : OpR X (compareOp .Eq) (rEqD K):=h ▸ op_eqD hu
theorem kl (hu : X.A.units + 64 < cLine) (h : X.K = K:=by rfl) : OpR X (compareOp .NotEq) (rNeD K):=h ▸ op_neD hu
theorem nS (hu : X.A.units + 65 < cLine) (h : X.K = K:=by rfl) : OpR X (compareOp .NotIn) (rNotInD K):=h ▸ op_notInD hu
theorem gS (h : X.K = K:=by rfl) : OpR X (binaryOp .Add) (oI K):=h ▸ vW
theorem cR {tg l : Expr} {tl : TE} (hl : PE X l tl) (h : X.K = K:=by rfl) : PI X tg l (iList K tl):=h ▸ pi_list hl
theorem bf {tg l : Expr} {tl : TE} (hl : PE X l tl) (h : X.K = K:=by rfl) : PI X tg l (iTup K tl):=h ▸ pi_tup hl
theorem dn {e : Expr} {ta : TA} {p pos tpos : Pos} {elts : List Expr} {kk : Nat} (hg : Gl X "enumerate") (hm : X.mg "enumerate" = none) (ha : PA X [e] ta) (h : X.K = K:=by rfl) (hs : starEach [e] X.env = [(false,eval e X.env)]:=by rfl) :
    PI X (.Tuple elts kk tpos) (.Call (.Name "enumerate" p) [e] [] pos) (mS K ta):=h ▸ rf hg hm ha hs
theorem lw (ka kb : Bool) {e e2 : Expr} {ta : TA} {p pos tpos : Pos} {elts : List Expr} {kk : Nat} (hg : Gl X "zip") (hm : X.mg "zip" = none) (ha : PA X [e,e2] ta) (h : X.K = K:=by rfl)
    (hs : starEach [e,e2] X.env = (false,eval e X.env) :: starEach [e2] X.env:=by rfl) (hpl : (backTo pos (starEach [e2] X.env)).any (·.1) = false:=by rfl) :
    PI X (.Tuple elts kk tpos) (.Call (.Name "zip" p) [e,e2] [] pos) (ud K ka kb ta):=h ▸ vH ka kb hg hm ha hs hpl
end
end Kx
end
section
namespace Kx
open PySem L2
section
variable {K : Fg} {σ : St} {G G' M M1 M2 M3 : Hp} {ta tb te tc : TE} {P P1 P2 : VP} {d e : Dat} {ds es : List Dat} {D : Ends} {H : Hp} {u : TS}
def SCP (K : Fg) (ns : List Int) : VP:=fun v G=>∃ a,v = .ref a∧SqL K G a (ns.map V.int)
theorem cX {ns : List Int} : Mo (SCP K ns):=fun _ _ _ s ⟨a,e,h⟩=>⟨a,e,s.seq h⟩
theorem jT [Tb] {ns : List Int} (ha : EvA (tCons ta tNil) σ G M M1 (ak (SCP K ns) az)) : Ev (tCB (rLen K) (tCons ta tNil)) σ G M M1 (DD K (.int (ns.length : Int))):=ev_cb ha fun xs G0 H s k hx Q q=>by
  obtain ⟨v,rfl,a,rfl,ha⟩:=one_of (R:=az) hx
  refine ⟨a,_,rfl,.inl (k.g.seq ha),q _ G0 H (Same.refl _) k ?_⟩
  rw [List.length_map]
  exact .int _
theorem tq [Tb] {ns : List Int} {i x : Int} (hi : atI ns i = some x) (ha : Ev ta σ G M M1 (SCP K ns)) (hb : Ev tb σ G M1 M2 (DD K (.int i))) : Ev (tOp (rIxL K) ta tb) σ G M M2 (DD K (.int x)):=ev_op cX ha hb fun x' y G0 H s k hx hy Q q=>by
  obtain ⟨a,rfl,ha⟩:=hx
  cases hy
  exact ⟨a,_,i,.int x,rfl,rfl,k.g.seq ha,gO hi,q _ G0 H (Same.refl _) k (.int _)⟩
def spO [Tb] {α : Type} (args : α→List V→Hp→Prop) (m : α→Option Sto) : Sp:=fun vs H Q _=>
  ∃ (G M : Hp) (a : α) (z : Sto),Ok G M H∧args a vs G∧m a = some z∧∀ p G' H',Same G G'→Ok G' (upd M p (sto z)) H'→M p = none→Q (.ref p) H'
theorem w7 [Tb] (he : EvL K te σ G M M1 ds) (ok : Ok G M H) (k : ∀ p vs G' H',Same G G'→Ok G' (upd M1 p (.lst vs)) H'→M1 p = none→ap K G' vs ds→D.rt (.ref p) H') : tSeq (tRet te) u D σ H:=he G H (Same.refl _) ok _ k
theorem xY {G : Hp} {vs : List V} {x y z : Int} (h : ap K G vs [.int x,.int y,.int z]) : vs = [.int x,.int y,.int z]:=by
  cases h with
  | cons a b=>cases a; cases b with
    | cons a b=>cases a; cases b with
      | cons a b=>cases a; cases b; rfl
theorem vB [Tb] {α ρ : Type} {ao : α→List V→Hp→Prop} {mo : α→Option Sto} {args : Unit→List V→Hp→Prop} {m : Unit→Sto→Option (ρ×Sto)} {res : ρ→VP} {E E' : XK} {t : TA} {a : α} {z : Sto} {r : ρ×Sto} (h1 : mo a = some z) (h2 : m () z = some r) (hn : ∀ G,args () [] G) (ha : EvA t σ G M M1 (ao a)) :
    Ev (tCall (spD args m res) [] E (tCons (tCall (spO ao mo) [] E' t) tNil)) σ G M M1 (res r.1):=fun G0 H s k Q q=>
  ha G0 H s k _ fun vs G1 H1 s1 k1 hv=>by
    rw [List.append_nil]
    refine ⟨G1,M1,a,z,k1,hv,h1,fun p G2 H2 s2 k2 hp=>?_⟩
    refine ⟨G2,upd M1 p (sto z),p,z,r.2,(),r.1,[],rfl,k2,upd_same,hn G2,h2,fun v G3 H3 s3 k3 hr=>?_⟩
    rw [upd_upd] at k3
    exact q v G3 H3 ((s1.trans s2).trans s3) (k3.less (Same.new hp)) hr
end
end Kx
end
section
namespace Kx
open PySem L2
def uh (a : Int) (z : Sto) : Option (Int×Sto):=
  cond (decide ((0 : Int) < z.1)) ((dmO z.1 a).bind fun t1=>some (t1.2,(t1.1,z.2.1,z.2.2 + 1)))
    ((dr z.2.1 40961).bind fun t1=>(fc z.2.1 (t1 + 20011)).bind fun t2=>(fc 50021 (z.2.2 + 1)).bind fun t3=>(dr (t2 + t3 + 3) 1000000433).bind fun t4=>(dL t4 48).bind fun t5=>(dr t5 a).bind fun t6=>some (t6,(z.1,t4,z.2.2 + 1)))
end Kx
namespace Kx
open PySem L2
theorem pE {M0 M : Hp} {p : Addr} {o : HO} (h : Same M0 M) : Same (upd M0 p o) (upd M p o):=fun a u e=>by
  by_cases ha : a = p
  · subst ha; rw [upd_same] at e ⊢; exact e
  · rw [upd_ne ha] at e ⊢; exact h a u e
end Kx
end
section
namespace Kx
open PySem L2
end Kx
end
section
namespace Kx
open PySem L2
section
variable {K : Fg} {σ σ' : St} {G G' M M1 M2 M3 : Hp} {ta tb te tc : TE} {P P1 P2 : VP} {d e : Dat} {ds es : List Dat} {D : Ends} {H : Hp} {u : TS}
def EvX [Tb] (ta : TA) (σ : St) (G M : Hp) (F : List V→Hp→Hp→Prop) : Prop:=
  ∀ G0 H,Same G G0→Ok G0 M H→∀ Q : List V→Hp→Prop,(∀ vs G' M' H',Same G0 G'→Ok G' M' H'→F vs G' M'→Q vs H')→ta σ H Q
theorem j6 [Tb] : EvX tNil σ G M fun vs _ M'=>vs = []∧M' = M:=fun G0 H _ k Q q=>q [] G0 M H (Same.refl _) k ⟨rfl,rfl⟩
theorem ng [Tb] {tr : TA} {R : List V→Hp→Hp→Prop} (m : Mo P) (ha : Ev ta σ G M M1 P) (hr : EvX tr σ G M1 R) : EvX (tCons ta tr) σ G M fun vs G' M'=>∃ v r,vs = v :: r∧P v G'∧R r G' M':=fun G0 H s k Q q=>
  ha G0 H s k _ fun x G1 H1 s1 k1 hx=>hr G1 H1 (s.trans s1) k1 _ fun xs G2 M2 H2 s2 k2 hy=>q (x :: xs) G2 M2 H2 (s1.trans s2) k2 ⟨x,xs,rfl,m x G1 G2 s2 hx,hy⟩
theorem BM [Tb] {tr : TA} {R : Addr→List V→List V→Hp→Hp→Prop} (ha : EvL K ta σ G M M1 ds) (hr : ∀ p ws,M1 p = none→EvX tr σ G (upd M1 p (.lst ws)) (R p ws)) :
    EvX (tCons ta tr) σ G M fun vs G' M'=>∃ p ws r,vs = .ref p :: r∧M1 p = none∧ap K G' ws ds∧R p ws r G' M':=fun G0 H s k Q q=>
  ha G0 H s k _ fun p ws G1 H1 s1 k1 hp hd=>hr p ws hp G1 H1 (s.trans s1) k1 _ fun xs G2 M2 H2 s2 k2 hy=>q (.ref p :: xs) G2 M2 H2 (s1.trans s2) k2 ⟨p,ws,xs,rfl,hp,aj s2 _ hd,hy⟩
theorem tU [Tb] {i j : Nat} {ta : TA} {F : List V→Hp→Hp→Prop} (he : EvX ta σ G M F) (ok : Ok G M H) (k : ∀ vs G' M' H',Same G G'→Ok G' M' H'→F vs G' M'→∃ v w,vs = [v,w]∧u D ((σ.set i (some v)).set j (some w)) H') : tSeq (tPar i j ta) u D σ H:=
  he G H (Same.refl _) ok _ fun vs G1 M1 H1 s1 k1 hv=>k vs G1 M1 H1 s1 k1 hv
theorem tX [Tb] {n : Nat} {g : TGs} {ta : TA} {F : List V→Hp→Hp→Prop} (he : EvX ta σ G M F) (ok : Ok G M H) (k : ∀ vs G' M' H',Same G G'→Ok G' M' H'→F vs G' M'→vs.length ≤ sizeLine∧∀ p,H' p = none→gTup K n g (.ref p) σ (upd H' p (.tup vs)) (u D)) : tSeq (tAsg (tTup ta) (gTup K n g)) u D σ H:=
  he G H (Same.refl _) ok _ fun vs G1 M1 H1 s1 k1 hv=>k vs G1 M1 H1 s1 k1 hv
end
end Kx
namespace Kx
open PySem L2
end Kx
end
section
namespace Kx
open PySem L2
end Kx
namespace Kx
open PySem L2
end Kx
namespace Kx
open PySem L2
end Kx
end
section
namespace Kx
open PySem L2
theorem uO {z : Str} : sok z = true ↔ ∀ c ∈ z.cps.toList,c < 0x110000:=by
  unfold sok PyData.strOk
  rw [Array.all_eq_true']
  simp
theorem uM {a b : Str} (ha : sok a = true) (hb : sok b = true) : sok (a ++ b) = true:=by
  rw [uO] at *
  intro c hc
  have e : (a ++ b).cps.toList = a.cps.toList ++ b.cps.toList:=by
    show (a.cps ++ b.cps).toList = _
    simp
  rw [e] at hc
  rcases List.mem_append.mp hc with h | h
  · exact ha c h
  · exact hb c h
def xT (z : Str) : Option Int:=(grd (z.length ≤ 16777216)).bind fun _=>some (z.length : Int)
def atS (z : Str) (i : Int) : Option Str:=(grd (z.length ≤ 16777216)).bind fun _=>(atI z.cps.toList i).bind fun c=>some ⟨#[c]⟩
def xj (a b : Str) : Option Str:=(grd (a.length + b.length ≤ 16777216)).bind fun _=>some (a ++ b)
def jX (x z : Str) : Option Bool:=match x.cps.toList with
  | [c]=>some (decide (c ∈ z.cps.toList))
  | _=>none
def sLt (a b : Str) : Bool:=decide (a.cps.toList < b.cps.toList)
section
variable {K : Fg} {σ σ' : St} {G G' M M1 M2 M3 : Hp} {ta tb te tc : TE} {P P1 P2 : VP} {d e : Dat} {ds es : List Dat} {D : Ends} {H : Hp} {u : TS}
theorem bO {G : Hp} {v : V} {z : Str} (h : Dq K G v (.str z)) : v = .str z∧sok z = true:=by
  cases h with
  | str h=>exact ⟨rfl,h⟩
def rLenS : List V→Hp→VK→Prop:=fun xs H Q=>∃ z,xs = [.str z]∧z.length ≤ sizeLine∧Q (.int z.length) H
theorem vT [Tb] {z : Str} {n : Int} (h : xT z = some n) (ha : EvA (tCons ta tNil) σ G M M1 (ak (DD K (.str z)) az)) : Ev (tCB rLenS (tCons ta tNil)) σ G M M1 (DD K (.int n)):=ev_cb ha fun xs G0 H s k hx Q q=>by
  obtain ⟨v,rfl,hv⟩:=one_of (R:=az) hx
  obtain ⟨rfl,_⟩:=bO hv
  obtain ⟨_,h1,h2⟩:=bs h
  cases h2
  exact ⟨z,rfl,szl (bz h1),q _ G0 H (Same.refl _) k (.int _)⟩
theorem xD [Tb] {z y : Str} {i : Int} (h : atS z i = some y) (ha : Ev ta σ G M M1 (DD K (.str z))) (hb : Ev tb σ G M1 M2 (DD K (.int i))) : Ev (tOp rIxS ta tb) σ G M M2 (DD K (.str y)):=ev_op aQ ha hb fun v w G0 H s k hx hy Q q=>by
  obtain ⟨rfl,hz⟩:=bO hx
  cases hy
  obtain ⟨_,h1,h2⟩:=bs h
  obtain ⟨c,h3,h4⟩:=bs h2
  cases h4
  refine ⟨z,i,c,rfl,rfl,szl (bz h1),h3,q _ G0 H (Same.refl _) k (.str (lX hz ?_))⟩
  unfold atI at h3
  obtain ⟨j,_,h5⟩:=bs h3
  exact List.mem_of_getElem? h5
theorem uN [Tb] {a b c : Str} (h : xj a b = some c) (ha : Ev ta σ G M M1 (DD K (.str a))) (hb : Ev tb σ G M1 M2 (DD K (.str b))) : Ev (tOp (fun x y H Q=>∃ i j,x = V.str i∧y = .str j∧i.length + j.length ≤ sizeLine∧Q (.str (i ++ j)) H) ta tb) σ G M M2 (DD K (.str c)):=ev_op aQ ha hb fun v w G0 H s k hx hy Q q=>by
  obtain ⟨rfl,h1⟩:=bO hx
  obtain ⟨rfl,h2⟩:=bO hy
  obtain ⟨_,h3,h4⟩:=bs h
  cases h4
  exact ⟨a,b,rfl,rfl,szl (bz h3),q _ G0 H (Same.refl _) k (.str (uM h1 h2))⟩
theorem qj {x z : Str} {b : Bool} (h : jX x z = some b) : ∃ c,x = ⟨#[c]⟩∧b = decide (c ∈ z.cps.toList):=by
  unfold jX at h
  split at h
  · next c e=>
    refine ⟨c,?_,(Option.some.inj h).symm⟩
    cases x with
    | mk cps=>
      congr 1
      apply Array.toList_inj.mp
      exact e
  · cases h
theorem qk [Tb] {x z : Str} {b : Bool} (h : jX x z = some b) (ha : Ev ta σ G M M1 (DD K (.str x))) (hb : Ev tb σ G M1 M2 (DD K (.str z))) : Ev (tOp (fun x y H Q=>∃ (c : Nat) (z : Str),x = V.str ⟨#[c]⟩∧y = .str z∧Q (.bl (decide (c ∈ z.cps.toList))) H) ta tb) σ G M M2 (DD K (.bool b)):=ev_op aQ ha hb fun v w G0 H s k hx hy Q q=>by
  obtain ⟨rfl,_⟩:=bO hx
  obtain ⟨rfl,_⟩:=bO hy
  obtain ⟨c,rfl,rfl⟩:=qj h
  exact ⟨c,z,rfl,rfl,q _ G0 H (Same.refl _) k (.bl _)⟩
theorem xI [Tb] {a b : Str} (ha : Ev ta σ G M M1 (DD K (.str a))) (hb : Ev tb σ G M1 M2 (DD K (.str b))) : Ev (tOp (fun x y H Q=>∃ i j,x = V.str i∧y = .str j∧Q (.bl (!decide (j.cps.toList < i.cps.toList))) H) ta tb) σ G M M2 (DD K (.bool (!sLt b a))):=ev_op aQ ha hb fun v w G0 H s k hx hy Q q=>by
  obtain ⟨rfl,_⟩:=bO hx
  obtain ⟨rfl,_⟩:=bO hy
  exact ⟨a,b,rfl,rfl,q _ G0 H (Same.refl _) k (.bl _)⟩
theorem vJ {X : Cx} : CallR X (.builtin "len") rLenS:=call_len_str
theorem gq : ∀ (xs : List Str),(xs.map V.str).all flatV = true
  | []=>rfl
  | x :: xs=>by
    rw [List.map_cons,List.all_cons,gq xs]; rfl
theorem iL (x : Str) : ∀ (xs : List Str),inV (.str x) (xs.map V.str) = gI x xs
  | []=>by simp [inV,gI]
  | y :: ys=>by
    have ih:=iL x ys
    unfold inV at ih ⊢
    rw [List.map_cons,List.any_cons,ih]
    have e : eqV (.str y) (.str x) = decide (y = x):=by unfold eqV; exact beq_dec y x
    rw [e]
    unfold gI
    by_cases h : x = y
    · simp [h]
    · simp [h,Ne.symm h]
theorem oy {X : Cx} (h : X.K = K:=by rfl) : OpR X (compareOp .In) (rIn K false):=h ▸ op_in_seq
theorem qU [Tb] {x : Str} {xs : List Str} {k : Bool} (ha : Ev ta σ G M M1 (DD K (.str x))) (hb : Ev tb σ G M1 M2 (DD K (vt k (xs.map Dat.str)))) : Ev (tOp (rIn K false) ta tb) σ G M M2 (DD K (.bool (gI x xs))):=ev_op aQ ha hb fun v w G0 H s kk hx hy Q q=>by
  obtain ⟨rfl,_⟩:=bO hx
  cases k with
  | true=>
    obtain ⟨a,vs,rfl,h1,h2⟩:=bx (show Dq K G0 w (.tuple (xs.map Dat.str)) from hy)
    rw [cq h2] at h1
    refine ⟨a,_,rfl,.inr (bN kk.g h1),rfl,gq xs,?_⟩
    rw [if_neg (by decide),iL]
    exact q _ G0 H (Same.refl _) kk (.bl _)
  | false=>
    obtain ⟨a,vs,rfl,h1,h2⟩:=bM (show Dq K G0 w (.list (xs.map Dat.str)) from hy)
    rw [cq h2] at h1
    refine ⟨a,_,rfl,.inl (.inl (.inl (kk.g _ _ h1))),rfl,gq xs,?_⟩
    rw [if_neg (by decide),iL]
    exact q _ G0 H (Same.refl _) kk (.bl _)
end
end Kx
end
section
namespace Kx
open PySem L2
theorem eR (a : Str) : sLt a a = false:=decide_eq_false (List.lt_irrefl _)
theorem eU {a b c : Str} (h1 : sLt a b = true) (h2 : sLt b c = true) : sLt a c = true:=decide_eq_true (List.lt_trans (of_decide_eq_true h1) (of_decide_eq_true h2))
theorem kj {a b : Str} (h : a.cps.toList = b.cps.toList) : a = b:=by
  cases a with
  | mk x=>
    cases b with
    | mk y=>
      congr 1
      exact Array.toList_inj.mp h
theorem kf {a b : Str} (h1 : sLt a b = false) (h2 : sLt b a = false) : a = b:=by
  have l1 : ¬ a.cps.toList < b.cps.toList:=of_decide_eq_false h1
  have l2 : ¬ b.cps.toList < a.cps.toList:=of_decide_eq_false h2
  exact kj (List.le_antisymm (List.not_lt.mp l2) (List.not_lt.mp l1))
def sLe (a b : Str) : Bool:=!sLt b a
theorem jE (a b c : Str) (h1 : sLe a b = true) (h2 : sLe b c = true) : sLe a c = true:=by
  unfold sLe at *
  cases e : sLt c a with
  | false=>rfl
  | true=>
    cases e1 : sLt b a with
    | true=>rw [e1] at h1; cases h1
    | false=>
      cases e2 : sLt a b with
      | true=>have:=eU e e2; rw [this] at h2; cases h2
      | false=>rw [kf e2 e1] at e; rw [e] at h2; cases h2
theorem pZ (a b : Str) : (sLe a b || sLe b a) = true:=by
  unfold sLe
  cases e : sLt b a with
  | false=>rfl
  | true=>
    cases e2 : sLt a b with
    | false=>rfl
    | true=>have:=eU e e2; rw [eR] at this; cases this
theorem mj {a b : Str} (h1 : sLe a b = true) (h2 : sLe b a = true) : a = b:=by
  unfold sLe at *
  exact kf (by simpa using h2) (by simpa using h1)
theorem eo {α : Type} {le : α→α→Prop} (anti : ∀ a b,le a b→le b a→a = b) : ∀ {l m : List α},l.Perm m→l.Pairwise le→m.Pairwise le→l = m
  | [],m,p,_,_=>by rw [List.nil_perm.mp p]
  | x :: l,[],p,_,_=>by have:=p.length_eq; simp at this
  | x :: l,y :: m,p,h1,h2=>by
    have e : x = y:=by
      have hx : x ∈ y :: m:=p.mem_iff.mp List.mem_cons_self
      have hy : y ∈ x :: l:=p.mem_iff.mpr List.mem_cons_self
      rcases List.mem_cons.mp hx with e | hx
      · exact e
      · rcases List.mem_cons.mp hy with e | hy
        · exact e.symm
        · exact anti _ _ (List.rel_of_pairwise_cons h1 hy) (List.rel_of_pairwise_cons h2 hx)
    subst e
    rw [eo anti ((List.perm_cons x).mp p) (List.pairwise_cons.mp h1).2 (List.pairwise_cons.mp h2).2]
def srt (xs : List Str) : List Str:=xs.mergeSort sLe
def jN (xs : List Str) : Option (List Str):=(grd (xs.length < 64)).bind fun _=>some (srt xs)
theorem cA (xs : List Str) : (srt xs).Perm xs:=List.mergeSort_perm _ _
theorem ft (xs : List Str) : (srt xs).Pairwise fun a b=>sLe a b = true:=List.pairwise_mergeSort jE pZ xs
theorem dI : ∀ {p : Str} {l : List Str},PyProof.Rows.risingS p l = true→(p :: l).Pairwise fun a b=>sLe a b = true
  | p,[],_=>by simp
  | p,x :: r,h=>by
    unfold PyProof.Rows.risingS at h
    rw [Bool.and_eq_true] at h
    have ih:=dI h.2
    have e : sLe p x = true:=by
      unfold sLe sLt
      rw [← PyProof.Rows.ltCps_eq]
      exact h.1
    refine List.pairwise_cons.mpr ⟨fun y hy=>?_,ih⟩
    rcases List.mem_cons.mp hy with e2 | hy
    · rw [e2]; exact e
    · exact jE _ _ _ e (List.rel_of_pairwise_cons ih hy)
theorem qO {xs ys : List Str} (p : ys.Perm xs) (h : PyProof.Rows.sortedS ys = true) : ys = srt xs:=by
  refine eo (le:=fun a b=>sLe a b = true) (fun a b=>mj) (p.trans (cA xs).symm) ?_ (ft xs)
  cases ys with
  | nil=>exact .nil
  | cons y l=>exact dI h
def c8 (z : Str) : List Str→Option Nat
  | []=>none
  | y :: ys=>if y = z then some 0 else (c8 z ys).map (· + 1)
theorem kC {z : Str} : ∀ {ys : List Str} {j : Nat},c8 z ys = some j→ys[j]? = some z∧∀ m,m < j→ys[m]? ≠ some z
  | [],j,h=>by cases h
  | y :: ys,j,h=>by
    unfold c8 at h
    by_cases e : y = z
    · rw [if_pos e] at h
      cases h
      exact ⟨by rw [e]; rfl,fun m hm=>by omega⟩
    · rw [if_neg e] at h
      cases e2 : c8 z ys with
      | none=>rw [e2] at h; cases h
      | some k=>
        rw [e2] at h
        cases h
        obtain ⟨h1,h2⟩:=kC e2
        refine ⟨by simpa using h1,fun m hm=>?_⟩
        have hm : m < k + 1:=hm
        cases m with
        | zero=>simpa using e
        | succ m=>simpa using h2 m (by omega)
section
variable {K : Fg} {σ σ' : St} {G G' M M1 M2 M3 : Hp} {ta tb te tc : TE} {P P1 P2 : VP} {d e : Dat} {ds es : List Dat} {D : Ends} {H : Hp} {u : TS}
theorem gD {X : Cx} (h : X.K = K:=by rfl) : CallR X (.builtin "sorted") (rSortedS K):=h ▸ cr_sortedS
theorem fC {G : Hp} : ∀ {xs : List Str} ,(∀ x ∈ xs,sok x = true)→ap K G (xs.map V.str) (xs.map Dat.str)
  | [],_=>.nil
  | x :: xs,h=>.cons (.str (h x List.mem_cons_self)) (fC fun y hy=>h y (List.mem_cons_of_mem _ hy))
theorem ij {G : Hp} : ∀ {xs : List Str} {vs : List V},ap K G vs (xs.map Dat.str)→∀ x ∈ xs,sok x = true
  | [],_,_,x,hx=>by simp at hx
  | y :: ys,_,.cons a b,x,hx=>by
    rcases List.mem_cons.mp hx with e | hx
    · rw [e]; exact (bO a).2
    · exact ij b x hx
theorem iO [Tb] {xs ys : List Str} (h : jN xs = some ys) (ha : EvA (tCons ta tNil) σ G M M1 (ak (DD K (.list (xs.map Dat.str))) az)) : EvL K (tCB (rSortedS K) (tCons ta tNil)) σ G M M1 (ys.map Dat.str):=el_cb ha fun vs G0 H s k hx Q q=>by
  obtain ⟨v,rfl,hv⟩:=one_of (R:=az) hx
  obtain ⟨a,ws,rfl,h1,h2⟩:=bM hv
  obtain ⟨_,h3,h4⟩:=bs h
  cases h4
  have so:=ij h2
  rw [cq h2] at h1
  refine ⟨a,xs,rfl,.inl (.inl (k.g _ _ h1)),bz h3,fun zs p pz sz hp=>?_⟩
  have e:=qO pz sz
  subst e
  exact qt (Same.refl _) k (fC fun x hx=>so x ((cA xs).mem_iff.mp hx)) q p hp
def wG (K : Fg) : V→List V→Hp→VK→Prop:=fun x xs H Q=>∃ p,∃ ys : List Str,∃ z j,x = .ref p∧xs = [.str z]∧SqT K H p (ys.map V.str)∧ys[j]? = some z∧(∀ m,m < j→ys[m]? ≠ some z)∧Q (.int (j : Nat)) H
theorem iP {X : Cx} (h : X.K = K:=by rfl) : MtR X "tuple.index" (wG K):=h ▸ mt_tup_index
theorem kO [Tb] {z : Str} {ys : List Str} {j : Nat} (h : c8 z ys = some j) (ho : Ev ta σ G M M1 (DD K (.tuple (ys.map Dat.str)))) (ha : EvA (tCons tb tNil) σ G M1 M2 (ak (DD K (.str z)) az)) : Ev (y6 K (wG K) ta (tCons tb tNil)) σ G M M2 (DD K (.int (j : Int))):=fun G0 H s k Q q=>
  ho G0 H s k _ fun x G1 H1 s1 k1 hx=>by
    cases hx with
    | tup a b=>
      refine ⟨⟨_,_,rfl,a.up k1.g⟩,ha G1 H1 (s.trans s1) k1 _ fun xs G2 H2 s2 k2 hv=>?_⟩
      obtain ⟨v,rfl,hw⟩:=one_of (R:=az) hv
      obtain ⟨rfl,_⟩:=bO hw
      obtain ⟨h1,h2⟩:=kC h
      have sq:=bN (s2.trans k2.g) a.sq
      rw [cq b] at sq
      exact ⟨_,ys,z,j,rfl,rfl,sq,h1,h2,q _ G2 H2 (s1.trans s2) k2 (.int _)⟩
theorem oA {α : Type} {xs : List α} {i : Int} {r : α×List α} (h : tj xs i = some r) : (-(2 ^ 63) ≤ i∧i < 2 ^ 63)∧∃ k,seqIndex? i xs.length = some k∧xs[k]? = some r.1∧r.2 = xs.eraseIdx k:=by
  obtain ⟨_,h1,h⟩:=bs h
  obtain ⟨k,h2,h⟩:=bs h
  obtain ⟨x,h3,h⟩:=bs h
  cases h
  exact ⟨bz h1,k,h2,h3,rfl⟩
theorem vk [Tb] {β : Type} {e : β→Dat} {xs : List β} {i : Int} {r : β×List β} {p : Addr} {vs : List V} {k : Nat} (h : tj xs i = some r) (hk : seqIndex? i xs.length = some k) (hp0 : M p = some (.lst vs)) (hp : M1 p = some (.lst vs)) (hd : ap K G vs (xs.map e)) (ho : Ev ta σ G M M (OW p)) (ha : EvA (tCons tb tNil) σ G M M1 (ak (DD K (.int i)) az)) :
    Ev (tBM K "list" rPopAt ta (tCons tb tNil)) σ G M (upd M1 p (.lst (vs.eraseIdx k))) (DD K (e r.1)):=fun G0 H s kk Q q=>
  ho G0 H s kk _ fun x G1 H1 s1 k1 hx=>by
    cases hx
    refine ⟨.inl ⟨rfl,_,.inl (.inl (k1.m _ _ hp0))⟩,ha G1 H1 (s.trans s1) k1 _ fun ys G2 H2 s2 k2 hv=>?_⟩
    obtain ⟨v,rfl,hw⟩:=one_of (R:=az) hv
    cases hw
    obtain ⟨b,k',h1,h2,h3⟩:=oA h
    rw [hk] at h1
    cases h1
    obtain ⟨y,h4,h5⟩:=dq (i:=k) (d:=e r.1) hd (by rw [List.getElem?_map,h2]; rfl)
    refine ⟨p,vs,i,k,y,rfl,rfl,k2.m _ _ hp,b.1,b.2,by rw [aw hd,List.length_map]; exact hk,h4,?_⟩
    exact q _ G2 _ (s1.trans s2) (k2.chg _ hp) (aa ((s.trans s1).trans s2) _ h5)
theorem map_erase {α β : Type} {f : α→β} : ∀ (xs : List α) (k : Nat),(xs.eraseIdx k).map f = (xs.map f).eraseIdx k
  | [],_=>rfl
  | _ :: _,0=>rfl
  | x :: xs,k + 1=>by
    show f x :: (xs.eraseIdx k).map f = f x :: (xs.map f).eraseIdx k
    rw [map_erase xs k]
end
end Kx
end
section
namespace Kx
open PySem L2 PySem.Spec PyProof.Rows
theorem lM {X : Cx} {pins : List (Addr×Obj)} {σ : L2.St} {H H' : Hp} {s : Shared} {E : Value→Shared→Prop} {D : Addr} {y v : V} {u r : Value} {Q : Unit→Shared→Prop} (hu : X.A.units + 1 < cLine) (I : Inv X pins σ H s) (g : DPut H D y v H') (ry : RelV y u) (rv : RelV v r)
    (h : ∀ s',Inv X pins σ H' s'→Q () s') : wpAny (model X.prog X.w) X.A (dictSet D u r) Q E s:=by
  rcases g with ⟨kvs,k,e,rfl,l,rfl⟩ | ⟨kvs,k,b,e,rfl,eb,l,rfl⟩
  · exact d_dictSet I e l ry rv h
  · cases (show u = Value.ref b from ry)
    obtain ⟨z,hd,xs,rel,dd⟩:=dt_of I.hok e
    have hz : xs.length ≤ sizeLine:=by rw [← Paired.length rel]; exact z
    have hl : (putK kvs k v).length ≤ sizeLine:=by have:=length_putK kvs k v; omega
    refine wpAny_dictSet_heap (hsz:=hz) (show (tupleKind (mixKind X.prog X.w)).room X.A from Nat.lt_of_succ_lt hu) (key_of I.hok eb) dd fun g1 dd1 hs=>h _ ?_
    obtain ⟨q,es,ep,hq,h2,h3,h4,_,h5⟩:=dd1
    refine d_write I (by rw [e]; exact True.intro) hs ⟨q,hq⟩ ⟨hl,hd,_,(rel.put k eb rv).keeps fun c ys ec=>?_,q,es,ep,hq,h2,h3,h4,h5⟩
    rw [upd_ne (ne_of ec e (fun z=>nomatch z))]
    exact ec
def d0 : Bool→HO
  | true=>.dT []
  | false=>.dK []
def As (kd : Bool) (wi : TI) (g : TG) (tt : TT) (tk tv : TE) (vs : List Nat) : TE:=fun σ H Q=>wi σ H fun J H1=>∀ D,H1 D = none→∃ W : Nat→Nat→Hp→Prop,(∃ m,W 0 m (upd H1 D (d0 kd)))∧∀ i m H,W i m H→
  (J.stop i H∧Q (.ref D) H)∨(J.go i H∧∃ Nx : Hp→Prop,(∀ H',Nx H'→∃ m',m' < m∧W (i + 1) m' H')∧∀ x H',J.yld i H x H'→g x (wipe σ vs) H' fun σ2 H2=>wipe σ2 vs = wipe σ vs∧tt σ2 H2 fun b H3=>
    if b = true then tk σ2 H3 fun y H4=>tv σ2 H4 fun z H5=>∃ H6,DPut H5 D y z H6∧Nx H6 else Nx H3)
section
variable {X : Cx}
theorem xl (kd : Bool) {kx vx tg iter : Expr} {ifs : List Expr} {scope : Scope} {own : List (Str×Nat)} {pos : Pos} {wi : TI} {g : TG} {tt : TT} {tk tv : TE} (hu : X.A.units + 1 < cLine) (hc : X.calm = true) (hN : X.N.Nodup) (hi : PI X tg iter wi) (ok : BlkOk X.N X.env.scope scope own)
    (hg : ∀ (s : Shared) (H : Hp) (C : Addr) (cl : List (Str×Addr)) (fp : List Addr),PG (X.blk s H scope (compEnvC scope cl C X.env) fp) tg g) (ht : ∀ (s : Shared) (H : Hp) (C : Addr) (cl : List (Str×Addr)) (fp : List Addr),PTs (X.blk s H scope (compEnvC scope cl C X.env) fp) ifs tt)
    (hk : ∀ (s : Shared) (H : Hp) (C : Addr) (cl : List (Str×Addr)) (fp : List Addr),PE (X.blk s H scope (compEnvC scope cl C X.env) fp) kx tk)
    (he : ∀ (s : Shared) (H : Hp) (C : Addr) (cl : List (Str×Addr)) (fp : List Addr),PE (X.blk s H scope (compEnvC scope cl C X.env) fp) vx tv) (hs : ∀ x,foldedSetIterable iter X.env x = pure x:=by intro _; rfl) :
    PE X (.DictComp kx vx [⟨tg,iter,ifs,0⟩] scope pos) (As kd wi g tt tk tv (own.map (·.2))):=by
  refine ⟨fun pins s σ H Q I hq=>?_⟩
  rw [arm_eval_DictComp]
  have cells : ∀ y ∈ scope.names,y.2 = .free→∃ c,X.env.cells.lookup y.1 = some c:=fun y hy e=>(ok.free y hy e).elim (fun k=>I.ok.has _ (.inl k)) (fun k=>I.ok.has _ (.inr k))
  refine wpAny_comprehension_free (use:=none) rfl hs (closure_ok cells) ok.kind (fun y hy e=>by rw [ok.uniq y hy,e]) (thn (hi.run pins s σ H _ I hq) fun xv s1 hx=>thn hx fun itv s2 h2=>?_)
  obtain ⟨it,fp,tn,J,H2,rfl,I2,T,st2,f2,q⟩:=h2
  refine wpAny_newObj_type (newEnv_comp ?_)
  generalize hD : s2.heap.objs.size = D
  obtain ⟨W,⟨m0,w0⟩,turn⟩:=q D (I2.hok.fresh (Nat.le_of_eq hD))
  generalize hs3 : ({ s2 with heap:=s2.heap.push { cls:=.type "dict",data:=.dict #[] } } : Shared) = s3
  have h3 : s3.heap = s2.heap.push { cls:=.type "dict",data:=.dict #[] }:=by rw [← hs3]
  have I3 : Inv X pins σ (upd H2 D (d0 kd)) s3:=by
    rw [← hs3]
    refine I2.laid (t':=s2.toks) (fun b o e=>Heap.get?_push_of_some _ e) (Nat.le_of_eq hD) ?_
    rw [← hD]
    cases kd with
    | true=>exact dt_empty s2.heap I2.big
    | false=>exact dk_empty s2.heap I2.big
  have f3 : ∀ b ∈ fp,FpOk X pins (upd H2 D (d0 kd)) b∧b < s3.heap.objs.size:=fun b hb=>by
    obtain ⟨o,e,_⟩:=T.obj _ _ st2 b hb
    have lt:=Heap.lt_size e
    refine ⟨⟨?_,(f2 b hb).2⟩,by rw [h3,Heap.size_push]; exact Nat.lt_succ_of_lt lt⟩
    rw [upd_ne (by rw [← hD]; exact Nat.ne_of_lt lt)]
    exact (f2 b hb).1
  have st3 : tn 0 s3.heap:=T.keep _ _ _ st2 fun b _ o e=>by rw [h3]; exact Heap.get?_push_of_some _ e
  have I4:=block_start I3 ok hN f3
  have pg:=hg s3 (upd H2 D (d0 kd)) s3.heap.objs.size (cellsFrom (s3.heap.objs.size + 1) scope.names (cloFrom X.env.cells scope.names [])) fp
  have pt:=ht s3 (upd H2 D (d0 kd)) s3.heap.objs.size (cellsFrom (s3.heap.objs.size + 1) scope.names (cloFrom X.env.cells scope.names [])) fp
  have pk:=hk s3 (upd H2 D (d0 kd)) s3.heap.objs.size (cellsFrom (s3.heap.objs.size + 1) scope.names (cloFrom X.env.cells scope.names [])) fp
  have pe:=he s3 (upd H2 D (d0 kd)) s3.heap.objs.size (cellsFrom (s3.heap.objs.size + 1) scope.names (cloFrom X.env.cells scope.names [])) fp
  show codeAny _ _ (.compStart (.DictComp kx vx [⟨tg,iter,ifs,0⟩] scope pos) 0 (.ref it) (.ref D) (compEnvC scope (cellsFrom (s3.heap.objs.size + 1) scope.names (cloFrom X.env.cells scope.names [])) s3.heap.objs.size X.env)) (compPost (model X.prog X.w) X.A X.xe none (EP X pins σ Q) (.ref D) s3.heap.objs.size) { s3 with heap:=pushCells (s3.heap.push { cls:=.type "dict",data:=.dict #[] }) scope.names }
  have nfp : ∀ b ∈ fp,(upd H2 D (d0 kd)) b = none:=fun b hb=>(f3 b hb).1.1
  generalize hce : compEnvC scope (cellsFrom (s3.heap.objs.size + 1) scope.names (cloFrom X.env.cells scope.names [])) s3.heap.objs.size X.env = ce at I4 pg pt pk pe ⊢
  have cL : ce.locals = s3.heap.objs.size:=by subst hce; rfl
  generalize hH3 : upd H2 D (d0 kd) = H3 at I3 I4 pg pt pk pe w0 nfp f3
  generalize hs4 : ({ s3 with heap:=pushCells (s3.heap.push { cls:=.type "dict",data:=.dict #[] }) scope.names } : Shared) = s4 at I4 ⊢
  have st4 : tn 0 s4.heap:=T.keep _ _ _ st3 fun b _ o e=>by rw [← hs4]; exact pushCells_keeps _ _ _ _ (Heap.get?_push_of_some _ e)
  have stat : ∀ {σ1 : L2.St} {H1 : Hp} {s' : Shared},Inv (X.blk s3 H3 scope ce fp) [] σ1 H1 s'→(∀ b ∈ fp,H1 b = none)→∀ b ∈ fp,FpOk (X.blk s3 H3 scope ce fp) [] H1 b:=fun I1 hn b hb=>
    ⟨hn b hb,(I1.ok.exf b hb).1,I1.ok.exfs b hb,.inl hb,fun x c e=>(I1.ok.exf b hb).2 x c e,fun p hp=>absurd (show p ∈ ([] : List (Addr×Obj)) ++ [] from hp) (by simp)⟩
  have loop : codeAny (model X.prog X.w) X.A (.compLoop (.DictComp kx vx [⟨tg,iter,ifs,0⟩] scope pos) 0 (.ref it) (.ref D) ce) (compPost (model X.prog X.w) X.A X.xe none (EP X pins σ Q) (.ref D) s3.heap.objs.size) s4:=by
    refine compLoop_anyD (fun n s'=>∃ i H1,Inv (X.blk s3 H3 scope ce fp) [] (wipe σ (own.map (·.2))) H1 s'∧tn i s'.heap∧(∀ b ∈ fp,H1 b = none)∧W i n H1) ?_ m0 ⟨0,H3,I4,st4,nfp,w0⟩
    rintro n s5 ⟨i,H5,I5,st5,n5,w5⟩
    rcases turn i n H5 w5 with ⟨stop,qq⟩ | ⟨go,Nx,hNx,step⟩
    · refine thnF (T.done (X.blk s3 H3 scope ce fp) rfl rfl rfl hc i [] s5 _ H5 (fun _ _=>False) I5 (stat I5 n5) st5 stop) fun r s6 ⟨hr,I6⟩=>?_
      subst hr
      have I7 : Inv X pins σ H5 s6:=I3.call' (ch:=fp) I6.os I6.base I6.hok I6.bare fun b hb=>⟨(f3 b hb).1.2.2.2.1,(f3 b hb).1.2.1,(f3 b hb).1.2.2.2.2.1,(f3 b hb).1.2.2.2.2.2⟩
      have nC : H5 s3.heap.objs.size = none:=by
        have z : H5 ce.locals = none:=I6.free
        rw [cL] at z
        exact z
      obtain ⟨m,hn,_⟩:=I6.loc
      have hn : s6.heap.Ns ce.locals m:=hn
      rw [cL] at hn
      obtain ⟨a0,a1,a2,a3,a4,a5⟩:=I3.fpOk (Nat.le_refl _) nC
      exact ⟨m,hn,fun g2 sb=>⟨.ref D,H5,I7.turned (t':=s6.toks) (fun b o hb e=>(sb.2 b hb).trans e) a0 a1 a3 a4 a5,rfl,qq⟩⟩
    · refine thnF (T.item (X.blk s3 H3 scope ce fp) rfl rfl rfl hc i [] s5 _ H5 (fun _ _=>False) I5 (stat I5 n5) st5 go) fun r s6 ⟨u,hr,h6⟩=>?_
      subst hr
      refine thnF h6 fun _ s7 ⟨x,H7,I7,r7,y7,st7,n7⟩=>?_
      refine thnF (pg.run _ s7 _ H7 x u _ (I7.pinned (stat I7 n7) (T.obj _ _ st7)) r7 (step x H7 y7)) fun _ s8 ⟨σ8,H8,I8,hw8,q8⟩=>?_
      refine thnF (pt.run _ s8 σ8 H8 _ I8 q8) fun b s9 ⟨H9,I9,q9⟩=>?_
      have fin : ∀ {s' : Shared} {H1 : Hp},Inv (X.blk s3 H3 scope ce fp) ([] ++ pinsAt fp s7.heap) σ8 H1 s'→Nx H1→∃ m,m < n∧∃ i H1,Inv (X.blk s3 H3 scope ce fp) [] (wipe σ (own.map (·.2))) H1 s'∧tn i s'.heap∧(∀ b ∈ fp,H1 b = none)∧W i m H1:=fun {s' H1} I1 nx=>by
        obtain ⟨m1,hm,w1⟩:=hNx H1 nx
        have pin1 : ∀ b ∈ fp,∀ o,s7.heap.get? b = some o→s'.heap.get? b = some o∧H1 b = none:=fun b hb o e=>
          let z:=I1.pin (b,o) (List.mem_append_right _ (List.mem_append_right _ (mem_pinsAt hb e)))
          ⟨z.1,z.2.1⟩
        refine ⟨m1,hm,i + 1,H1,(I1.unpinned (pins:=[])).weak (by rw [← hw8,wipe_length]) (fun j v e=>by rw [← hw8] at e; exact (wipe_some e).1),T.keep _ _ _ st7 fun b hb o e=>(pin1 b hb o e).1,fun b hb=>?_,w1⟩
        obtain ⟨o,e,_⟩:=T.obj _ _ st7 b hb
        exact (pin1 b hb o e).2
      cases b with
      | false=>
        simp only [Bool.false_eq_true,if_false] at q9 ⊢
        exact fin I9 q9
      | true=>
        simp only [if_true] at q9 ⊢
        refine thnF (pk.run _ s9 σ8 H9 _ I9 q9) fun z s10 ⟨yk,H10,I10,r10,q10⟩=>?_
        refine thnF (pe.run _ s10 σ8 H10 _ I10 q10) fun z2 s11 ⟨yv,H11,I11,r11,H6,put,nx⟩=>?_
        exact lM (X:=X.blk s3 H3 scope ce fp) hu I11 put r10 r11 fun s12 I12=>fin I12 nx
  exact codeAny_compStart_dict loop (T.self X.A 0 _ _ _ st4 loop)
end
end Kx
end
section
namespace Kx
open PySem L2 PySem.Spec PyProof.Rows
def dA (kvs more : List (List Key×V)) : List (List Key×V):=more.foldl (fun acc kv=>putK acc kv.1 kv.2) kvs
theorem fe : ∀ (more kvs : List (List Key×V)),(dA kvs more).length ≤ kvs.length + more.length
  | [],kvs=>by show kvs.length ≤ kvs.length + 0; omega
  | p :: r,kvs=>by
    have h1:=fe r (putK kvs p.1 p.2)
    have h2:=length_putK kvs p.1 p.2
    show (dA (putK kvs p.1 p.2) r).length ≤ _
    rw [List.length_cons]; omega
theorem KT.mergeAll {H : Hp} : ∀ {more : List (List Key×V)} {rs : List (List Key×Addr×Value)} {kvs : List (List Key×V)} {xs : List (List Key×Addr×Value)},L2.KT H more rs→L2.KT H kvs xs→L2.KT H (dA kvs more) (storedAllH xs rs):=by
  intro more rs kvs xs r
  induction r generalizing kvs xs with
  | nil=>intro q; exact q
  | @cons p q ps qs h t ih=>
    intro r0
    obtain ⟨h1,h2,h3⟩:=h
    have e:=L2.KT.put r0 p.1 h2 h3
    rw [h1] at e
    have e2:=ih e
    show L2.KT H (dA (putK kvs p.1 p.2) ps) (storedAllH (storedH xs q.1 q.2.1 q.2.2) qs)
    rw [h1]
    exact e2
section
variable {X : Cx} {K : Fg}
theorem ji {pins : List (Addr×Obj)} {σ : L2.St} {H : Hp} {s : Shared} (I : Inv X pins σ H s) : ∀ {ps : List Addr} {kvs : List (List Key×V)},Paired (fun p kv=>∃ b,SqT X.K H p [.ref b,kv.2]∧H b = some (.tup (kv.1.map kV))) ps kvs→
    ∃ prs : List (List Key×Addr×Value),L2.KT H kvs prs∧prs.length = ps.length∧∀ (j : Nat) (q : List Key×Addr×Value),prs[j]? = some q→∃ b : Addr,ps[j]? = some b∧IsTup s.heap b #[.ref q.2.1,q.2.2]
  | _,_,.nil=>⟨[],.nil,rfl,fun j q e=>by simp at e⟩
  | _,_,.cons (a:=p) (b:=kv) h t=>by
    obtain ⟨prs,r,hl,hp⟩:=ji I t
    obtain ⟨b,h,hb⟩:=h
    obtain ⟨its,rv,ht,_⟩:=I.tuple h
    obtain ⟨u,y,ei,ru,ry⟩:=vals2 rv
    subst ei
    cases (show u = Value.ref b from ru)
    refine ⟨(kv.1,b,y) :: prs,.cons ⟨rfl,hb,ry⟩ r,by rw [List.length_cons,List.length_cons,hl],fun j q e=>?_⟩
    cases j with
    | zero=>
      have e' : (kv.1,b,y) = q:=Option.some.inj e
      subst e'
      exact ⟨p,rfl,ht⟩
    | succ j=>
      obtain ⟨b',e1,e2⟩:=hp j q (by simpa using e)
      exact ⟨b',by simpa using e1,e2⟩
def nr (K : Fg) : List V→Hp→VK→Prop:=fun xs H Q=>∃ (a : Addr) (ps : List Addr) (kvs : List (List Key×V)),xs = [.ref a]∧SqL K H a (ps.map V.ref)∧Paired (fun p kv=>∃ b,SqT K H p [.ref b,kv.2]∧H b = some (.tup (kv.1.map kV))) ps kvs∧
    ∀ p,H p = none→Q (.ref p) (upd H p (.dT (dA [] kvs)))
theorem iQ {h : Heap} {a : Addr} {its : Array Value} (x : IsTup h a its) : h.IsTuple a its:=by
  obtain ⟨o,h1,h2,n,h3⟩:=x
  exact ⟨o,h1,h2,n,h3⟩
theorem sa (hu : X.A.units + 2 < cLine) (hcalm : X.calm = true) : CallR X (.type "dict") (nr X.K):=by
  intro pins s σ H xs us Q I r q
  obtain ⟨a,ps,kvs,ex,hq,hp,q⟩:=q
  subst ex
  obtain ⟨u,eu,rx⟩:=vals1 r
  subst eu
  cases rx
  obtain ⟨its,rv,pl,hz⟩:=I.list hq
  have ei:=refs_at rv
  subst ei
  rw [List.length_map] at hz
  obtain ⟨prs,rel,hl,hpr⟩:=ji I hp
  obtain ⟨o,n,ho,hc,hd,hdat⟩:=pl
  let Ts : Nat→Addr:=fun j=>ps.getD j 0
  have hkeys : ∀ h' : Heap,(∀ b o,s.heap.get? b = some o→h'.get? b = some o)→∀ {l : List (List Key×V)} {m : List (List Key×Addr×Value)},L2.KT H l m→∀ x ∈ m,(tupleKind (mixKind X.prog X.w)).is h' x.1 x.2.1:=by
    intro h' hk l m q
    induction q with
    | nil=>intro x hx; exact nomatch hx
    | @cons p q ps qs hq t ih=>
      intro x hx
      rcases List.mem_cons.mp hx with e | hx
      · subst e
        obtain ⟨oo,its,nn,e1,e2,e3,e4⟩:=key_of (P:=X.prog) (w:=X.w) I.hok (by rw [← hq.1]; exact hq.2.1 : H x.2.1 = some (.tup (x.1.map kV)))
        exact ⟨oo,its,nn,hk _ _ e1,e2,e3,e4⟩
      · exact ih x hx
  refine PySem.call_dict_pairsH (knd:=tupleKind (mixKind X.prog X.w)) (ps:=prs) (PairArg.list a (ps.map Value.ref).toArray Ts (prs.map fun x=>(Value.ref x.2.1,x.2.2))) (I.ok.hd hcalm) (show X.A.units + 2 < cLine from hu) ⟨⟨o,n,ho,hc,hd,hdat⟩,?_,fun j k v e=>?_⟩ ⟨by rw [List.length_map],fun i key v hr=>?_⟩ (fun h' hk=>?_) (by rw [List.length_map,hl]; exact hz) fun h' tk dd k=>?_
  · simp [hl]
  · rw [List.getElem?_map] at e
    obtain ⟨x,hx,e⟩:=Option.map_eq_some_iff.mp e
    cases e
    obtain ⟨b,e1,e2⟩:=hpr j x hx
    have hb : Ts j = b:=by show ps.getD j 0 = b; rw [List.getD_eq_getElem?_getD,e1]; rfl
    rw [hb]
    exact ⟨by simp [e1],.inl (iQ e2)⟩
  · have hr : (prs.map fun x=>(Value.ref x.2.1,x.2.2))[i]? = some (key,v):=hr
    rw [List.getElem?_map] at hr
    obtain ⟨x,hx,e⟩:=Option.map_eq_some_iff.mp hr
    cases e
    exact ⟨x.1,x.2.1,hx,rfl⟩
  · exact hkeys h' (fun b o e=>hk b o (Nat.ne_of_lt (Heap.lt_size e)) (by simp) e) rel
  · have k : ∀ b o,s.heap.get? b = some o→h'.get? b = some o:=fun b o e=>k b o (by simp) e
    have hm : (s.heap.objs.size == sysModules) = false:=beq_eq_false_iff_ne.mpr (Nat.ne_of_gt I.big)
    have hlen : (dA [] kvs).length ≤ sizeLine:=by
      refine Nat.le_trans (fe kvs []) ?_
      rw [List.length_nil,Nat.zero_add,Paired.length rel,hl]
      exact hz
    have fr:=I.hok.fresh (Nat.le_refl s.heap.objs.size)
    obtain ⟨oo,es,ep,h1,h2,h3,h4,_,h5⟩:=dd
    refine ⟨.ref s.heap.objs.size,upd H s.heap.objs.size (.dT (dA [] kvs)),I.laid (t':=tk) k (Nat.le_refl _) (show ObjOk X.prog X.w _ _ _ (.dT (dA [] kvs)) from ⟨hlen,hm,_,L2.KT.keeps (KT.mergeAll rel .nil) fun b ys e=>?_,oo,es,ep,h1,h2,h3,h4,h5⟩),rfl,q _ fr⟩
    rw [upd_ne (ne_of_none e fr)]
    exact e
def kI (K : Fg) : List V→Hp→VK→Prop:=fun xs H Q=>∃ (a : Addr) (ps : List Addr) (kvs : List (Key×V)),xs = [.ref a]∧(ic K H a (ps.map V.ref)∨SqL K H a (ps.map V.ref))∧Paired (fun p kv=>SqT K H p [kV kv.1,kv.2]) ps kvs∧
    ∀ p,H p = none→Q (.ref p) (upd H p (.dK (mergeK [] kvs)))
theorem re (hcalm : X.calm = true) : CallR X (.type "dict") (kI X.K):=by
  intro pins s σ H xs us Q I r q
  obtain ⟨a,ps,kvs,ex,hq | hq,hp,q⟩:=q
  rotate_left
  · exact call_dictP hcalm pins s σ H xs us Q I r ⟨a,ps,kvs,ex,hq,hp,q⟩
  subst ex
  obtain ⟨u,eu,rx⟩:=vals1 r
  subst eu
  cases rx
  obtain ⟨its,rv,_,hz⟩:=I.tuple hq.sq
  have ei:=refs_at rv
  subst ei
  have ob : ∃ o n,s.heap.get? a = some o∧o.cls = .type "tuple"∧o.dict = none∧o.data = .seq (ps.map Value.ref).toArray n:=by
    rcases hq with ⟨o,e,hd⟩ | ⟨o,its,n,e,hc,hd,h4,_,h6⟩
    · obtain ⟨e1,_,its,r1,o2,e2,hc,n,h3⟩:=I.hok a _ e
      rw [e1] at e2
      cases e2
      rw [refs_at r1] at h3
      exact ⟨o,n,e1,hc,hd,h3⟩
    · have e6:=refs_at h6
      exact ⟨o,n,I.kIn a o e,hc,hd,by rw [h4,← e6]⟩
  rw [List.length_map] at hz
  obtain ⟨prs,rel,hl,hpr⟩:=pairs_of I hp
  let Ts : Nat→Addr:=fun j=>ps.getD j 0
  have ks : ∀ {l : List (Key×Value)},(∀ (j : Nat) (q : Key×Value),l[j]? = some q→∃ (b : Addr) (u : Value),IsTup s.heap b #[u,q.2]∧keyIs q.1 u = true)→True:=fun _=>trivial
  have hex : ∃ us : List Value,us.length = prs.length∧∀ (j : Nat) (q : Key×Value),prs[j]? = some q→∃ b u,ps[j]? = some b∧us[j]? = some u∧IsTup s.heap b #[u,q.2]∧keyIs q.1 u = true:=by
    clear rel
    have : ∀ (prs : List (Key×Value)) (ps : List Addr),(∀ (j : Nat) (q : Key×Value),prs[j]? = some q→∃ (b : Addr) (u : Value),ps[j]? = some b∧IsTup s.heap b #[u,q.2]∧keyIs q.1 u = true)→∃ us : List Value,us.length = prs.length∧∀ (j : Nat) (q : Key×Value),prs[j]? = some q→∃ b u,ps[j]? = some b∧us[j]? = some u∧IsTup s.heap b #[u,q.2]∧keyIs q.1 u = true:=by
      intro prs
      induction prs with
      | nil=>intro ps _; exact ⟨[],rfl,fun j q e=>by simp at e⟩
      | cons x prs ih=>
        intro ps h
        obtain ⟨us,hl,hu⟩:=ih ps.tail fun j q e=>by
          obtain ⟨b,u,e1,e2⟩:=h (j + 1) q (by simpa using e)
          refine ⟨b,u,?_,e2⟩
          cases ps with
          | nil=>simp at e1
          | cons _ _=>simpa using e1
        obtain ⟨b,u,e1,e2⟩:=h 0 x rfl
        refine ⟨u :: us,by rw [List.length_cons,List.length_cons,hl],fun j q e=>?_⟩
        cases j with
        | zero=>
          cases (Option.some.inj e : x = q)
          exact ⟨b,u,e1,rfl,e2⟩
        | succ j=>
          obtain ⟨b',u',f1,f2,f3⟩:=hu j q (by simpa using e)
          refine ⟨b',u',?_,by simpa using f2,f3⟩
          cases ps with
          | nil=>simp at f1
          | cons _ _=>simpa using f1
    exact this prs ps hpr
  obtain ⟨us,hul,hus⟩:=hex
  obtain ⟨o,n,o1,o2,o3,o4⟩:=ob
  refine PySem.call_dict_pairs (knd:=mixKind X.prog X.w) (kvs:=prs) (PairArg.tuple a (ps.map Value.ref).toArray Ts (us.zip (prs.map (·.2)))) (I.ok.hd hcalm) ⟨⟨o,n,o1,o2,o3,o4⟩,?_,fun j k v e=>?_⟩ ⟨by simp [hul],fun i key v hr=>?_⟩ (by simp [hul,hl]; exact hz) fun h' tk dd k=>?_
  · simp [hl,hul]
  · rw [List.getElem?_zip_eq_some] at e
    obtain ⟨e1,e2⟩:=e
    rw [List.getElem?_map] at e2
    obtain ⟨x,hx,e3⟩:=Option.map_eq_some_iff.mp e2
    obtain ⟨b,u,f1,f2,f3,f4⟩:=hus j x hx
    rw [e1] at f2
    cases f2
    subst e3
    have hb : Ts j = b:=by show ps.getD j 0 = b; rw [List.getD_eq_getElem?_getD,f1]; rfl
    rw [hb]
    exact ⟨by simp [f1],.inl (iQ f3)⟩
  · have hr : (us.zip (prs.map (·.2)))[i]? = some (key,v):=hr
    rw [List.getElem?_zip_eq_some] at hr
    obtain ⟨e1,e2⟩:=hr
    rw [List.getElem?_map] at e2
    obtain ⟨x,hx,e3⟩:=Option.map_eq_some_iff.mp e2
    obtain ⟨b,u,f1,f2,f3,f4⟩:=hus i x hx
    rw [e1] at f2
    cases f2
    subst e3
    exact ⟨x.1,hx,f4⟩
  · have k : ∀ b o,s.heap.get? b = some o→h'.get? b = some o:=fun b o e=>k b o (by simp) e
    have hm : (s.heap.objs.size == sysModules) = false:=beq_eq_false_iff_ne.mpr (Nat.ne_of_gt I.big)
    have hlen : (mergeK [] kvs).length ≤ sizeLine:=by
      refine Nat.le_trans (length_mergeK kvs []) ?_
      rw [List.length_nil,Nat.zero_add,rel.length,hl]
      exact hz
    exact ⟨.ref s.heap.objs.size,upd H s.heap.objs.size (.dK (mergeK [] kvs)),I.laid (t':=tk) k (Nat.le_refl _) (show ObjOk X.prog X.w _ _ _ (.dK (mergeK [] kvs)) from ⟨hlen,hm,merged [] prs,KV.merge rel .nil,dd⟩),rfl,q _ (I.hok.fresh (Nat.le_refl _))⟩
end
end Kx
end
section
namespace Kx
open PySem L2
section
variable {α β : Type} [DecidableEq α]
def bS (xs : List (α×β)) (k : α) : Option β:=(xs.find? fun x=>decide (x.1 = k)).map (·.2)
def iK (xs : List (α×β)) (k : α) : Bool:=(bS xs k).isSome
def bZ (xs : List (α×β)) (k : α) (v : β) : List (α×β):=if (xs.any fun x=>decide (x.1 = k)) = true then xs.map (fun x=>if x.1 = k then (x.1,v) else x) else xs ++ [(k,v)]
def aU (xs more : List (α×β)) : List (α×β):=more.foldl (fun acc x=>bZ acc x.1 x.2) xs
def fN (xs : List (α×β)) (k : α) (v : β) : Option (List (α×β)):=do
  grd (xs.length < 16777216)
  some (bZ xs k v)
def fq (xs : List (α×β)) : Option (List (α×β)):=do
  grd (xs.length ≤ 16777216)
  some (aU [] xs)
theorem bI {p : α×β} {r : List (α×β)} {k : α} (e : p.1 = k) : bS (p :: r) k = some p.2:=by simp [bS,List.find?_cons,e]
theorem bH {p : α×β} {r : List (α×β)} {k : α} (e : ¬ p.1 = k) : bS (p :: r) k = bS r k:=by simp [bS,List.find?_cons,e]
theorem lW (xs : List (α×β)) (k : α) (v : β) : (bZ xs k v).length ≤ xs.length + 1:=by
  unfold bZ
  split
  · rw [List.length_map]; omega
  · rw [List.length_append,List.length_cons,List.length_nil]; omega
theorem di {p : α→Prop} {xs : List (α×β)} {k : α} {v : β} (h : ∀ x ∈ xs,p x.1) (hk : p k) : ∀ x ∈ bZ xs k v,p x.1:=by
  unfold bZ
  split
  · intro x hx
    obtain ⟨y,hy,e⟩:=List.mem_map.mp hx
    by_cases e2 : y.1 = k
    · rw [if_pos e2] at e; rw [← e]; exact h y hy
    · rw [if_neg e2] at e; rw [← e]; exact h y hy
  · intro x hx
    rcases List.mem_append.mp hx with hx | hx
    · exact h x hx
    · rw [List.mem_singleton.mp hx]; exact hk
end
section
variable {α β κ : Type} [DecidableEq α] [DecidableEq κ] {K : Fg} {G G' : Hp} {f : α→κ} {e : β→Dat}
inductive aY (K : Fg) (G : Hp) (f : α→κ) (e : β→Dat) : List (κ×V)→List (α×β)→Prop
  | nil : aY K G f e [] []
  | cons {k : α} {v : V} {b : β} {kvs : List (κ×V)} {xs : List (α×β)} : Dq K G v (e b)→aY K G f e kvs xs→aY K G f e ((f k,v) :: kvs) ((k,b) :: xs)
theorem aY.up (s : Same G G') {kvs : List (κ×V)} {xs : List (α×β)} (h : aY K G f e kvs xs) : aY K G' f e kvs xs:=by
  induction h with
  | nil=>exact .nil
  | cons a _ ih=>exact .cons (aa s _ a) ih
theorem aY.len {kvs : List (κ×V)} {xs : List (α×β)} (h : aY K G f e kvs xs) : kvs.length = xs.length:=by
  induction h with
  | nil=>rfl
  | cons a _ ih=>rw [List.length_cons,List.length_cons,ih]
theorem aY.of : ∀ {kvs : List (κ×V)} {xs : List (α×β)},kvs.map (·.1) = (xs.map fun x=>f x.1)→ap K G (kvs.map (·.2)) (xs.map fun x=>e x.2)→aY K G f e kvs xs
  | [],[],_,_=>.nil
  | [],_ :: _,h,_=>by cases h
  | _ :: _,[],h,_=>by cases h
  | (k,v) :: kvs,(a,b) :: xs,h,hd=>by
    cases hd with
    | cons h1 h2=>
      rw [List.map_cons,List.map_cons] at h
      obtain ⟨e1,e2⟩:=List.cons.inj h
      cases (show k = f a from e1)
      exact .cons h1 (aY.of e2 h2)
theorem aY.keys {kvs : List (κ×V)} {xs : List (α×β)} (h : aY K G f e kvs xs) : kvs.map (·.1) = xs.map fun x=>f x.1:=by
  induction h with
  | nil=>rfl
  | cons a _ ih=>rw [List.map_cons,List.map_cons,ih]
theorem aY.vals {kvs : List (κ×V)} {xs : List (α×β)} (h : aY K G f e kvs xs) : ap K G (kvs.map (·.2)) (xs.map fun x=>e x.2):=by
  induction h with
  | nil=>exact .nil
  | cons a _ ih=>exact .cons a ih
theorem aY.get (inj : ∀ a b : α,f a = f b→a = b) {kvs : List (κ×V)} {xs : List (α×β)} (h : aY K G f e kvs xs) (k : α) : (bS xs k = none∧valV kvs (f k) = none)∨∃ b v,bS xs k = some b∧valV kvs (f k) = some v∧Dq K G v (e b):=by
  induction h with
  | nil=>exact .inl ⟨rfl,rfl⟩
  | @cons k' v b kvs xs a _ ih=>
    by_cases q : k' = k
    · subst q
      exact .inr ⟨b,v,bI (p:=(k',b)) rfl,valV_pos (p:=(f k',v)) rfl,a⟩
    · rw [bH (p:=(k',b)) q,valV_neg (p:=(f k',v)) fun z=>q (inj _ _ z)]
      exact ih
theorem aY.any (inj : ∀ a b : α,f a = f b→a = b) {kvs : List (κ×V)} {xs : List (α×β)} (h : aY K G f e kvs xs) (k : α) : (kvs.any fun kv=>decide (kv.1 = f k)) = xs.any fun x=>decide (x.1 = k):=by
  induction h with
  | nil=>rfl
  | @cons k' v b kvs xs a _ ih=>
    rw [List.any_cons,List.any_cons,ih]
    by_cases q : k' = k
    · subst q; simp
    · have q2 : ¬ f k' = f k:=fun z=>q (inj _ _ z)
      simp [q,q2]
theorem aY.put (inj : ∀ a b : α,f a = f b→a = b) {kvs : List (κ×V)} {xs : List (α×β)} (h : aY K G f e kvs xs) (k : α) {v : V} {b : β} (hv : Dq K G v (e b)) : aY K G f e (putK kvs (f k) v) (bZ xs k b):=by
  unfold putK bZ
  rw [h.any inj k]
  split
  · next hh=>
    clear hh
    induction h with
    | nil=>exact .nil
    | @cons k' v' b' kvs xs a _ ih=>
      rw [List.map_cons,List.map_cons]
      by_cases q : k' = k
      · subst q
        rw [if_pos rfl,if_pos rfl]
        exact .cons hv ih
      · rw [if_neg (show ¬ (f k',v').1 = f k from fun z=>q (inj _ _ z)),if_neg (show ¬ (k',b').1 = k from q)]
        exact .cons a ih
  · next hh=>
    clear hh
    induction h with
    | nil=>exact .cons hv .nil
    | cons a _ ih=>exact .cons a ih
end
def kS (x : Str) : Key:=.inr x
def kP (x : Str×Str) : List Key:=[.inr x.1,.inr x.2]
theorem fX (a b : Str) (h : kS a = kS b) : a = b:=by unfold kS at h; exact Sum.inr.inj h
theorem gm (a b : Str×Str) (h : kP a = kP b) : a = b:=by
  unfold kP at h
  obtain ⟨h1,h2⟩:=List.cons.inj h
  obtain ⟨h2,_⟩:=List.cons.inj h2
  exact Prod.ext (Sum.inr.inj h1) (Sum.inr.inj h2)
def okS (x : Str) : Prop:=sok x = true
def okP (x : Str×Str) : Prop:=sok x.1 = true∧sok x.2 = true
def eDS {β : Type} (e : β→Dat) (xs : List (Str×β)) : Dat:=.dK (xs.map fun x=>kS x.1) (xs.map fun x=>e x.2)
def eDP {β : Type} (e : β→Dat) (xs : List ((Str×Str)×β)) : Dat:=.dT (xs.map fun x=>kP x.1) (xs.map fun x=>e x.2)
section
variable {β : Type} {K : Fg} {σ σ' : St} {G G' M M1 M2 M3 : Hp} {ta tb te tc tk tv : TE} {P P1 P2 : VP} {d : Dat} {ds es : List Dat} {D : Ends} {H : Hp} {u : TS} {e : β→Dat}
theorem sH {v : V} {xs : List (Str×β)} (h : Dq K G v (eDS e xs)) : ∃ a kvs,v = .ref a∧Rd G a (.dK kvs)∧aY K G kS e kvs xs∧∀ x ∈ xs,okS x.1:=by
  unfold eDS at h
  cases h with
  | dK a b c d'=>
    refine ⟨_,_,rfl,a,aY.of b d',fun x hx=>?_⟩
    exact (List.all_eq_true.mp c) (kS x.1) (List.mem_map.mpr ⟨x,hx,rfl⟩)
theorem xF {v : V} {xs : List ((Str×Str)×β)} (h : Dq K G v (eDP e xs)) : ∃ a kvs,v = .ref a∧Rd G a (.dT kvs)∧aY K G kP e kvs xs∧∀ x ∈ xs,okP x.1:=by
  unfold eDP at h
  cases h with
  | dT a b c d'=>
    refine ⟨_,_,rfl,a,aY.of b d',fun x hx=>?_⟩
    have:=(List.all_eq_true.mp c) (kP x.1) (List.mem_map.mpr ⟨x,hx,rfl⟩)
    have h2:=List.all_eq_true.mp this
    exact ⟨h2 (.inr x.1.1) (by simp [kP]),h2 (.inr x.1.2) (by simp [kP])⟩
theorem m5 {a : Addr} {kvs : List (Key×V)} {xs : List (Str×β)} (h : G a = some (.dK kvs)) (r : aY K G kS e kvs xs) (ok : ∀ x ∈ xs,okS x.1) : Dq K G (.ref a) (eDS e xs):=
  .dK (.inl h) r.keys (List.all_eq_true.mpr fun k hk=>by obtain ⟨x,hx,rfl⟩:=List.mem_map.mp hk; exact ok x hx) r.vals
theorem uC {a : Addr} {kvs : List (List Key×V)} {xs : List ((Str×Str)×β)} (h : G a = some (.dT kvs)) (r : aY K G kP e kvs xs) (ok : ∀ x ∈ xs,okP x.1) : Dq K G (.ref a) (eDP e xs):=
  .dT (.inl h) r.keys (List.all_eq_true.mpr fun k hk=>by
    obtain ⟨x,hx,rfl⟩:=List.mem_map.mp hk
    refine List.all_eq_true.mpr fun y hy=>?_
    have h2:=ok x hx
    unfold kP at hy
    rcases List.mem_cons.mp hy with rfl | hy
    · exact h2.1
    · rw [List.mem_singleton.mp hy]; exact h2.2) r.vals
theorem eE {v : V} {k : Str×Str} (h : Dq K G v (.rtup [.str k.1,.str k.2])) : ∃ b,v = .ref b∧G b = some (.tup ((kP k).map kV)):=by
  obtain ⟨b,vs,rfl,h1,h2⟩:=j3 h
  cases h2 with
  | cons a h2=>
    cases h2 with
    | cons b' h2=>
      cases h2; cases a; cases b'
      exact ⟨b,rfl,h1⟩
theorem dgS {a : Addr} {kvs : List (Key×V)} {k : Str} (h : Rd H a (.dK kvs)) : DGet H a (.str k) (valV kvs (kS k)):=.inl ⟨kvs,kS k,h,rfl,rfl⟩
theorem aY.some' {α κ : Type} [DecidableEq α] [DecidableEq κ] {f : α→κ} (inj : ∀ a b : α,f a = f b→a = b) {kvs : List (κ×V)} {xs : List (α×β)} (h : aY K G f e kvs xs) (k : α) : (valV kvs (f k)).isSome = iK xs k:=by
  unfold iK
  rcases h.get inj k with ⟨z,z2⟩ | ⟨b',v,e1,e2,e3⟩
  · rw [z,z2]; rfl
  · rw [e1,e2]; rfl
theorem lr [Tb] {xs : List (Str×β)} {k : Str} (hk : Ev ta σ G M M1 (DD K (.str k))) (ho : Ev tb σ G M1 M2 (DD K (eDS e xs))) : Ev (tDNotIn ta tb) σ G M M2 (DD K (.bool (!iK xs k))):=fun G0 H s kk Q q=>
  hk G0 H s kk _ fun y G1 H1 s1 k1 hy=>ho G1 H1 (s.trans s1) k1 _ fun x G2 H2 s2 k2 hx=>by
    obtain ⟨a,kvs,rfl,h1,h2,_⟩:=sH hx
    cases hy
    refine ⟨a,_,rfl,dgS (fR k2.g h1),q _ G2 H2 (s1.trans s2) k2 ?_⟩
    rw [h2.some' fX]
    exact .bl _
def bt {α β : Type} [DecidableEq α] (xs : List (α×β)) (k : α) (z : β) : β:=(bS xs k).getD z
theorem pp [Tb] {xs : List (Str×β)} {k : Str} {z : β} (ho : Ev ta σ G M M1 (DD K (eDS e xs))) (hk : Ev tb σ G M1 M2 (DD K (.str k))) (hz : Ev tc σ G M2 M3 (DD K (e z))) : Ev (tDGet2 ta tb tc) σ G M M3 (DD K (e (bt xs k z))):=fun G0 H s kk Q q=>
  ho G0 H s kk _ fun x G1 H1 s1 k1 hx=>by
    obtain ⟨a,kvs,rfl,h1,h2,_⟩:=sH hx
    refine ⟨a,rfl,.inl ⟨kvs,fR k1.g h1⟩,hk G1 H1 (s.trans s1) k1 _ fun y G2 H2 s2 k2 hy=>hz G2 H2 ((s.trans s1).trans s2) k2 _ fun w G3 H3 s3 k3 hw=>?_⟩
    cases hy
    have s13:=s2.trans s3
    refine ⟨_,dgS (fR (s13.trans k3.g) h1),q _ G3 H3 (s1.trans s13) k3 ?_⟩
    unfold bt
    rcases h2.get fX k with ⟨z1,z2⟩ | ⟨b',v,e1,e2,e3⟩
    · rw [z1,z2]; exact hw
    · rw [e1,e2]; exact aa s13 _ e3
theorem fb [Tb] {xs : List ((Str×Str)×β)} {k : Str×Str} {z : β} (ho : Ev ta σ G M M1 (DD K (eDP e xs))) (hk : Ev tb σ G M1 M2 (DD K (.rtup [.str k.1,.str k.2]))) (hz : Ev tc σ G M2 M3 (DD K (e z))) : Ev (tDGet2 ta tb tc) σ G M M3 (DD K (e (bt xs k z))):=fun G0 H s kk Q q=>
  ho G0 H s kk _ fun x G1 H1 s1 k1 hx=>by
    obtain ⟨a,kvs,rfl,h1,h2,_⟩:=xF hx
    refine ⟨a,rfl,.inr ⟨kvs,fR k1.g h1⟩,hk G1 H1 (s.trans s1) k1 _ fun y G2 H2 s2 k2 hy=>hz G2 H2 ((s.trans s1).trans s2) k2 _ fun w G3 H3 s3 k3 hw=>?_⟩
    obtain ⟨b,rfl,hb⟩:=eE hy
    have s13:=s2.trans s3
    refine ⟨_,.inr ⟨kvs,kP k,b,(fR (s13.trans k3.g) h1),rfl,(s3.trans k3.g) _ _ hb,rfl⟩,q _ G3 H3 (s1.trans s13) k3 ?_⟩
    unfold bt
    rcases h2.get gm k with ⟨z1,z2⟩ | ⟨b',v,e1,e2,e3⟩
    · rw [z1,z2]; exact hw
    · rw [e1,e2]; exact aa s13 _ e3
theorem c4 [Tb] {t : TA} (ha : EvA t σ G M M1 (qv K ds)) (hl : ds.length ≤ sizeLine:=by simp [sizeLine_eq]) : Ev (tTup t) σ G M M1 (DD K (.rtup ds)):=fun G0 H s k Q q=>
  ha G0 H s k _ fun xs G1 H1 s1 k1 hx=>⟨by rw [aw hx]; exact hl,zo s1 k1 hx q⟩
def KOk (K : Fg) (G : Hp) (e : β→Dat) (kvs : List (Key×V)) (xs : List (Str×β)) : Prop:=aY K G kS e kvs xs∧∀ x ∈ xs,okS x.1
theorem KOk.up {kvs : List (Key×V)} {xs : List (Str×β)} (s : Same G G') (h : KOk K G e kvs xs) : KOk K G' e kvs xs:=⟨h.1.up s,h.2⟩
theorem KOk.nil : KOk K G e [] []:=⟨.nil,fun x hx=>nomatch hx⟩
def EvD [Tb] (K : Fg) (te : TE) (σ : St) (G M M' : Hp) (e : β→Dat) (xs : List (Str×β)) : Prop:=
  ∀ G0 H,Same G G0→Ok G0 M H→∀ Q : VK,(∀ p kvs G' H',Same G0 G'→Ok G' (upd M' p (.dK kvs)) H'→M' p = none→KOk K G' e kvs xs→Q (.ref p) H')→te σ H Q
theorem xp [Tb] : EvD K tDNewK σ G M M e []:=fun G0 H s k Q q p hp=>q p [] G0 _ (Same.refl _) (k.newM _ hp) (Same.none k.m hp) KOk.nil
theorem qf [Tb] {xs : List (Str×β)} {k : Str} {z : β} {p : Addr} {kvs : List (Key×V)} (hp0 : M1 p = some (.dK kvs)) (hp : M3 p = some (.dK kvs)) (hd : KOk K G e kvs xs) (ho : Ev ta σ G M M1 (OW p)) (hk : Ev tb σ G M1 M2 (DD K (.str k))) (hz : Ev tc σ G M2 M3 (DD K (e z))) : Ev (tDGet2 ta tb tc) σ G M M3 (DD K (e (bt xs k z))):=fun G0 H s kk Q q=>
  ho G0 H s kk _ fun x G1 H1 s1 k1 hx=>by
    cases hx
    refine ⟨p,rfl,.inl ⟨kvs,.inl (k1.m _ _ hp0)⟩,hk G1 H1 (s.trans s1) k1 _ fun y G2 H2 s2 k2 hy=>hz G2 H2 ((s.trans s1).trans s2) k2 _ fun w G3 H3 s3 k3 hw=>?_⟩
    cases hy
    have s13:=s2.trans s3
    refine ⟨_,dgS (.inl (k3.m _ _ hp)),q _ G3 H3 (s1.trans s13) k3 ?_⟩
    unfold bt
    rcases hd.1.get fX k with ⟨z1,z2⟩ | ⟨b',v,e1,e2,e3⟩
    · rw [z1,z2]; exact hw
    · rw [e1,e2]; exact aa ((s.trans s1).trans s13) _ e3
theorem lD [Tb] {xs : List (Str×β)} {k : Str} {b : β} {p : Addr} {kvs : List (Key×V)} (h : bS xs k = some b) (hp : M2 p = some (.dK kvs)) (hd : KOk K G e kvs xs) (ho : Ev ta σ G M M1 (OW p)) (hk : Ev tb σ G M1 M2 (DD K (.str k))) : Ev (tDGet ta tb) σ G M M2 (DD K (e b)):=fun G0 H s kk Q q=>
  ho G0 H s kk _ fun x G1 H1 s1 k1 hx=>hk G1 H1 (s.trans s1) k1 _ fun y G2 H2 s2 k2 hy=>by
    cases hx; cases hy
    rcases hd.1.get fX k with ⟨z,_⟩ | ⟨b',v,e1,e2,e3⟩
    · rw [z] at h; cases h
    · rw [h] at e1; cases e1
      exact ⟨p,v,rfl,e2 ▸ dgS (.inl (k2.m _ _ hp)),q v G2 H2 (s1.trans s2) k2 (aa ((s.trans s1).trans s2) _ e3)⟩
theorem xU [Tb] {i : Nat} {σ' : V→St} {xs : List (Str×β)} (he : EvD K te σ G M M1 e xs) (ok : Ok G M H) (hσ : ∀ v,σ.set i (some v) = σ' v) (k : ∀ p kvs G' H',Same G G'→Ok G' (upd M1 p (.dK kvs)) H'→M1 p = none→KOk K G' e kvs xs→u D (σ' (.ref p)) H') : tSeq (tAsg te (gName i)) u D σ H:=
  he G H (Same.refl _) ok _ fun p kvs G1 H1 s1 k1 hp hv=>by
    show u D (σ.set i (some (.ref p))) H1
    rw [hσ]
    exact k p kvs G1 H1 s1 k1 hp hv
theorem sT [Tb] {p : Addr} {kvs : List (Key×V)} {xs ys : List (Str×β)} {k : Str} {b : β} (hy : fN xs k b = some ys) (hv : Ev te σ G M M1 (DD K (e b))) (ho : Ev ta σ G M1 M1 (OW p)) (hk : Ev tb σ G M1 M2 (DD K (.str k))) (hp : M2 p = some (.dK kvs)) (hd : KOk K G e kvs xs) (ok : Ok G M H)
    (kk : ∀ kvs' G' H',Same G G'→Ok G' (upd M2 p (.dK kvs')) H'→KOk K G' e kvs' ys→u D σ H') : tSeq (sDPut ta tb te) u D σ H:=
  hv G H (Same.refl _) ok _ fun v G1 H1 s1 k1 hw=>ho G1 H1 s1 k1 _ fun x G2 H2 s2 k2 hx=>hk G2 H2 (s1.trans s2) k2 _ fun y G3 H3 s3 k3 hyk=>by
    obtain ⟨_,h1,h2⟩:=bs hy
    cases h2
    cases hx
    have sk : okS k:=by cases hyk with | str h=>exact h
    cases hyk
    have s03:=(s1.trans s2).trans s3
    refine ⟨p,_,rfl,DPut.k (k:=kS k) (k3.m _ _ hp) (by rw [hd.1.len,sizeLine_eq]; exact bz h1),?_⟩
    exact kk _ G3 _ s03 (k3.chg _ hp) ⟨(hd.1.up s03).put fX k (aa (s2.trans s3) _ hw),di hd.2 sk⟩
end
end Kx
end
section
namespace Kx
open PySem L2
theorem kW {α β : Type} [DecidableEq α] {ys : List (α×β)} {i : Nat} {y : α×β} (h : ys[i]? = some y) : aU [] (ys.take (i + 1)) = bZ (aU [] (ys.take i)) y.1 y.2:=by
  unfold aU
  rw [List.take_add_one,h,List.foldl_append]
  rfl
theorem fu {α β : Type} [DecidableEq α] : ∀ (more xs : List (α×β)),(aU xs more).length ≤ xs.length + more.length
  | [],xs=>by show xs.length ≤ xs.length + 0; omega
  | p :: r,xs=>by
    have h1:=fu r (bZ xs p.1 p.2)
    have h2:=lW xs p.1 p.2
    show (aU (bZ xs p.1 p.2) r).length ≤ _
    rw [List.length_cons]; omega
theorem cy {α β : Type} [DecidableEq α] {p : α→Prop} : ∀ (more xs : List (α×β)),(∀ x ∈ xs,p x.1)→(∀ x ∈ more,p x.1)→∀ x ∈ aU xs more,p x.1
  | [],xs,h,_=>h
  | y :: r,xs,h,hm=>cy r (bZ xs y.1 y.2) (di h (hm y List.mem_cons_self)) fun x hx=>hm x (List.mem_cons_of_mem _ hx)
section
variable {β : Type} {K : Fg} {σ σ' : St} {G G' M M1 M2 M3 : Hp} {ta tb te tc tk tv : TE} {P P1 P2 : VP} {d : Dat} {ds es : List Dat} {D : Ends} {H : Hp} {u : TS} {e : β→Dat}
theorem aY.mergeS : ∀ {more : List (Key×V)} {ms : List (Str×β)} {kvs : List (Key×V)} {xs : List (Str×β)},aY K G kS e more ms→aY K G kS e kvs xs→aY K G kS e (mergeK kvs more) (aU xs ms):=by
  intro more ms kvs xs r
  induction r generalizing kvs xs with
  | nil=>intro q; exact q
  | cons a _ ih=>intro q; exact ih (q.put fX _ a)
theorem aY.mergeP : ∀ {more : List (List Key×V)} {ms : List ((Str×Str)×β)} {kvs : List (List Key×V)} {xs : List ((Str×Str)×β)},aY K G kP e more ms→aY K G kP e kvs xs→aY K G kP e (dA kvs more) (aU xs ms):=by
  intro more ms kvs xs r
  induction r generalizing kvs xs with
  | nil=>intro q; exact q
  | cons a _ ih=>intro q; exact ih (q.put gm _ a)
theorem kB : ∀ {xs : List (Str×β)} {vs : List V},ap K G vs (xs.map (eP2 Dat.str e))→∃ ps kvs,vs = ps.map V.ref∧Paired (fun p kv=>SqT K G p [kV kv.1,kv.2]) ps kvs∧aY K G kS e kvs xs∧∀ x ∈ xs,okS x.1
  | [],_,h=>by cases h; exact ⟨[],[],rfl,.nil,.nil,fun x hx=>nomatch hx⟩
  | x :: xs,_,h=>by
    cases h with
    | cons a b=>
      obtain ⟨ps,kvs,rfl,h1,h2,h3⟩:=kB b
      obtain ⟨p,ws,rfl,h4,h5⟩:=bx a
      cases h5 with
      | cons h5 h6=>
        cases h6 with
        | cons h6 h7=>
          cases h7
          have sk : okS x.1:=by cases h5 with | str h=>exact h
          cases h5
          refine ⟨p :: ps,(kS x.1,_) :: kvs,rfl,.cons h4 h1,.cons h6 h2,fun y hy=>?_⟩
          rcases List.mem_cons.mp hy with rfl | hy
          · exact sk
          · exact h3 y hy
theorem gc {α γ : Type} {R S : α→γ→Prop} {xs : List α} {ys : List γ} (h : Paired R xs ys) (f : ∀ a b,R a b→S a b) : Paired S xs ys:=by
  induction h with
  | nil=>exact .nil
  | cons a _ ih=>exact .cons (f _ _ a) ih
theorem sf [Tb] {xs ys : List (Str×β)} (hy : fq xs = some ys) (ha : EvA (tCons ta tNil) σ G M M1 (ak (DD K (.tuple (xs.map (eP2 Dat.str e)))) az)) : Ev (tCB (kI K) (tCons ta tNil)) σ G M M1 (DD K (eDS e ys)):=ev_cb ha fun vs G0 H s k hx Q q=>by
  obtain ⟨v,rfl,hv⟩:=one_of (R:=az) hx
  obtain ⟨_,h1,h2⟩:=bs hy
  cases h2
  cases hv with
  | tup a b=>
    obtain ⟨ps,kvs,rfl,p1,p2,p3⟩:=kB b
    refine ⟨_,ps,kvs,rfl,.inl (a.up k.g),gc p1 fun _ _ z=>bN k.g z,fun p hp=>?_⟩
    have gn:=Same.none k.g hp
    have s1 : Same G0 (upd G0 p (.dK (mergeK [] kvs))):=Same.new gn
    exact q _ _ _ s1 (k.newG _ hp) (m5 upd_same (((aY.mergeS p2 .nil).up s1)) (cy xs [] (fun x hx=>nomatch hx) p3))
theorem ou : ∀ {xs : List ((Str×Str)×β)} {vs : List V},ap K G vs (xs.map (eP2 (eR2 Dat.str Dat.str) e))→∃ ps kvs,vs = ps.map V.ref∧Paired (fun p kv=>∃ b,SqT K G p [.ref b,kv.2]∧G b = some (.tup (kv.1.map kV))) ps kvs∧aY K G kP e kvs xs∧∀ x ∈ xs,okP x.1
  | [],_,h=>by cases h; exact ⟨[],[],rfl,.nil,.nil,fun x hx=>nomatch hx⟩
  | x :: xs,_,h=>by
    cases h with
    | cons a b=>
      obtain ⟨ps,kvs,rfl,h1,h2,h3⟩:=ou b
      obtain ⟨p,ws,rfl,h4,h5⟩:=bx a
      cases h5 with
      | cons h5 h6=>
        cases h6 with
        | cons h6 h7=>
          cases h7
          have h5' : Dq K G _ (.rtup [.str x.1.1,.str x.1.2]):=h5
          obtain ⟨c,rfl,hc⟩:=eE (k:=x.1) h5'
          have sk : okP x.1:=by
            cases h5' with
            | rtup _ z=>
              cases z with
              | cons z1 z2=>
                cases z2 with
                | cons z2 _=>exact ⟨(bO z1).2,(bO z2).2⟩
          refine ⟨p :: ps,(kP x.1,_) :: kvs,rfl,.cons ⟨c,h4,hc⟩ h1,.cons h6 h2,fun y hy=>?_⟩
          rcases List.mem_cons.mp hy with rfl | hy
          · exact sk
          · exact h3 y hy
def dcO {α γ : Type} [DecidableEq γ] (f : α→Option (γ×β)) (xs : List α) : Option (List (γ×β)):=do
  let ys ← lcO f xs
  some (aU [] ys)
theorem yG [Tb] {α : Type} {ea : α→Dat} {f : α→Option ((Str×Str)×β)} {xs : List α} {zs : List ((Str×Str)×β)} {wi : TI} {g : TG} {vs : List Nat} (src : Src K wi σ G M M1 (xs.map ea)) (hf : dcO f xs = some zs)
    (hs : ∀ (x : α) (y : (Str×Str)×β) (Mx G1 : Hp) (v : V),f x = some y→Same M1 Mx→Same G G1→Dq K G1 v (ea x)→Tg g v (wipe σ vs) G1 fun σ2=>wipe σ2 vs = wipe σ vs∧Ev tk σ2 G1 Mx Mx (DD K (.rtup [.str y.1.1,.str y.1.2]))∧Ev tv σ2 G1 Mx Mx (DD K (e y.2))) :
    Ev (As true wi g tYes tk tv vs) σ G M M1 (DD K (eDP e zs)):=by
  intro G0 H s k Q q
  obtain ⟨ys,h0,h1⟩:=bs hf
  cases h1
  obtain ⟨_,h1,h2⟩:=bs h0
  have hl:=cV h2
  have hz:=szl (bz h1)
  refine src G0 H s k _ fun J G1 H1 s1 k1 w=>?_
  obtain ⟨Y,Gd,w,hGd,hY⟩:=w
  intro D hD
  have mD : M1 D = none:=Same.none k1.m hD
  rw [List.length_map] at w
  let Pv : Nat→Hp→Prop:=fun i H=>∃ G2 kvs,Same G1 G2∧Ok G2 (upd M1 D (.dT kvs)) H∧aY K G2 kP e kvs (aU [] (ys.take i))∧∀ x ∈ aU [] (ys.take i),okP x.1
  refine ⟨fun i m H=>m = xs.length - i∧i ≤ xs.length∧Pv i H,⟨xs.length,by simp,Nat.zero_le _,G1,[],Same.refl _,k1.newM _ hD,.nil,fun x hx=>nomatch hx⟩,?_⟩
  rintro i m H2 ⟨rfl,hi,G2,kvs,s2,k2,r2,o2⟩
  have qg:=hGd H2 (s2.trans k2.g)
  by_cases hlt : i < xs.length
  · refine .inr ⟨w.goes i H2 hlt qg,Pv (i + 1),fun H' p'=>⟨xs.length - (i + 1),by omega,rfl,hlt,p'⟩,fun x H3 y=>?_⟩
    have y:=w.yields i H2 x H3 hlt qg y
    obtain ⟨a,ha⟩ : ∃ a,xs[i]? = some a:=⟨xs[i],List.getElem?_eq_getElem hlt⟩
    obtain ⟨b,hb⟩ : ∃ b,ys[i]? = some b:=⟨ys[i]'(by omega),List.getElem?_eq_getElem (by omega)⟩
    obtain ⟨G3,s3,k3,hx⟩:=hY i (ea a) H2 x H3 G2 _ (by rw [List.getElem?_map,ha]; rfl) s2 k2 y
    refine hs a b (upd M1 D (.dT kvs)) G3 x (cK h2 ha hb) (Same.new mD) (((s.trans s1).trans s2).trans s3) hx H3 _ k3.g ?_
    rintro σ2 ⟨hw,ek,ev⟩
    refine ⟨hw,?_⟩
    simp only [tYes,if_true]
    refine ek G3 H3 (Same.refl _) k3 _ fun kv G4 H4 s4 k4 hk=>ev G4 H4 s4 k4 _ fun vv G5 H5 s5 k5 hv=>?_
    obtain ⟨c,rfl,hc⟩:=eE (k:=b.1) hk
    have ok : okP b.1:=by
      cases hk with
      | rtup _ z=>
        cases z with
        | cons z1 z2=>
          cases z2 with
          | cons z2 _=>exact ⟨(bO z1).2,(bO z2).2⟩
    have s25:=(s3.trans s4).trans s5
    have hlen : (aU [] (ys.take i)).length < sizeLine:=by
      have:=fu (ys.take i) []
      rw [List.length_nil,List.length_take] at this
      rw [sizeLine_eq] at hz ⊢
      omega
    refine ⟨_,DPut.t (k5.m _ _ upd_same) ((s5.trans k5.g) _ _ hc) (by rw [r2.len]; exact hlen),G5,putK kvs (kP b.1) vv,s2.trans s25,?_,?_⟩
    · have:=k5.chg (p:=D) (u:=.dT kvs) (.dT (putK kvs (kP b.1) vv)) upd_same
      rw [upd_upd] at this
      exact this
    · rw [kW hb]
      exact ⟨(r2.up s25).put gm _ hv,di o2 ok⟩
  · have e : i = xs.length:=by omega
    subst e
    refine .inl ⟨w.stops H2 qg,?_⟩
    rw [← hl,List.take_length] at r2 o2
    exact q _ (upd G2 D (.dT kvs)) H2 ((s1.trans s2).trans (Same.new k2.gp)) (k2.frz mD) (uC upd_same (r2.up (Same.new k2.gp)) o2)
end
end Kx
end
section
namespace Kx
open PySem L2
def gE : List Str→Str→Option Nat
  | [],_=>none
  | n :: ns,f=>if n = f then some 0 else (gE ns f).map (· + 1)
theorem fL {f : Str} : ∀ {fs : List (Str×V)} {i : Nat},gE (fs.map (·.1)) f = some i→fs.lookup f = (fs.map (·.2))[i]?
  | [],_,h=>by cases h
  | (n,v) :: fs,i,h=>by
    rw [List.map_cons] at h
    unfold gE at h
    rw [List.lookup_cons]
    by_cases e : n = f
    · rw [if_pos e] at h
      cases h
      rw [show (f == n) = true from beq_iff_eq.mpr e.symm]
      rfl
    · rw [if_neg e] at h
      obtain ⟨j,hj,rfl⟩:=Option.map_eq_some_iff.mp h
      rw [show (f == n) = false from beq_eq_false_iff_ne.mpr fun z=>e z.symm]
      exact fL hj
theorem fy {f : Str} : ∀ {fs : List (Str×V)},gE (fs.map (·.1)) f = none→fs.lookup f = none∧∀ v,putF f v fs = fs ++ [(f,v)]
  | [],_=>⟨rfl,fun _=>rfl⟩
  | (n,v) :: fs,h=>by
    rw [List.map_cons] at h
    unfold gE at h
    by_cases e : n = f
    · rw [if_pos e] at h
      cases h
    · rw [if_neg e] at h
      obtain ⟨h1,h2⟩:=fy (Option.map_eq_none_iff.mp h)
      refine ⟨?_,fun w=>?_⟩
      · rw [List.lookup_cons,show (f == n) = false from beq_eq_false_iff_ne.mpr fun z=>e z.symm]
        exact h1
      · unfold putF
        rw [if_neg e,h2 w]
        rfl
section
variable {K : Fg} {σ σ' : St} {G G' M M1 M2 M3 : Hp} {ta tb te tc : TE} {P P1 P2 : VP} {d : Dat} {ds es : List Dat} {D : Ends} {H : Hp} {u : TS} {C : Addr} {cn : Str} {ns : List Str}
theorem tm {v : V} (h : Dq K G v (.ins cn ns ds)) : ∃ a dx fs,v = .ref a∧G a = some (.ins (clsAt K cn) dx fs)∧fs.map (·.1) = ns∧ap K G (fs.map (·.2)) ds:=by
  cases h with
  | ins a b c=>exact ⟨_,_,_,rfl,a,b,c⟩
theorem dD [Tb] {f : Str} {i : Nat} (c : Cls K (clsAt K cn)) (n : NoAttr K (clsAt K cn) f) (hl : gE ns f = some i) (hd : ds[i]? = some d) (h : Ev te σ G M M1 (DD K (.ins cn ns ds))) : Ev (tFld K te f) σ G M M1 (DD K d):=fun G0 H s k Q q=>
  h G0 H s k _ fun x G1 H1 s1 k1 hx=>by
    obtain ⟨a,dx,fs,rfl,h1,h2,h3⟩:=tm hx
    subst h2
    obtain ⟨v,h4,h5⟩:=dq h3 hd
    exact ⟨a,clsAt K cn,dx,fs,v,rfl,k1.g _ _ h1,c,n,(fL hl).trans h4,q v G1 H1 s1 k1 h5⟩
theorem eY [Tb] {α ρ : Type} {args : α→List V→Hp→Prop} {m : α→Option ρ} {res : ρ→VP} {E : XK} {t : TA} {a : α} {r : ρ} {R : List V→Hp→Prop} {f : Str} (hf : gE ns f = none) (hA : args a = ak (DD K (.ins cn ns ds)) R) (hm : m a = some r) (ho : Ev te σ G M M1 (DD K (.ins cn ns ds))) (ha : EvA t σ G M1 M2 R) : Ev (tMeth (clsAt K cn) f (spP args m res) [] E te t) σ G M M2 (res r):=fun G0 H s k Q q=>
  ho G0 H s k _ fun x G1 H1 s1 k1 hx=>by
    obtain ⟨b,dx,fs,rfl,h1,h2,h3⟩:=tm hx
    subst h2
    refine ⟨b,dx,fs,rfl,k1.g _ _ h1,(fy hf).1,ha G1 H1 (s.trans s1) k1 _ fun vs G2 H2 s2 k2 hv=>?_⟩
    rw [List.append_nil]
    exact ⟨G2,M2,a,r,k2,by rw [hA]; exact ⟨_,_,rfl,aa s2 _ hx,hv⟩,hm,fun v G3 H3 s3 k3 hr=>q v G3 H3 ((s1.trans s2).trans s3) k3 hr⟩
def spI [Tb] {α ρ : Type} (K : Fg) (C : Addr) (ns : List Str) (fl : ρ→List Dat) (args : α→List V→Hp→Prop) (m : α→Option ρ) : Sp:=fun vs H Q _=>
  ∃ (G M : Hp) (x dx : Addr) (ws : List V) (a : α) (r : ρ),vs = .ref x :: ws∧Ok G (upd M x (.ins C dx [])) H∧M x = none∧args a ws G∧m a = some r∧
    ∀ fs G' H',Same G G'→Ok G' (upd M x (.ins C dx fs)) H'→fs.map (·.1) = ns→ap K G' (fs.map (·.2)) (fl r)→Q .non H'
theorem oX [Tb] {α ρ : Type} {fl : ρ→List Dat} {args : α→List V→Hp→Prop} {m : α→Option ρ} {E : XK} {t : TA} {a : α} {r : ρ} (hm : m a = some r) (ha : EvA t σ G M M1 (args a)) : Ev (tMake (clsAt K cn) (spI K (clsAt K cn) ns fl args m) [] E t) σ G M M1 (DD K (.ins cn ns (fl r))):=fun G0 H s k Q q=>
  ha G0 H s k _ fun vs G1 H1 s1 k1 hv x dx hx hdx hne=>by
    rw [List.append_nil]
    have h2 : Ok G1 M1 (upd H1 dx (.own x)):=⟨k1.g.trans (Same.new hdx),k1.m.trans (Same.new hdx),k1.d,k1.mu,qG k1.tb hdx⟩
    have hx2 : (upd H1 dx (.own x)) x = none:=by rw [upd_ne (fun z=>hne z.symm)]; exact hx
    refine ⟨G1,M1,x,dx,vs,a,r,rfl,h2.newM _ hx2,Same.none k1.m hx,hv,hm,fun fs G2 H2 s2 k2 e1 e2=>⟨rfl,?_⟩⟩
    exact q _ (upd G2 x (.ins (clsAt K cn) dx fs)) H2 ((s1.trans s2).trans (Same.new k2.gp)) (k2.frz (Same.none k1.m hx)) (.ins upd_same e1 (aj (Same.new k2.gp) _ e2))
theorem ot [Tb] {f : Str} {x dx : Addr} {fs : List (Str×V)} {M0 : Hp} (c : Cls K C) (n : NoAttr K C f) (he : Ev te σ G (upd M0 x (.ins C dx fs)) (upd M0 x (.ins C dx fs)) (DD K d)) (ho : Ev ta σ G (upd M0 x (.ins C dx fs)) (upd M0 x (.ins C dx fs)) (OW x)) (hk : fs.map (·.1) = ns) (hl : gE ns f = none) (hz : ns.length < 1000) (ok : Ok G (upd M0 x (.ins C dx fs)) H)
    (k : ∀ v G' H',Same G G'→Ok G' (upd M0 x (.ins C dx (fs ++ [(f,v)]))) H'→Dq K G' v d→u D σ H') : tSeq (sFld K ta te f) u D σ H:=
  he G H (Same.refl _) ok _ fun v G1 H1 s1 k1 hv=>ho G1 H1 s1 k1 _ fun y G2 H2 s2 k2 hy=>by
    cases hy
    subst hk
    refine ⟨x,C,dx,fs,rfl,k2.m _ _ upd_same,c,n,by rw [List.length_map] at hz; exact hz,?_⟩
    rw [(fy hl).2 v]
    have:=k2.chg (p:=x) (u:=.ins C dx fs) (.ins C dx (fs ++ [(f,v)])) upd_same
    rw [upd_upd] at this
    exact k v G2 _ (s1.trans s2) this (aa s2 _ hv)
abbrev CLX (C : Addr) : VP:=fun v _=>v = .ref C
end
structure uS (K : Fg) (x qual : Str) (st : Stmt) (E f : Addr) (fd : FuncData) : Prop where
  ex : FunD K x qual (defArgs st) (defBody st) (defScope st) [.ref E] [] f fd
theorem vX {K : Fg} {x qual : Str} {st : Stmt} {f T E : Addr} {oc cT : Value} {od an dT : Option Addr} {osl slT : Array (Option Value)} {kV doc pm cdv ct : Value} {nT : Nat} (l : K.lookup f = some ⟨oc,od,.func (PySem.W.fnOf x qual (defArgs st) (defBody st) (defScope st) (.ref T) kV doc pm an cdv ct),osl⟩)
    (lT : K.lookup T = some ⟨cT,dT,.seq #[.ref E] nT,slT⟩) (c : PySem.W.codeIn K cdv qual = true) (k : PySem.W.keepIn K (.ref f) = true) : uS K x qual st E f (PySem.W.fnOf x qual (defArgs st) (defBody st) (defScope st) (.ref T) kV doc pm an cdv ct):=
  ⟨⟨⟨oc,od,_,kV,doc,pm,an,cdv,ct,osl,rfl,l,c,.inr ⟨by simp,T,_,[.ref E],nT,rfl,lT,rfl,.cons rfl .nil⟩,.inl rfl⟩,k⟩⟩
end Kx
end
section
namespace HT
open PySem PySem.SeqAt PyProof.Rows
end HT
namespace Kx
open PySem L2 PySem.Spec PyProof.Rows
end Kx
end
section
namespace PyProof.Rows
open PySem PySem.Spec
section
variable {prog : Program} {w : World} {A : Around} {E : Value→Shared→Prop} {s : Shared}
theorem mF {l : Addr} {vs : List Value} {Q : List Value→Shared→Prop} (hl : IsTup s.heap l vs.toArray)
    (h : Q vs { s with heap:=(s.heap.push (seqObj "list" #[] 0)).update s.heap.objs.size (Obj.mapSeq (· ++ vs.toArray)) }) (hsz : vs.length ≤ sizeLine:=by size_fits) :
    wpAny (model prog w) A (collect (.ref l)) Q E s:=by
  obtain ⟨o,ho,hc,n,hd⟩:=id hl
  unfold collect
  refine wpAny_bind (wpAny_runValue (codeAny_builtin entry_proto_collect' ?_))
  show wpAny _ _ (do again (.builtin "list.__iadd__" ⟨[← newList [],.ref l],[]⟩)) _ _ s
  refine wpAny_bind (wpAny_newList (wpAny_pure ⟨Code.quiet_builtin _ (by decide +kernel),codeAny_builtin entry_list_iadd' ?_⟩))
  show wpAny _ _ (Builtin.List.listExtendWith (.ref s.heap.objs.size) (.ref l) (.ref s.heap.objs.size)) _ _ { s with heap:=s.heap.push (seqObj "list" #[] 0) }
  unfold Builtin.List.listExtendWith
  have ho' : (s.heap.push (seqObj "list" #[] 0)).get? l = some o:=Heap.get?_push_of_some _ ho
  refine wpAny_bind (wpAny_typeOf (T:="tuple") ⟨o,ho',hc⟩ ?_)
  have ht : (Value.type "tuple" == Value.type "tuple") = true:=by rfl
  rw [if_pos (by rw [ht]; simp)]
  refine wpAny_bind (listItems_at ho' hd ?_)
  refine wpAny_bind (listItems_at (xs:=#[]) (n:=0) (Heap.get?_push_size _ rfl) rfl ?_)
  rw [if_neg (by simp)]
  refine wpAny_bind (listUpdate_at (xs:=#[]) (n:=0) (Heap.get?_push_size _ rfl) rfl ?_ (Nat.zero_le _) (by show (#[] ++ vs.toArray).size ≤ sizeLine + 1; simp only [Array.size_append,List.size_toArray,List.length_nil]; omega))
  refine wpAny_pure ?_
  show wpAny (model prog w) A (do
      let o ← load s.heap.objs.size
      match o.data with
      | .seq xs _=>pure xs.toList
      | _=>unsupported "internal:collect") Q E { s with heap:=(s.heap.push (seqObj "list" #[] 0)).update s.heap.objs.size (Obj.mapSeq (· ++ vs.toArray)) }
  refine wpAny_bind (wpAny_load (get?_update_seq (Heap.get?_push_size _ rfl) _) ?_)
  show wpAny _ _ (pure ((#[] : Array Value) ++ vs.toArray).toList) Q E _
  rw [show ((#[] : Array Value) ++ vs.toArray).toList = vs by simp]
  exact wpAny_pure h
theorem uF {κ : KeyKind} (hO : κ.OneLt) {l : Addr} {vs : List Value} {Q : Value→Shared→Prop} (hl : IsTup s.heap l vs.toArray) (h0 : KeysOf κ (pairsOf vs)) (hkk : ∀ v₁ v₂ rest,vs = v₁ :: v₂ :: rest→keyKind' (v₁ :: v₂ :: rest).toArray = pure oneType') (h64 : vs.length < 64)
    (h : ∀ st' : SortSt,(arrOf st').Perm (pairsOf vs)→SortedToK κ (arrOf st') (pairsOf vs).size→Q (.ref (s.heap.objs.size + 1)) { s with heap:=sortedAll s.heap vs ((arrOf st').map (·.2)) }) :
    wpAny (model prog w) A (call (.builtin "sorted") [.ref l]) Q E s:=by
  refine Calls.call_function_entry kind_sorted plain_sorted entry_sorted (args_sorted1 _) ?_
  unfold Builtin.«sorted»
  refine wpAny_bind (m:=checkCount "sorted" 1 1 _) (wpAny_pure ?_)
  refine wpAny_bind (mF hl ?_)
  refine wpAny_bind (wpAny_newList ?_)
  have hsz : ((s.heap.push (seqObj "list" #[] 0)).update s.heap.objs.size (Obj.mapSeq (· ++ vs.toArray))).objs.size = s.heap.objs.size + 1:=by
    rw [Heap.size_update,size_push']
  have hoL : (((s.heap.push (seqObj "list" #[] 0)).update s.heap.objs.size (Obj.mapSeq (· ++ vs.toArray))).push (seqObj "list" vs.toArray 0)).get? (s.heap.objs.size + 1) = some (seqObj "list" vs.toArray 0):=by
    rw [← hsz]; exact Heap.get?_push_size _ rfl
  show wpAny _ _ _ _ _ { s with heap:=((s.heap.push (seqObj "list" #[] 0)).update s.heap.objs.size (Obj.mapSeq (· ++ vs.toArray))).push (seqObj "list" vs.toArray 0) }
  rw [hsz]
  refine wpAny_bind (wpAny_holding (wpAny_call_entry slot_list_sort ⟨_,hoL,rfl⟩ entry_list_sort (list_sort_treeK hO hoL h0 hkk h64 fun st' a1 a2=>⟨_,rfl,?_⟩) (args_list_sort _)))
  exact wpAny_pure ⟨_,rfl,h st' a1 a2⟩
theorem sorted_strsT {l : Addr} {vs : List Value} {ss : List Str} {Q : Value→Shared→Prop} (hl : IsTup s.heap l vs.toArray) (hS : StrsAre vs ss) (h64 : vs.length < 64)
    (h : ∀ (out : Array Value) (ss' : List Str),StrsAre out.toList ss'→ss'.Perm ss→sortedS ss' = true→Q (.ref (s.heap.objs.size + 1)) { s with heap:=sortedAll s.heap vs out }) :
    wpAny (model prog w) A (call (.builtin "sorted") [.ref l]) Q E s:=by
  refine uF strKind_oneLt hl hS.keysOf (fun v₁ v₂ rest e=>keyKind_strs (by rw [← e]; exact hS)) h64 fun st' hp hs=>?_
  obtain ⟨ss',h1,h2,h3⟩:=sorted_out_str hS hp hs
  exact h _ ss' h1 h2 h3
end
end PyProof.Rows
namespace Kx
open PySem L2 PySem.Spec
section
variable {X : Cx} {K : Fg}
def jP (K : Fg) : List V→Hp→VK→Prop:=fun vs H Q=>∃ (a : Addr) (xs : List Str),vs = [V.ref a]∧SqT K H a (xs.map V.str)∧xs.length < 64∧
  ∀ (ys : List Str) (p : Addr),ys.Perm xs→PyProof.Rows.sortedS ys = true→H p = none→Q (.ref p) (upd H p (.lst (ys.map V.str)))
theorem lZ (hK : X.K = K:=by rfl) : CallR X (.builtin "sorted") (jP K):=by
  subst hK
  intro pins s σ H vs us Q I r h
  obtain ⟨a,xs,rfl,hs,h64,q⟩:=h
  obtain ⟨its,rv,hl,_⟩:=I.tuple hs
  rw [Vals.ref1 r]
  have hlen0:=rv.length
  rw [List.length_map] at hlen0
  refine PyProof.Rows.sorted_strsT hl rv.strs (by rw [← hlen0]; exact h64) fun out ys h1 h2 h3=>?_
  obtain ⟨ep,he'⟩:=PyProof.Rows.sortedAll_at s.heap its out
  have hlen : (ys.map V.str).length ≤ sizeLine:=by rw [List.length_map,h2.length_eq]; exact small64 h64
  exact ⟨.ref _,upd H (s.heap.objs.size + 1) (.lst (ys.map V.str)),I.laid (t':=s.toks) (fun _ _=>PyProof.Rows.sortedAll_old) (Nat.le_succ _) ⟨hlen,out.toList,ep,vals_of_strs h1,he'⟩,rfl,q ys _ h2 h3 (I.hok.fresh (Nat.le_succ _))⟩
def zX (K : Fg) : R2:=fun x y H Q=>∃ d e,Dp K H x d∧Dp K H y e∧PySem.W.alike d e = true∧d ≠ .none∧min d.depth e.depth ≤ 64∧Q (.bl (!PySem.W.dataLt e d)) H
theorem xN (hu : X.A.units + 64 < cLine) (hK : X.K = K:=by rfl) : OpR X (compareOp .LtE) (zX K):=by
  subst hK
  intro pins s σ H x y v u Q I rx ry h
  obtain ⟨d,e,hd,he,al,hn,hm,q⟩:=h
  obtain ⟨as,r1⟩:=Dp.reads I d x v hd rx
  obtain ⟨bs,r2⟩:=Dp.reads I e y u he ry
  exact PySem.W.le_data r1 r2 al hn (by omega) ⟨.bl _,H,I,rfl,q⟩
end
section
variable {β : Type} {K : Fg} {σ σ' : L2.St} {G G' M M1 M2 M3 : Hp} {ta tb te tc : TE} {P P1 P2 : VP} {d : Dat} {ds es : List Dat} {e : β→Dat}
theorem lG [Tb] {xs ys : List Str} (h : jN xs = some ys) (ha : EvA (tCons ta tNil) σ G M M1 (ak (DD K (.tuple (xs.map Dat.str))) az)) : EvL K (tCB (jP K) (tCons ta tNil)) σ G M M1 (ys.map Dat.str):=el_cb ha fun vs G0 H s k hx Q q=>by
  obtain ⟨v,rfl,hv⟩:=one_of (R:=az) hx
  obtain ⟨a,ws,rfl,h1,h2⟩:=bx hv
  obtain ⟨_,h3,h4⟩:=bs h
  cases h4
  have so:=ij h2
  rw [cq h2] at h1
  refine ⟨a,xs,rfl,bN k.g h1,bz h3,fun zs p pz sz hp=>?_⟩
  have e:=qO pz sz
  subst e
  exact qt (Same.refl _) k (fC fun x hx=>so x ((cA xs).mem_iff.mp hx)) q p hp
def ltP (a b : Str×Str) : Bool:=if a.1 = b.1 then sLt a.2 b.2 else sLt a.1 b.1
theorem o8 (a b : Str) : PyProof.Rows.lexLt PyProof.Rows.itemOrd [Sum.inr a.cps.toList] [Sum.inr b.cps.toList] = sLt a b:=by
  have:=PySem.W.dataLt_str a b
  unfold PySem.W.dataLt at this
  simp only [PySem.W.keyToks] at this
  exact this
theorem dataLt_pair (a b : Str×Str) : PySem.W.dataLt (.tuple [.str a.1,.str a.2]) (.tuple [.str b.1,.str b.2]) = ltP a b:=by
  rw [PySem.W.dataLt_tuple]
  simp only [PySem.W.keyToksAll,PySem.W.keyToks,List.cons_append,List.nil_append]
  rw [PyProof.Rows.lex_self]
  unfold ltP
  by_cases h1 : a.1 = b.1
  · rw [if_pos h1,h1,PyProof.Rows.lex_self,PyProof.Rows.lex_self]
    by_cases h2 : a.2 = b.2
    · rw [h2,PyProof.Rows.lex_self,PyProof.Rows.lex_self,eR]
      rfl
    · rw [PySem.W.lex_atom (fun z=>h2 (kj (Sum.inr.inj z))),o8]
  · rw [if_neg h1,PySem.W.lex_atom (fun z=>h1 (kj (Sum.inr.inj z))),o8]
theorem xx [Tb] {a b : Str×Str} (ha : Ev ta σ G M M1 (DD K (.tuple [.str a.1,.str a.2]))) (hb : Ev tb σ G M1 M2 (DD K (.tuple [.str b.1,.str b.2]))) : Ev (tOp (zX K) ta tb) σ G M M2 (DD K (.bool (!ltP b a))):=ev_op aQ ha hb fun x y G0 H s k hx hy Q q=>by
  have e : ∀ c : Str×Str,toPy (.tuple [.str c.1,.str c.2]) = .tuple [.str c.1,.str c.2]:=fun c=>by rw [cb]; simp [toPy]
  have p : ∀ c : Str×Str,pur (.tuple [.str c.1,.str c.2]) = true:=fun c=>by simp [pur,gF]
  have h1:=dX _ (p a) (aa k.g _ hx)
  have h2:=dX _ (p b) (aa k.g _ hy)
  rw [e] at h1 h2
  refine ⟨_,_,h1,h2,by simp [PySem.W.alike,PySem.W.alikeAll],by simp,by simp [PyData.depth,PyData.depthAll],?_⟩
  rw [dataLt_pair]
  exact q _ G0 H (Same.refl _) k (.bl _)
end
end Kx
end
section
namespace Kx
open PySem L2
section
variable {K : Fg} {σ σ' : St} {G G' M M1 M2 M3 : Hp} {ta tb te tc : TE} {P P1 P2 : VP} {d : Dat} {ds es : List Dat} {C : Addr} {cn : Str} {ns : List Str}
theorem xk : Mo (CLX C):=fun _ _ _ _ h=>h
theorem xc [Tb] : Ev (tC (.ref C)) σ G M M (CLX C):=fun G0 H _ k Q q=>q _ G0 H (Same.refl _) k rfl
theorem vC [Tb] {C' : Addr} {b : Bool} (c : ph K (clsAt K cn)) (hb : PySem.W.kitOne K (.ref (clsAt K cn)) (.ref C') = some b) (ha : EvA (tCons ta (tCons tb tNil)) σ G M M1 (ak (DD K (.ins cn ns ds)) (ak (CLX C') az))) : Ev (tCB (rIsi K) (tCons ta (tCons tb tNil))) σ G M M1 (DD K (.bool b)):=ev_cb ha fun xs G0 H s k hx Q q=>by
  obtain ⟨v,w,rfl,hv,hw⟩:=dB hx
  cases hw
  exact ⟨v,_,_,_,b,rfl,.own C',sO k.g (fun C1 n1 x1 e=>by cases e; exact c) ⟨fun _ _ e=>(by cases e),fun _ _ _ e=>(by cases e)⟩ hv,hb,q _ G0 H (Same.refl _) k (.bl _)⟩
def sY {α β γ : Type} (f : α→Option (List γ)) (h : α→γ→Option β) (xs : List α) : Option (List β):=do
  let rs ← cD (fun x=>(f x).bind fun zs=>cD (h x) zs) xs
  grd (rs.flatten.length ≤ 16777216)
  some rs.flatten
theorem uX [Tb] {α β γ : Type} {ea : α→Dat} {ec : γ→Dat} {eb : β→Dat} {f : α→Option (List γ)} {h : α→γ→Option β} {xs : List α} {ys : List β} {wi wi1 : TI} {g g1 : TG} {vs vs1 : List Nat} (src : Src K wi σ G M M1 (xs.map ea)) (hf : sY f h xs = some ys)
    (hs : ∀ (x : α) (zs : List γ) (Mx G1 : Hp) (v : V),f x = some zs→Same M1 Mx→Same G G1→Dq K G1 v (ea x)→Tg g v (wipe σ vs) G1 fun σ2=>wipe σ2 vs = wipe σ vs∧Src K wi1 σ2 G1 Mx Mx (zs.map ec)∧
      ∀ (c : γ) (y : β) (Mx' G2 : Hp) (v2 : V),h x c = some y→Same M1 Mx'→Same G1 G2→Dq K G2 v2 (ec c)→Tg g1 v2 (wipe σ2 vs1) G2 fun σ3=>wipe σ3 vs1 = wipe σ2 vs1∧Ev te σ3 G2 Mx' Mx' (DD K (eb y))) :
    EvL K (tLc2 wi g tYes wi1 g1 tYes te vs vs1) σ G M M1 (ys.map eb):=by
  intro G0 H s k Q q
  obtain ⟨rs,h1,h2⟩:=bs hf
  obtain ⟨_,h3,h4⟩:=bs h2
  cases h4
  have hz:=szl (bz h3)
  have hl:=cV h1
  refine src G0 H s k _ fun J G1 H1 s1 k1 w=>?_
  obtain ⟨Y,Gd,w,hGd,hY⟩:=w
  intro D hD
  have mD : M1 D = none:=Same.none k1.m hD
  rw [List.length_map] at w
  let Pv : Nat→Hp→Prop:=fun i H=>∃ G2 acc,Same G1 G2∧Ok G2 (upd M1 D (.lst acc)) H∧ap K G2 acc ((rs.take i).flatten.map eb)
  refine ⟨fun i m H=>m = xs.length - i∧i ≤ xs.length∧Pv i H,⟨xs.length,by simp,Nat.zero_le _,G1,[],Same.refl _,k1.newM _ hD,.nil⟩,?_⟩
  rintro i m H2 ⟨rfl,hi,G2,acc,s2,k2,hacc⟩
  have qg:=hGd H2 (s2.trans k2.g)
  by_cases hlt : i < xs.length
  · refine .inr ⟨w.goes i H2 hlt qg,Pv (i + 1),fun H' p'=>⟨xs.length - (i + 1),by omega,rfl,hlt,p'⟩,fun x H3 y=>?_⟩
    have y:=w.yields i H2 x H3 hlt qg y
    obtain ⟨a,ha⟩ : ∃ a,xs[i]? = some a:=⟨xs[i],List.getElem?_eq_getElem hlt⟩
    obtain ⟨r,hr⟩ : ∃ r,rs[i]? = some r:=⟨rs[i]'(by omega),List.getElem?_eq_getElem (by omega)⟩
    obtain ⟨G3,s3,k3,hx⟩:=hY i (ea a) H2 x H3 G2 _ (by rw [List.getElem?_map,ha]; rfl) s2 k2 y
    have e0 : (f a).bind (fun zs=>cD (h a) zs) = some r:=cK (f:=fun x=>(f x).bind fun zs=>cD (h x) zs) h1 ha hr
    obtain ⟨zs,e1,e2⟩:=bs e0
    have hl2:=cV e2
    have htk : (rs.take (i + 1)).flatten = (rs.take i).flatten ++ r:=by
      rw [List.take_add_one,hr,List.flatten_append]
      simp
    have hfl : (rs.take i).flatten.length + r.length ≤ rs.flatten.length:=by
      have : rs.flatten = (rs.take (i + 1)).flatten ++ (rs.drop (i + 1)).flatten:=by rw [← List.flatten_append,List.take_append_drop]
      rw [this,htk,List.length_append,List.length_append]
      omega
    refine hs a zs (upd M1 D (.lst acc)) G3 x e1 (Same.new mD) (((s.trans s1).trans s2).trans s3) hx H3 _ k3.g ?_
    rintro σ2 ⟨hw,sr,hin⟩
    refine ⟨hw,?_⟩
    simp only [tYes,if_true]
    refine sr G3 H3 (Same.refl _) k3 _ fun J1 G4 H4 s4 k4 w1=>?_
    obtain ⟨Y1,Gd1,w1,hGd1,hY1⟩:=w1
    rw [List.length_map] at w1
    let Pv1 : Nat→Hp→Prop:=fun j H=>∃ G5 acc1,Same G4 G5∧Ok G5 (upd M1 D (.lst acc1)) H∧ap K G5 acc1 (((rs.take i).flatten ++ r.take j).map eb)
    refine ⟨fun j m H=>m = zs.length - j∧j ≤ zs.length∧Pv1 j H,⟨zs.length,by simp,Nat.zero_le _,G4,acc,Same.refl _,k4,by rw [List.take_zero,List.append_nil]; exact aj (s3.trans s4) _ hacc⟩,?_⟩
    rintro j m H5 ⟨rfl,hj,G5,acc1,s5,k5,hacc1⟩
    have qg1:=hGd1 H5 (s5.trans k5.g)
    by_cases hlt1 : j < zs.length
    · refine .inr ⟨w1.goes j H5 hlt1 qg1,Pv1 (j + 1),fun H' p'=>⟨zs.length - (j + 1),by omega,rfl,hlt1,p'⟩,fun x1 H6 y1=>?_⟩
      have y1:=w1.yields j H5 x1 H6 hlt1 qg1 y1
      obtain ⟨c,hc⟩ : ∃ c,zs[j]? = some c:=⟨zs[j],List.getElem?_eq_getElem hlt1⟩
      obtain ⟨b,hb⟩ : ∃ b,r[j]? = some b:=⟨r[j]'(by omega),List.getElem?_eq_getElem (by omega)⟩
      obtain ⟨G6,s6,k6,hx1⟩:=hY1 j (ec c) H5 x1 H6 G5 _ (by rw [List.getElem?_map,hc]; rfl) s5 k5 y1
      refine hin c b (upd M1 D (.lst acc1)) G6 x1 (cK e2 hc hb) (Same.new mD) ((s4.trans s5).trans s6) hx1 H6 _ k6.g ?_
      rintro σ3 ⟨hw3,ev⟩
      refine ⟨hw3,?_⟩
      refine ev G6 H6 (Same.refl _) k6 _ fun z G7 H7 s7 k7 hz7=>?_
      have hlen : acc1.length < sizeLine:=by
        rw [aw hacc1,List.length_map,List.length_append,List.length_take]
        rw [sizeLine_eq] at hz ⊢
        omega
      refine ⟨acc1,k7.m _ _ upd_same,hlen,G7,acc1 ++ [z],(s5.trans s6).trans s7,?_,?_⟩
      · have:=k7.chg (p:=D) (u:=.lst acc1) (.lst (acc1 ++ [z])) upd_same
        rw [upd_upd] at this
        exact this
      · rw [List.take_add_one,hb,← List.append_assoc,List.map_append (l₁:=(rs.take i).flatten ++ r.take j)]
        exact bJ (aj (s6.trans s7) _ hacc1) (.cons hz7 .nil)
    · have e : j = zs.length:=by omega
      subst e
      refine .inl ⟨w1.stops H5 qg1,G5,acc1,((s2.trans s3).trans s4).trans s5,k5,?_⟩
      rw [htk]
      rw [← hl2,List.take_length] at hacc1
      exact hacc1
  · have e : i = xs.length:=by omega
    subst e
    refine .inl ⟨w.stops H2 qg,?_⟩
    rw [← hl,List.take_length] at hacc
    exact q D acc G2 H2 (s1.trans s2) k2 mD hacc
end
end Kx
end
section
namespace Kx
open PySem L2
def signs (z : Str) : List Str:=z.cps.toList.map fun c=>⟨#[c]⟩
theorem qh {z : Str} : (z.cps.toList.map fun c=>Dat.str ⟨#[c]⟩) = (signs z).map Dat.str:=by
  unfold signs
  rw [List.map_map]
  rfl
section
variable {X : Cx} {K : Fg}
theorem cF {e : Expr} {ta : TE} {f : Str} {pos : Pos} (he : PE X e ta) (hb : attributeBase e f X.env (eval e X.env) = eval e X.env:=by rfl) (h : X.K = K:=by rfl) : PE X (.Attribute e f pos) (tFld K ta f):=h ▸ pe_fld he hb
theorem jA (hcalm : X.calm = true) (h : X.K = K:=by rfl) : CallR X (.type "dict") (kI K):=h ▸ re hcalm
theorem qw (hu : X.A.units + 64 < cLine) (hcalm : X.calm = true) (h : X.K = K:=by rfl) : CallR X (.type "dict") (nr K):=h ▸ sa (by omega) hcalm
end
section
variable {β : Type} {K : Fg} {σ σ' : St} {G G' M M1 M2 M3 : Hp} {ta tb te tc : TE} {P P1 P2 : VP} {d : Dat} {ds es : List Dat} {D : Ends} {H : Hp} {u : TS} {e : β→Dat}
theorem C5 [Tb] {tr : TA} {R : Addr→List (Key×V)→List V→Hp→Hp→Prop} {xs : List (Str×β)} (ha : EvD K ta σ G M M1 e xs) (hr : ∀ p ws,M1 p = none→EvX tr σ G (upd M1 p (.dK ws)) (R p ws)) :
    EvX (tCons ta tr) σ G M fun vs G' M'=>∃ p ws r,vs = .ref p :: r∧M1 p = none∧KOk K G' e ws xs∧R p ws r G' M':=fun G0 H s k Q q=>
  ha G0 H s k _ fun p ws G1 H1 s1 k1 hp hd=>hr p ws hp G1 H1 (s.trans s1) k1 _ fun xs G2 M2 H2 s2 k2 hy=>q (.ref p :: xs) G2 M2 H2 (s1.trans s2) k2 ⟨p,ws,xs,rfl,hp,hd.up s2,hy⟩
theorem wU [Tb] {M0 : Hp} {p : Addr} {o : HO} (ok : Ok G M H) (hp : M p = some o) (h0 : M0 p = none) (hB : Same M0 M) (k : ∀ G',Same G G'→G' p = some o→Ok G' M0 H→u D σ H) : u D σ H:=
  k (upd G p o) (Same.new (ok.d _ _ hp)) upd_same (ok.giveL hp h0 hB)
end
end Kx
end
section
namespace Kx
open PySem L2
theorem uS.binds3 {K : Fg} {x qual : Str} {st : Stmt} {E0 f : Addr} {fd : FuncData} {ps : List Str} (F : uS K x qual st E0 f fd)
    (h : ∀ (T : Addr) (kV doc pm : Value) (an : Option Addr) (cdv ct : Value) (us its : List Value),us.length = ps.length→its.length = 1→
      ∃ k,bindArgs (PySem.W.fnOf x qual (defArgs st) (defBody st) (defScope st) (.ref T) kV doc pm an cdv ct) ⟨us,[]⟩ = seqItems? (.ref T) >>= k∧k (some its.toArray) = pure (ps.zip us)) : Binds K fd ps []:=by
  obtain ⟨ds,r,b⟩:=F.ex.binds1 (ps:=ps) ps.length 1 (by simp) (by simp) fun T kV doc pm an cdv ct us its hl hi=>by
    obtain ⟨k,h1,h2⟩:=h T kV doc pm an cdv ct us its hl hi
    refine ⟨k,h1,?_⟩
    have : its.drop 1 = []:=by
      rw [List.drop_eq_nil_iff]
      have:=hi
      simp at this
      omega
    rw [this,List.append_nil]
    exact h2
  cases r
  exact b
theorem qI {K : Fg} {t : Value} : PySem.W.kitOne K t t = some true:=by
  unfold PySem.W.kitOne
  simp
end Kx
end
section
namespace Kx
open PySem L2
section
variable {β : Type} {K : Fg} {σ σ' : St} {G G' M M1 M2 M3 : Hp} {ta tb te tc tk1 tv1 tk2 tv2 : TE} {P P1 P2 : VP} {d : Dat} {ds es : List Dat} {D : Ends} {H : Hp} {u : TS} {e : β→Dat}
theorem sK [Tb] {k1 k2 : Str} {b1 b2 : β} (h1 : ∀ Mx,Same M Mx→Ev tk1 σ G Mx Mx (DD K (.str k1))) (h2 : ∀ Mx,Same M Mx→Ev tv1 σ G Mx Mx (DD K (e b1))) (h3 : ∀ Mx,Same M Mx→Ev tk2 σ G Mx Mx (DD K (.str k2))) (h4 : ∀ Mx,Same M Mx→Ev tv2 σ G Mx Mx (DD K (e b2))) :
    Ev (tDisp [(tk1,tv1),(tk2,tv2)]) σ G M M (DD K (eDS e (aU [] [(k1,b1),(k2,b2)]))):=fun G0 H s k Q q p hp=>by
  have mp : M p = none:=Same.none k.m hp
  have sM : Same M (upd M p (.dK [])):=Same.new mp
  have k0:=k.newM (.dK []) hp
  refine h1 _ sM G0 _ s k0 _ fun x1 G1 H1 s1 ok1 hx1=>h2 _ sM G1 H1 (s.trans s1) ok1 _ fun y1 G2 H2 s2 ok2 hy1=>h3 _ sM G2 H2 ((s.trans s1).trans s2) ok2 _ fun x2 G3 H3 s3 ok3 hx2=>h4 _ sM G3 H3 (((s.trans s1).trans s2).trans s3) ok3 _ fun y2 G4 H4 s4 ok4 hy2=>?_
  obtain ⟨rfl,o1⟩:=bO hx1
  obtain ⟨rfl,o2⟩:=bO hx2
  refine ⟨ok4.m _ _ upd_same,[(kS k1,y1),(kS k2,y2)],rfl,by simp,?_⟩
  have r : aY K G4 kS e [(kS k1,y1),(kS k2,y2)] [(k1,b1),(k2,b2)]:=.cons (aa (s3.trans s4) _ hy1) (.cons hy2 .nil)
  have r2:=aY.mergeS r .nil
  have okk:=ok4.chg (p:=p) (u:=.dK []) (.dK (mergeK [] [(kS k1,y1),(kS k2,y2)])) upd_same
  rw [upd_upd] at okk
  have sn : Same G4 (upd G4 p (.dK (mergeK [] [(kS k1,y1),(kS k2,y2)]))):=Same.new okk.gp
  refine q _ _ _ ((((s1.trans s2).trans s3).trans s4).trans sn) (okk.frz mp) (m5 upd_same (r2.up sn) (cy [(k1,b1),(k2,b2)] [] (fun x hx=>(nomatch hx)) fun x hx=>?_))
  rcases List.mem_cons.mp hx with rfl | hx
  · exact o1
  · rw [List.mem_singleton.mp hx]; exact o2
end
end Kx
end
section
namespace Kx
open PySem L2
section
variable {β : Type} {K : Fg} {σ σ' : St} {G G' M M1 M2 M3 : Hp} {ta tb te tc tk tv : TE} {P P1 P2 : VP} {d : Dat} {ds es : List Dat} {D : Ends} {H : Hp} {u : TS} {e : β→Dat}
def c9 (K : Fg) (G : Hp) (e : β→Dat) (kvs : List (List Key×V)) (xs : List ((Str×Str)×β)) : Prop:=aY K G kP e kvs xs∧∀ x ∈ xs,okP x.1
theorem c9.up {kvs : List (List Key×V)} {xs : List ((Str×Str)×β)} (s : Same G G') (h : c9 K G e kvs xs) : c9 K G' e kvs xs:=⟨h.1.up s,h.2⟩
theorem c9.nil : c9 K G e [] []:=⟨.nil,fun x hx=>(nomatch hx)⟩
def EvP [Tb] (K : Fg) (te : TE) (σ : St) (G M M' : Hp) (e : β→Dat) (xs : List ((Str×Str)×β)) : Prop:=
  ∀ G0 H,Same G G0→Ok G0 M H→∀ Q : VK,(∀ p kvs G' H',Same G0 G'→Ok G' (upd M' p (.dT kvs)) H'→M' p = none→c9 K G' e kvs xs→Q (.ref p) H')→te σ H Q
theorem EvP.ev [Tb] {xs : List ((Str×Str)×β)} (h : EvP K te σ G M M1 e xs) : Ev te σ G M M1 (DD K (eDP e xs)):=fun G0 H s k Q q=>
  h G0 H s k Q fun p kvs G' H' s' k' hp hd=>q _ (upd G' p (.dT kvs)) H' (s'.trans (Same.new k'.gp)) (k'.frz hp) (uC upd_same (hd.1.up (Same.new k'.gp)) hd.2)
theorem sP {v : V} {k : Str×Str} (h : Dq K G v (.rtup [.str k.1,.str k.2])) : okP k:=by
  cases h with
  | rtup _ z=>
    cases z with
    | cons z1 z2=>
      cases z2 with
      | cons z2 _=>exact ⟨(bO z1).2,(bO z2).2⟩
theorem xf [Tb] {i : Nat} {σ' : V→St} {xs : List ((Str×Str)×β)} (he : EvP K te σ G M M1 e xs) (ok : Ok G M H) (hσ : ∀ v,σ.set i (some v) = σ' v) (k : ∀ p kvs G' H',Same G G'→Ok G' (upd M1 p (.dT kvs)) H'→M1 p = none→c9 K G' e kvs xs→u D (σ' (.ref p)) H') : tSeq (tAsg te (gName i)) u D σ H:=
  he G H (Same.refl _) ok _ fun p kvs G1 H1 s1 k1 hp hv=>by
    show u D (σ.set i (some (.ref p))) H1
    rw [hσ]
    exact k p kvs G1 H1 s1 k1 hp hv
end
end Kx
end
section
namespace Kx
open PySem L2
structure Sw (G G' : Hp) : Prop where
  lst : ∀ a xs,G a = some (.lst xs)→G' a = some (.lst xs)
  tup : ∀ a xs,G a = some (.tup xs)→G' a = some (.tup xs)
  ftup : ∀ a o xs,G a = some (.frz o (.tup xs))→G' a = some (.frz o (.tup xs))
  ins : ∀ a C dx fs,G a = some (.ins C dx fs)→G' a = some (.ins C dx fs)
  dK : ∀ a kvs,Rd G a (.dK kvs)→Rd G' a (.dK kvs)
  dT : ∀ a kvs,Rd G a (.dT kvs)→Rd G' a (.dT kvs)
  dN : ∀ a φ,Rd G a (.ext φ)→Rd G' a (.ext φ)
theorem uP {K : Fg} {G G' : Hp} (s : Sw G G') {p : Addr} {xs : List V} (a : ic K G p xs) : ic K G' p xs:=by
  rcases a with ⟨o,a,hd⟩ | a
  · exact .inl ⟨o,s.ftup _ _ _ a,hd⟩
  · exact .inr a
mutual
theorem xh {K : Fg} {G G' : Hp} (s : Sw G G') : ∀ (k : NestedKey) {v : V},NKq K G v k→NKq K G' v k
  | .none,_,h=>by cases h
  | .num i,_,h=>by cases h; exact .int i
  | .text x,_,h=>by
    cases h with
    | str h=>exact .str h
  | .tup ks,_,h=>by
    cases h with
    | tup a b=>exact .tup (uP s a) (ik s ks b)
theorem ik {K : Fg} {G G' : Hp} (s : Sw G G') : ∀ (ks : List NestedKey) {vs : List V},dh K G vs ks→dh K G' vs ks
  | [],_,h=>by cases h; exact .nil
  | k :: ks,_,h=>by
    cases h with
    | cons a b=>exact .cons (xh s k a) (ik s ks b)
end
section
variable {K : Fg} {G G' : Hp}
mutual
theorem wF (s : Sw G G') : ∀ (d : Dat) {v : V},Dq K G v d→Dq K G' v d
  | .none,_,h=>by cases h; exact .non
  | .bool b,_,h=>by cases h; exact .bl b
  | .int i,_,h=>by cases h; exact .int i
  | .str x,_,h=>by cases h with | str h=>exact .str h
  | .list ds,_,h=>by
    cases h with
    | lst a b=>exact .lst (s.lst _ _ a) (ci s ds b)
  | .tuple ds,_,h=>by
    cases h with
    | tup a b=>
      refine .tup ?_ (ci s ds b)
      rcases a with ⟨o,a,hd⟩ | a
      · exact .inl ⟨o,s.ftup _ _ _ a,hd⟩
      · exact .inr a
  | .rtup ds,_,h=>by
    cases h with
    | rtup a b=>exact .rtup (s.tup _ _ a) (ci s ds b)
  | .dK ks ds,_,h=>by
    cases h with
    | dK a b c d=>exact .dK (s.dK _ _ a) b c (ci s ds d)
  | .dT ks ds,_,h=>by
    cases h with
    | dT a b c d=>exact .dT (s.dT _ _ a) b c (ci s ds d)
  | .ins C ns ds,_,h=>by
    cases h with
    | ins a b c=>exact .ins (s.ins _ _ _ _ a) b (ci s ds c)
  | .dN w ks ds,_,h=>by
    cases h with
    | dN a b c d=>exact .dN (s.dN _ _ a) b (ik s _ c) (ci s ds d)
theorem ci (s : Sw G G') : ∀ (ds : List Dat) {vs : List V},ap K G vs ds→ap K G' vs ds
  | [],_,h=>by cases h; exact .nil
  | d :: ds,_,h=>by
    cases h with
    | cons a b=>exact .cons (wF s d a) (ci s ds b)
end
end
def gg (u : HO) : Prop:=(∃ kvs,u = .dK kvs)∨(∃ kvs,u = .dT kvs)∨∃ w a es,u = dnO w a es
theorem gg.mut {u : HO} (h : gg u) : Mut (some u):=by rcases h with ⟨_,rfl⟩ | ⟨_,rfl⟩ | ⟨_,_,_,rfl⟩ <;> exact trivial
theorem gg.nt {u : HO} (h : gg u) : Nt u:=by
  rcases h with ⟨_,rfl⟩ | ⟨_,rfl⟩ | ⟨w,a,es,rfl⟩
  · trivial
  · trivial
  · exact ⟨w,a,es,rfl⟩
theorem gg.no {u : HO} (h : gg u) : fo u:=h.nt.noTbl
theorem gg.dN {w : World} {a : Addr} {es : List (NestedKey×Addr×V)} : gg (dnO w a es):=.inr (.inr ⟨w,a,es,rfl⟩)
theorem v7 {G : Hp} {d : Addr} {u : HO} {o : Obj} (hu : gg u) (h : G d = some u) : Sw G (upd G d (.frz o u)):=by
  have ne : ∀ {a w},G a = some w→w ≠ u→a ≠ d:=fun e n z=>by subst z; rw [h] at e; exact n (Option.some.inj e).symm
  have keep : ∀ {a w},G a = some w→w ≠ u→(upd G d (.frz o u)) a = some w:=fun e n=>by rw [upd_ne (ne e n)]; exact e
  refine ⟨fun a xs e=>keep e ?_,fun a xs e=>keep e ?_,fun a o xs e=>keep e ?_,fun a C dx fs e=>keep e ?_,fun a kvs e=>?_,fun a kvs e=>?_,fun a φ e=>?_⟩
  · rcases hu with ⟨_,rfl⟩ | ⟨_,rfl⟩ | ⟨_,_,_,rfl⟩ <;> exact fun z=>nomatch z
  · rcases hu with ⟨_,rfl⟩ | ⟨_,rfl⟩ | ⟨_,_,_,rfl⟩ <;> exact fun z=>nomatch z
  · rcases hu with ⟨_,rfl⟩ | ⟨_,rfl⟩ | ⟨_,_,_,rfl⟩ <;> exact fun z=>nomatch z
  · rcases hu with ⟨_,rfl⟩ | ⟨_,rfl⟩ | ⟨_,_,_,rfl⟩ <;> exact fun z=>nomatch z
  · rcases e with e | ⟨o',e⟩
    · by_cases q : a = d
      · subst q
        rw [h] at e
        cases e
        exact .inr ⟨o,upd_same⟩
      · exact .inl (by rw [upd_ne q]; exact e)
    · exact .inr ⟨o',keep e (by rcases hu with ⟨_,rfl⟩ | ⟨_,rfl⟩ | ⟨_,_,_,rfl⟩ <;> exact fun z=>nomatch z)⟩
  · rcases e with e | ⟨o',e⟩
    · by_cases q : a = d
      · subst q
        rw [h] at e
        cases e
        exact .inr ⟨o,upd_same⟩
      · exact .inl (by rw [upd_ne q]; exact e)
    · exact .inr ⟨o',keep e (by rcases hu with ⟨_,rfl⟩ | ⟨_,rfl⟩ | ⟨_,_,_,rfl⟩ <;> exact fun z=>nomatch z)⟩
  · rcases e with e | ⟨o',e⟩
    · by_cases q : a = d
      · subst q
        rw [h] at e
        cases e
        exact .inr ⟨o,upd_same⟩
      · exact .inl (by rw [upd_ne q]; exact e)
    · exact .inr ⟨o',keep e (by rcases hu with ⟨_,rfl⟩ | ⟨_,rfl⟩ | ⟨_,_,_,rfl⟩ <;> exact fun z=>nomatch z)⟩
theorem pJ {G : Hp} {d : Addr} {u : HO} {o : Obj} (hu : gg u) (h : G d = some (.frz o u)) : Sw G (upd G d u):=by
  have ne : ∀ {a w},G a = some w→w ≠ .frz o u→a ≠ d:=fun e n z=>by subst z; rw [h] at e; exact n (Option.some.inj e).symm
  have keep : ∀ {a w},G a = some w→w ≠ .frz o u→(upd G d u) a = some w:=fun e n=>by rw [upd_ne (ne e n)]; exact e
  refine ⟨fun a xs e=>keep e (fun z=>nomatch z),fun a xs e=>keep e (fun z=>nomatch z),fun a o' xs e=>keep e ?_,fun a C dx fs e=>keep e (fun z=>nomatch z),fun a kvs e=>?_,fun a kvs e=>?_,fun a φ e=>?_⟩
  · rcases hu with ⟨_,rfl⟩ | ⟨_,rfl⟩ | ⟨_,_,_,rfl⟩ <;> (intro z; cases z)
  · rcases e with e | ⟨o',e⟩
    · exact .inl (keep e (fun z=>nomatch z))
    · by_cases q : a = d
      · subst q
        rw [h] at e
        cases e
        exact .inl upd_same
      · exact .inr ⟨o',by rw [upd_ne q]; exact e⟩
  · rcases e with e | ⟨o',e⟩
    · exact .inl (keep e (fun z=>nomatch z))
    · by_cases q : a = d
      · subst q
        rw [h] at e
        cases e
        exact .inl upd_same
      · exact .inr ⟨o',by rw [upd_ne q]; exact e⟩
  · rcases e with e | ⟨o',e⟩
    · exact .inl (keep e (fun z=>nomatch z))
    · by_cases q : a = d
      · subst q
        rw [h] at e
        cases e
        exact .inl upd_same
      · exact .inr ⟨o',by rw [upd_ne q]; exact e⟩
end Kx
end
section
namespace Kx
open PySem L2 PySem.Spec PyProof.Rows
section
variable {X : Cx} {pins : List (Addr×Obj)} {σ : L2.St} {H : Hp} {s : Shared} {d : Addr} {o : Obj}
theorem tP {kvs : List (List Key×V)} (I : Inv X pins σ H s) (h : H d = some (.frz o (.dT kvs))) :
    (d == sysModules) = false∧s.heap.get? d = some o∧o.ExactDict∧∃ (es : Array DictEntry) (ep : Nat),o.data = .dict es ep∧es.size = kvs.length∧
      ∀ (i : Nat) (k : List Key) (v : V),kvs[i]? = some (k,v)→∃ (en : DictEntry) (q : Addr),es[i]? = some en∧en.key = .ref q∧H q = some (.tup (k.map kV))∧RelV v en.val:=by
  obtain ⟨hd,z,hs,xs,pr,o',es,ep,ho,hx,hdt,he,_⟩:=I.hok d _ h
  rw [hd] at ho
  cases ho
  refine ⟨hs,hd,hx,es,ep,hdt,?_,fun i k v e=>?_⟩
  · have l1 : es.size = xs.length:=size_of_entries he
    have l2 : kvs.length = xs.length:=Paired.length pr
    omega
  · obtain ⟨b,hb,e1,e2,e3⟩:=paired_get pr e
    have q:=entry_at he i
    rw [hb] at q
    exact ⟨_,b.2.1,q,rfl,e2,e3⟩
end
def yO (d : Addr) (o : Obj) (kvs : List (List Key×V)) : It:=
  ⟨fun i H=>H d = some (.frz o (.dT kvs))∧i < kvs.length,fun i H x H'=>∃ T k v q,kvs[i]? = some (k,v)∧x = .ref T∧H T = none∧H q = some (.tup (k.map kV))∧H' = upd H T (.tup [.ref q,v]),fun i H=>H d = some (.frz o (.dT kvs))∧kvs.length ≤ i⟩
section
variable {P : Program} {w : World} {K : Fg} {tg : Expr} {d : Addr} {o : Obj} {es : Array DictEntry} {ep : Nat}
theorem lL {kvs : List (List Key×V)} {elts : List Expr} {kk : Nat} {tpos : Pos} (it : Addr) (hod : o.data = .dict es ep) :
    Turn P w K (.Tuple elts kk tpos) (yO d o kvs) [it] it (fun i h=>∃ ok ov,IsItemIter h it d i kvs.length ep ok ov) where
  mem:=by simp
  obj:=fun i h st b hb=>by
    have e : b = it:=by simpa using hb
    subst e
    obtain ⟨ok,ov,e⟩:=st
    exact ⟨_,e,fun v z=>nomatch z⟩
  keep:=fun i h h' st k=>let ⟨ok,ov,e⟩:=st; ⟨ok,ov,k it (by simp) _ e⟩
  item:=by
    intro X hP hw hK hc i pins s σ H E I hf st hg
    subst hP hw hK
    obtain ⟨hd,hi⟩:=hg
    obtain ⟨hs,hgd,hx,es',ep',hdt,hsz,hen⟩:=tP I hd
    obtain ⟨rfl,rfl⟩:=dict_ep hod hdt
    obtain ⟨⟨k,v⟩,hkv⟩ : ∃ p,kvs[i]? = some p:=⟨kvs[i],List.getElem?_eq_getElem hi⟩
    obtain ⟨en,q,he1,he2,he3,he4⟩:=hen i k v hkv
    obtain ⟨ok,ov,he⟩:=st
    have hlt : it < s.heap.objs.size:=Heap.lt_size he
    have hie : i < es'.size:=by omega
    have een : es'[i] = en:=by
      rw [Array.getElem?_eq_getElem hie] at he1
      exact Option.some.inj he1
    rw [← hsz] at he
    refine wpAny_pyNext_items_item_raw he ⟨o,hgd,hx,hdt⟩ hie fun h' ho hT hz hk=>?_
    refine ⟨_,rfl,wpAny_letOwnedTupleGo_items (s:={ s with heap:=h' }) ho fun h'' he' sb=>?_⟩
    have hT2 : h''.get? s.heap.objs.size = some { cls:=.type "tuple",data:=.seq #[es'[i].key,es'[i].val] }:=(sb.2 _ (Nat.ne_of_gt hlt)).trans hT
    rw [een,he2] at hT2
    have new : ObjOk X.prog X.w (upd H s.heap.objs.size (.tup [.ref q,v])) h'' s.heap.objs.size (.tup [.ref q,v]):=
      ⟨by show 2 ≤ sizeLine; decide,[.ref q,en.val],.cons rfl (.cons he4 .nil),⟨_,hT2,rfl,_,rfl⟩⟩
    have I1 : Inv X pins σ (upd H s.heap.objs.size (.tup [.ref q,v])) { s with heap:=h'' }:=
      I.turnedNew (t':=s.toks) (ch:=[it]) (fun b ob hb e=>(sb.2 b (by simpa using hb)).trans (hk b ob (by simpa using hb) e)) hf (Nat.le_refl _) new
    refine ⟨.ref s.heap.objs.size,_,I1,rfl,⟨_,k,v,q,hkv,rfl,I.hok.fresh (Nat.le_refl _),he3,rfl⟩,⟨es'[i].key,es'[i].val,?_⟩,fun b hb=>?_⟩
    · rw [← hsz]; exact he'
    · have e : b = it:=by simpa using hb
      rw [e,upd_ne (Nat.ne_of_lt hlt)]
      exact (hf it (by simp)).1
  done:=by
    intro X hP hw hK hc i pins s σ H E I hf st hg
    subst hP hw hK
    obtain ⟨hd,hi⟩:=hg
    obtain ⟨f0,f1,f2,f3,f4,f5⟩:=hf it (by simp)
    obtain ⟨hs,hgd,hx,es',ep',hdt,hsz,hen⟩:=tP I hd
    obtain ⟨rfl,rfl⟩:=dict_ep hod hdt
    obtain ⟨ok,ov,he⟩:=st
    rw [← hsz] at he
    exact wpAny_pyNext_items_end_raw (I.ok.hd hc) he ⟨o,hgd,hx,hdt⟩ (by omega) fun h' eb=>⟨rfl,I.turned (t':=s.toks) (fun b ob hb e=>eb b ob hb e) f0 f1 f3 f4 f5⟩
  self:=fun A i s Q E st h=>let ⟨_,_,e⟩:=st; PySem.W.kcp_self e h
end
def oF (td : TE) : TI:=fun σ H R=>td σ H fun x H1=>∃ d o kvs,x = .ref d∧H1 d = some (.frz o (.dT kvs))∧R (yO d o kvs) H1
section
variable {X : Cx} {e : Expr} {td : TE} {apos cpos : Pos}
theorem qb {elts : List Expr} {kk : Nat} {tpos : Pos} (he : PE X e td) (hbase : attributeBase e "items" X.env (eval e X.env) = eval e X.env:=by rfl) (hline : (apos.endLine == cpos.line) = true:=by rfl) :
    PI X (.Tuple elts kk tpos) (.Call (.Attribute e "items" apos) [] [] cpos) (oF td):=by
  refine ⟨fun pins s σ H R I h=>?_⟩
  refine wpAny_Call_method (T:="dict") (id:="dict.items") hbase rfl hline PySem.F.plainAttrs_dict PySem.F.slot_dict_items PySem.F.type_dict_items (thn (he.run pins s σ H _ I h) fun u s1 ⟨x,H1,I1,rx,d,o,kvs,ex,hd,q⟩=>?_)
  subst ex
  obtain rfl : u = Value.ref d:=rx
  obtain ⟨hs,hgd,hx,es,ep,hdt,hsz,hen⟩:=tP I1 hd
  have hr : s1.heap.DictRaw d es ep:=⟨o,hgd,hx,hdt⟩
  refine ⟨hr.typeIs,fun b q=>by cases q; exact ⟨o,hgd,hx.2.1⟩,?_⟩
  have I2 : Inv X pins σ H1 { s1 with heap:=s1.heap.push { cls:=.type "dict_items",data:=.fields #[.ref d] } }:=I1.kept (t':=s1.toks) fun b ob q=>Heap.get?_push_of_some _ q
  have fin : wpAny (model X.prog X.w) X.A (pyIter (.ref s1.heap.objs.size)) (PIE X pins σ (.Tuple elts kk tpos) R) X.xe { s1 with heap:=s1.heap.push { cls:=.type "dict_items",data:=.fields #[.ref d] } }:=by
    refine wpAny_pyIter_items_raw (d:=d) ⟨_,Heap.get?_push_size _ rfl,rfl,rfl⟩ (hr.at fun ob q=>Heap.get?_push_of_some _ q) (pi_one (tk:=s1.toks) I2 _ (lL _ hdt) ⟨.none,.none,?_⟩ q)
    rw [← hsz]
    exact Heap.get?_push_size _ rfl
  show wpAny _ _ (callWith cpos (.builtin "dict.items") [.ref d] [] []) _ X.xe s1
  exact method_meetsIn PySem.F.slot_dict_items PySem.F.entry_dict_items rfl (PySem.evalArgs_none ⟨rfl,hr.typeIs,PySem.F.args_dict_items_1 _,_,meets_dict_items_raw d hs,⟨es,ep,hr⟩,fin⟩)
end
end Kx
end
section
namespace Kx
open PySem L2
section
variable {β : Type} {K : Fg} {σ σ' : St} {G G' M M1 M2 M3 : Hp} {ta tb te tc tk tv : TE} {e : β→Dat}
theorem aY.at' {α κ : Type} {f : α→κ} {kvs : List (κ×V)} {xs : List (α×β)} (h : aY K G f e kvs xs) : ∀ {i : Nat} {x : α×β} {p : κ×V},xs[i]? = some x→kvs[i]? = some p→p.1 = f x.1∧Dq K G p.2 (e x.2):=by
  induction h with
  | nil=>intro i x p hx; simp at hx
  | @cons k v b kvs xs a _ ih=>
    intro i x p hx hp
    cases i with
    | zero=>
      simp at hx hp
      subst hx; subst hp
      exact ⟨rfl,a⟩
    | succ i=>exact ih (by simpa using hx) (by simpa using hp)
theorem mi {d : Addr} {o : Obj} {kvs : List (List Key×V)} : Walk (yO d o kvs) kvs.length (fun H=>H d = some (.frz o (.dT kvs))) (fun i H x H'=>∃ T k v q,kvs[i]? = some (k,v)∧x = .ref T∧H T = none∧H q = some (.tup (k.map kV))∧H' = upd H T (.tup [.ref q,v])):=
  ⟨fun _ _ hi q=>⟨q,hi⟩,fun _ q=>⟨q,Nat.le_refl _⟩,fun _ _ _ _ _ _ y=>y⟩
theorem nE [Tb] {d : Addr} {o : Obj} {kvs : List (List Key×V)} {xs : List ((Str×Str)×β)} (hd : G d = some (.frz o (.dT kvs))) (r : aY K G kP e kvs xs) (ok : ∀ x ∈ xs,okP x.1) (he : Ev te σ G M M1 (OW d)) : Src K (oF te) σ G M M1 (xs.map (eR2 (eR2 Dat.str Dat.str) e)):=fun G0 H s k R q=>
  he G0 H s k _ fun x G1 H1 s1 k1 hx=>by
    cases hx
    have s01:=s.trans s1
    refine ⟨d,o,kvs,rfl,k1.g _ _ (s01 _ _ hd),q _ G1 H1 s1 k1 ?_⟩
    refine ⟨_,_,(show (xs.map (eR2 (eR2 Dat.str Dat.str) e)).length = kvs.length by rw [List.length_map,r.len]) ▸ mi,fun H2 s2=>s2 _ _ (s01 _ _ hd),fun i x H2 v H3 G2 M2 hi s2 k2 y=>?_⟩
    obtain ⟨T,ks,w,q,hk,rfl,hT,hq,rfl⟩:=y
    rw [List.getElem?_map] at hi
    obtain ⟨y,hy,rfl⟩:=Option.map_eq_some_iff.mp hi
    obtain ⟨e1,e2⟩:=r.at' hy hk
    have ek : ks = kP y.1:=e1
    subst ek
    have hMq : M2 q = none:=by
      cases e : M2 q with
      | none=>rfl
      | some w'=>
        have h1:=k2.m _ _ e
        rw [hq] at h1
        cases h1
        exact (k2.mu _ _ e).elim
    have nq : q ≠ T:=ne_of_none hq hT
    have okq:=ok y (List.mem_of_getElem? hy)
    have kq : Ok (upd G2 q (.tup ((kP y.1).map kV))) M2 H2:=by
      refine ⟨fun a u e=>?_,k2.m,fun a u e=>?_,k2.mu,vY k2.tb trivial⟩
      · by_cases ha : a = q
        · subst ha; rw [upd_same] at e; rw [hq]; exact e
        · rw [upd_ne ha] at e; exact k2.g a u e
      · have ha : a ≠ q:=fun z=>by subst z; rw [hMq] at e; cases e
        rw [upd_ne ha]; exact k2.d a u e
    have s23 : Same G2 (upd G2 q (.tup ((kP y.1).map kV))):=fun a u e=>by
      by_cases ha : a = q
      · subst ha
        rw [upd_same]
        have:=k2.g _ _ e
        rw [hq] at this
        exact this
      · rw [upd_ne ha]; exact e
    have gT : (upd G2 q (.tup ((kP y.1).map kV))) T = none:=Same.none kq.g hT
    have s34 : Same (upd G2 q (.tup ((kP y.1).map kV))) (upd (upd G2 q (.tup ((kP y.1).map kV))) T (.tup [.ref q,w])):=Same.new gT
    refine ⟨_,s23.trans s34,kq.newG _ hT,.rtup upd_same (.cons ?_ (.cons (aa ((s01.trans s2).trans (s23.trans s34)) _ e2) .nil))⟩
    exact .rtup (xs:=[.str y.1.1,.str y.1.2]) (by rw [upd_ne nq,upd_same]; rfl) (.cons (.str okq.1) (.cons (.str okq.2) .nil))
end
end Kx
end
section
namespace Kx
open PySem L2 PySem.Spec PyProof.Rows
structure qB (P : Program) (w : World) (K : Fg) (mg : Str→Option Value) (base : Heap) (CX : CXT) (k : Nat) (f : Addr) (fd : FuncData) (ps : List Str) (sp : Sp) : Prop where
  len : ∀ vs H Q E,sp vs H Q E→vs.length = ps.length
  run : ∀ (A : Around) (out : List Env) (s : Shared) (H : Hp) (ar : Args) (us : List Value) (vs : List V) (Q : VK) (E : XK),A.guards = some []→Room k A→Env0 P w K mg base A out s H→BindsTo s fd ar (ps.zip us)→Vals vs us→
    sp vs H Q E→codeAny (model P w) A (.call (.ref f) ar) (CR CX out P w H s Q E) s
section
variable {P : Program} {w : World} {K : Fg} {mg : Str→Option Value} {base : Heap} {CX : CXT} {k : Nat} {f : Addr} {fd : FuncData} {ps : List Str} {sp : Sp}
theorem fnG (F : FnOk P w K mg base CX k f fd ps sp) : qB P w K mg base CX k f fd ps sp:=⟨F.len,fun A out s H ar us vs Q E _=>F.run A out s H ar us vs Q E⟩
end
end Kx
end
section
namespace Kx
open PySem L2 PySem.Spec PyProof.Rows
end Kx
end
section
namespace Kx
open PySem L2
end Kx
end
section
namespace Kx
open PySem L2 PySem.Spec PyProof.Rows
theorem AB [Tb] {G M H : Hp} {p : Addr} {o : HO} {C : Prop} (ok : Ok G M H) (hp : M p = some o) (k : ∀ G' M',Same G G'→G' p = some o→(∀ a,a ≠ p→M' a = M a)→Ok G' M' H→C) : C:=by
  have gp : G p = none:=ok.d p o hp
  refine k (upd G p o) (fun a=>if a = p then none else M a) (Same.new gp) upd_same (fun a ha=>if_neg ha) ⟨fun a u e=>?_,fun a u e=>?_,fun a u e=>?_,fun a u e=>?_,vY ok.tb (ok.mu p o hp).nt.noTbl⟩
  · by_cases ha : a = p
    · subst ha; rw [upd_same] at e; cases e; exact ok.m _ _ hp
    · rw [upd_ne ha] at e; exact ok.g a u e
  · by_cases ha : a = p
    · have z:=(if_pos ha).symm.trans e; cases z
    · exact ok.m a u ((if_neg ha).symm.trans e)
  · by_cases ha : a = p
    · have z:=(if_pos ha).symm.trans e; cases z
    · rw [upd_ne ha]; exact ok.d a u ((if_neg ha).symm.trans e)
  · by_cases ha : a = p
    · have z:=(if_pos ha).symm.trans e; cases z
    · exact ok.mu a u ((if_neg ha).symm.trans e)
theorem xC {M0 M M' : Hp} {p : Addr} (hM : ∀ a,a ≠ p→M' a = M a) (h0 : M0 p = none) (hB : Same M0 M) : Same M0 M':=fun a u e=>(hM a (ne_of_none e h0)).trans (hB a u e)
end Kx
end
section
namespace Kx
open PySem L2
theorem vI [Tb] {G M H : Hp} {d : Addr} {u0 : HO} (od : Obj) (hG : G d = some u0) (hu : gg u0) (ok : Ok G M H) : Ok (upd G d (.frz od u0)) M (upd H d (.frz od u0)):=by
  have hM : M d = none:=by
    cases e : M d with
    | none=>rfl
    | some w=>have:=ok.d d w e; rw [hG] at this; cases this
  refine ⟨fun a w e=>?_,fun a w e=>?_,fun a w e=>?_,ok.mu,qL ok.tb (ok.g _ _ hG) hu.nt trivial⟩
  · by_cases q : a = d
    · subst q; rw [upd_same] at e ⊢; exact e
    · rw [upd_ne q] at e ⊢; exact ok.g a w e
  · have q : a ≠ d:=fun z=>by subst z; rw [hM] at e; cases e
    rw [upd_ne q]; exact ok.m a w e
  · have q : a ≠ d:=fun z=>by subst z; rw [hM] at e; cases e
    rw [upd_ne q]; exact ok.d a w e
theorem pN [Tb] {G G' M' H' : Hp} {d : Addr} {u0 : HO} {od : Obj} (hu : gg u0) (hG : G d = some u0) (s : Same (upd G d (.frz od u0)) G') (o : Ok G' M' H') : H' d = some (.frz od u0)∧Sw G' (upd G' d u0)∧Same G (upd G' d u0)∧Ok (upd G' d u0) M' (upd H' d u0):=by
  have gd : G' d = some (.frz od u0):=s d _ upd_same
  refine ⟨o.g _ _ gd,pJ hu gd,fun a w e=>?_,fun a w e=>?_,fun a w e=>?_,fun a w e=>?_,o.mu,qL o.tb (o.g _ _ gd) trivial hu.no⟩
  · by_cases q : a = d
    · subst q; rw [upd_same]; rw [hG] at e; exact e
    · rw [upd_ne q]; exact s a w (by rw [upd_ne q]; exact e)
  · by_cases q : a = d
    · subst q; rw [upd_same] at e ⊢; exact e
    · rw [upd_ne q] at e ⊢; exact o.g a w e
  · have q : a ≠ d:=fun z=>by subst z; have:=o.d a w e; rw [gd] at this; cases this
    rw [upd_ne q]; exact o.m a w e
  · have q : a ≠ d:=fun z=>by subst z; have:=o.d a w e; rw [gd] at this; cases this
    rw [upd_ne q]; exact o.d a w e
section
variable {α β ρ : Type} {K : Fg} {σ σ' : St} {G G' M M1 M2 M3 : Hp} {ta tb te tc tk tv : TE} {P P1 P2 : VP} {d : Dat} {ds es : List Dat} {D : Ends} {H : Hp} {u : TS} {e : β→Dat}
theorem jy {G0 : Hp} {a : Addr} {w : HO} (s : Same G G0) : Same (upd G a w) (upd G0 a w):=fun b x h=>by
  by_cases q : b = a
  · subst q; rw [upd_same] at h ⊢; exact h
  · rw [upd_ne q] at h ⊢; exact s b x h
theorem vd [Tb] {a : Addr} {u0 : HO} (hG : G a = some u0) (hu : gg u0) (h : ∀ od,EvL K te σ (upd G a (.frz od u0)) M M1 ds) : EvL K (tLockE te) σ G M M1 ds:=fun G0 H s ok Q q=>by
  have h0:=s _ _ hG
  refine ⟨a,u0,ok.g _ _ h0,hu.mut,fun od=>?_⟩
  refine h od _ _ (jy s) (vI od h0 hu ok) _ fun p vs G1 H1 s1 k1 hp hd=>?_
  obtain ⟨b1,b2,b3,b4⟩:=pN hu h0 s1 k1
  exact ⟨b1,q p vs _ _ b3 b4 hp (ci b2 _ hd)⟩
theorem aY.sw {α κ : Type} {f : α→κ} {kvs : List (κ×V)} {xs : List (α×β)} (s : Sw G G') (h : aY K G f e kvs xs) : aY K G' f e kvs xs:=by
  induction h with
  | nil=>exact .nil
  | cons a _ ih=>exact .cons (wF s _ a) ih
end
end Kx
end
section
namespace Kx
open PySem L2
end Kx
end
section
namespace Kx
open PySem L2
end Kx
end
section
namespace Kx
open PySem L2
end Kx
end
section
namespace Kx
open PySem L2 PySem.Spec PyProof.Rows
structure vz (z TI TO i1 i2 i3 i4 : Addr) (fp1 fp2 fp3 fp4 : List Addr) : Prop where
  iz : TI ≠ z
  oz : TO ≠ z
  io : TI ≠ TO
  ii1 : TI ≠ i1
  m1 : i1 ∈ fp1
  z1 : z ∉ fp1
  o1 : TO ∉ fp1
  ii2 : TI ≠ i2
  m2 : i2 ∈ fp2
  z2 : z ∉ fp2
  o2 : TO ∉ fp2
  ii3 : TI ≠ i3
  m3 : i3 ∈ fp3
  z3 : z ∉ fp3
  o3 : TO ∉ fp3
  ii4 : TI ≠ i4
  m4 : i4 ∈ fp4
  z4 : z ∉ fp4
  o4 : TO ∉ fp4
  s1_2 : i1 ∉ fp2
  s1_3 : i1 ∉ fp3
  s1_4 : i1 ∉ fp4
  s2_1 : i2 ∉ fp1
  s2_3 : i2 ∉ fp3
  s2_4 : i2 ∉ fp4
  s3_1 : i3 ∉ fp1
  s3_2 : i3 ∉ fp2
  s3_4 : i3 ∉ fp4
  s4_1 : i4 ∉ fp1
  s4_2 : i4 ∉ fp2
  s4_3 : i4 ∉ fp3
section
variable {prog : Program} {w : World} {A : Around} {E : Value→Shared→Prop} {s : Shared} {z TI TO i1 i2 i3 i4 : Addr} {fp1 fp2 fp3 fp4 : List Addr} {n1 n2 n3 n4 k : Nat} {P1 P2 P3 P4 : Nat→Value→Prop} {S1 S2 S3 S4 : Nat→Heap→Prop} {a1 a2 a3 a4 : Value}
theorem vz.zi1 (D : vz z TI TO i1 i2 i3 i4 fp1 fp2 fp3 fp4) : z ≠ i1:=fun e=>D.z1 (e ▸ D.m1)
theorem vz.zi2 (D : vz z TI TO i1 i2 i3 i4 fp1 fp2 fp3 fp4) : z ≠ i2:=fun e=>D.z2 (e ▸ D.m2)
end
end Kx
end
section
namespace Kx
open PySem L2
end Kx
end
section
namespace Kx
open PySem L2
section
variable {α : Type} [DecidableEq α] {K : Fg} {σ : L2.St} {G M M1 M2 H : Hp} {ta tb te : TE} {e : α→Dat} {n : Nat} {d1 d2 d : Dat} {ds es : List Dat}
def lF (x : α) : List α→Option Nat
  | []=>none
  | y :: ys=>if y = x then some 0 else (lF x ys).map (· + 1)
theorem gQ {x : α} : ∀ {xs : List α} {j : Nat},lF x xs = some j→xs[j]? = some x∧∀ m,m < j→xs[m]? ≠ some x
  | [],_,h=>by cases h
  | y :: ys,j,h=>by
    unfold lF at h
    by_cases e : y = x
    · rw [if_pos e] at h
      cases h
      exact ⟨by simp [e],fun m hm=>absurd hm (Nat.not_lt_zero _)⟩
    · rw [if_neg e] at h
      obtain ⟨i,hi,rfl⟩:=Option.map_eq_some_iff.mp h
      obtain ⟨h1,h2⟩:=gQ hi
      refine ⟨by simpa using h1,fun m hm=>?_⟩
      cases m with
      | zero=>simpa using e
      | succ m=>simpa using h2 m (by omega)
theorem gV {X : Cx} (hu : X.A.units + 65 < cLine) (h : X.K = K:=by rfl) : MtR X "list.index" (rIndexD K):=h ▸ mt_indexD hu
theorem jj [Tb] {x : α} {xs : List α} {j : Nat} (hj : lF x xs = some j) (h : EqE e n) (hn : n ≤ 62) (ho : Ev ta σ G M M1 (DD K (eL e xs))) (ha : EvA (tCons tb tNil) σ G M1 M2 (ak (DD K (e x)) az)) : Ev (tBM K "list" (rIndexD K) ta (tCons tb tNil)) σ G M M2 (DD K (.int (j : Int))):=fun G0 H s k Q q=>
  ho G0 H s k _ fun v G1 H1 s1 k1 hx=>by
    have hx0:=hx
    cases hx with
    | @lst a vs _ hl hd=>
      refine ⟨.inl ⟨rfl,_,.inl (.inl (k1.g _ _ hl))⟩,ha G1 H1 (s.trans s1) k1 _ fun ws G2 H2 s2 k2 hv=>?_⟩
      obtain ⟨y,rfl,hw⟩:=one_of (R:=az) hv
      obtain ⟨i1,i2⟩:=gQ hj
      have e0 : toPy (eL e xs) = .list (xs.map fun z=>toPy (e z)):=by
        show toPy (.list (xs.map e)) = _
        rw [eQ,List.map_map]
        rfl
      have hdp:=dX _ ((kY h).pur xs) (aa (s2.trans k2.g) _ hx0)
      have hsh:=eA (n:=0) ((kY h).pur xs) (Nat.le_trans ((kY h).dep xs) (by omega)) hx0
      rw [e0] at hdp hsh
      refine ⟨a,y,toPy (e x),xs.map fun z=>toPy (e z),j,toPy (e x),rfl,rfl,hdp,dX _ (h.pur x) (aa k2.g _ hw),hsh,eA (n:=0) (h.pur x) (Nat.le_trans (h.dep x) (by omega)) hw,by rw [List.getElem?_map,i1]; rfl,by rw [h.eqv]; exact decide_eq_true rfl,fun m z hm hz=>?_,q _ G2 H2 (s1.trans s2) k2 (.int _)⟩
      rw [List.getElem?_map] at hz
      obtain ⟨z',hz',rfl⟩:=Option.map_eq_some_iff.mp hz
      rw [h.eqv]
      exact decide_eq_false fun q=>i2 m hm (by rw [hz',q])
end
end Kx
end
section
namespace Kx
open PySem L2 PySem.Spec PyProof.Rows PySem.W
end Kx
end
section
namespace Kx
open PySem L2 PySem.Spec PyProof.Rows
section
variable {prog : Program} {w : World} {A : Around} {E : Value→Shared→Prop} {s : Shared}
theorem uQ {x y : Str} {t u : Tok} {Q : Value→Shared→Prop} (h : Q (.bool (x.cps.toList < y.cps.toList)) s) : wpAny (model prog w) A (richCompare .Lt (.str x t) (.str y u)) Q E s:=PyProof.Rows.lt_str (prog:=prog) (w:=w) (A:=A) (E:=E) h
def gG (a b : Str) : Nat→Str
  | 0=>a
  | _=>b
theorem kJ {x y : Value} {i : Nat} {v : Value} (h : (#[x,y] : Array Value)[i]? = some v) : (i = 0∧v = x)∨(i = 1∧v = y):=by
  match i,h with
  | 0,h=>exact .inl ⟨rfl,by simpa using h.symm⟩
  | 1,h=>exact .inr ⟨rfl,by simpa using h.symm⟩
  | i + 2,h=>simp at h
theorem j8 {a b : Str} {t u : Tok} {Q : Value→Shared→Prop} (hh : A.handled = none)
    (h : ∀ h' tk,(∀ c o,s.heap.get? c = some o→h'.get? c = some o)→Q (if sLt b a = true then .str b u else .str a t) { s with heap:=h',toks:=tk }) :
    wpAny (model prog w) A (call (.builtin "min") [.str a t,.str b u]) Q E s:=by
  have hT : (s.heap.push { cls:=.type "tuple",data:=.seq #[.str a t,.str b u] }).IsTuple s.heap.objs.size #[.str a t,.str b u]:=⟨_,Heap.get?_push_size _ rfl,rfl,0,rfl⟩
  refine call_min_two (wpAny_pyIter_tuple hT ?_)
  have hsz : (s.heap.push { cls:=.type "tuple",data:=.seq #[.str a t,.str b u] }).objs.size = s.heap.objs.size + 1:=Heap.size_push ..
  have cmp : CmpOf prog w A.in1 .Lt (fun i v=>(#[Value.str a t,.str b u] : Array Value)[i]? = some v) (fun i j=>sLt (gG a b i) (gG a b j)):=fun i j vi vj s Q E hi hj h=>by
    rcases kJ hi with ⟨rfl,rfl⟩ | ⟨rfl,rfl⟩ <;> rcases kJ hj with ⟨rfl,rfl⟩ | ⟨rfl,rfl⟩ <;> exact uQ h
  refine ⟨_,[_,s.heap.objs.size],[_],_,_,_,_,rfl,Walks.tuple (A:=A.in1) hh _ s.heap.objs.size (by rw [hsz]; exact Nat.ne_of_lt (Nat.lt_succ_self _)) #[.str a t,.str b u],
    ⟨⟨_,Heap.get?_push_size _ rfl,rfl,rfl⟩,hT.push _⟩,fun c hc=>?_,by simp,cmp,fun v h' tk hP hk=>?_⟩
  · show c < ((s.heap.push _).push _).objs.size
    rw [Heap.size_push,hsz]
    rcases List.mem_cons.mp hc with rfl | hc
    · rw [hsz]; exact Nat.lt_succ_self _
    · rcases List.mem_cons.mp hc with rfl | hc
      · exact Nat.lt_succ_of_lt (Nat.lt_succ_self _)
      · cases hc
  · have hold : ∀ c o,s.heap.get? c = some o→h'.get? c = some o:=fun c o e=>by
      refine hk c o (fun hm=>?_) (Heap.get?_push_of_some _ (Heap.get?_push_of_some _ e))
      rcases List.mem_cons.mp hm with e1 | hm
      · have:=Heap.lt_size e; rw [e1,hsz] at this; exact Nat.lt_irrefl _ (Nat.lt_of_succ_lt this)
      · cases hm
    have:=h h' tk hold
    have hP' : (#[Value.str a t,.str b u] : Array Value)[argBest (fun i j=>sLt (gG a b i) (gG a b j)) 1]? = some v:=hP
    have e : argBest (fun i j=>sLt (gG a b i) (gG a b j)) 1 = if sLt b a = true then 1 else 0:=rfl
    rw [e] at hP'
    have hv : v = if sLt b a = true then Value.str b u else Value.str a t:=by
      cases q : sLt b a with
      | true=>rw [q] at hP'; simpa using hP'.symm
      | false=>rw [q] at hP'; simpa using hP'.symm
    rw [hv]; exact this
theorem j5 {a b : Str} {t u : Tok} {Q : Value→Shared→Prop} (hh : A.handled = none)
    (h : ∀ h' tk,(∀ c o,s.heap.get? c = some o→h'.get? c = some o)→Q (if sLt a b = true then .str b u else .str a t) { s with heap:=h',toks:=tk }) :
    wpAny (model prog w) A (call (.builtin "max") [.str a t,.str b u]) Q E s:=by
  have hT : (s.heap.push { cls:=.type "tuple",data:=.seq #[.str a t,.str b u] }).IsTuple s.heap.objs.size #[.str a t,.str b u]:=⟨_,Heap.get?_push_size _ rfl,rfl,0,rfl⟩
  refine call_max_two (wpAny_pyIter_tuple hT ?_)
  have hsz : (s.heap.push { cls:=.type "tuple",data:=.seq #[.str a t,.str b u] }).objs.size = s.heap.objs.size + 1:=Heap.size_push ..
  have cmp : CmpOf prog w A.in1 .Gt (fun i v=>(#[Value.str a t,.str b u] : Array Value)[i]? = some v) (fun i j=>sLt (gG a b j) (gG a b i)):=fun i j vi vj s Q E hi hj h=>by
    rcases kJ hi with ⟨rfl,rfl⟩ | ⟨rfl,rfl⟩ <;> rcases kJ hj with ⟨rfl,rfl⟩ | ⟨rfl,rfl⟩ <;> exact richCompare_gives (op:=.Gt) (typeIs_str s _ _) (typeIs_str s _ _) F.slot_str_gt F.entry_str_gt (F.args_str_gt_2 _ _) (gives_str_gt _ _ _ _) (fun e=>nomatch e) h
  refine ⟨_,[_,s.heap.objs.size],[_],_,_,_,_,rfl,Walks.tuple (A:=A.in1) hh _ s.heap.objs.size (by rw [hsz]; exact Nat.ne_of_lt (Nat.lt_succ_self _)) #[.str a t,.str b u],
    ⟨⟨_,Heap.get?_push_size _ rfl,rfl,rfl⟩,hT.push _⟩,fun c hc=>?_,by simp,cmp,fun v h' tk hP hk=>?_⟩
  · show c < ((s.heap.push _).push _).objs.size
    rw [Heap.size_push,hsz]
    rcases List.mem_cons.mp hc with rfl | hc
    · rw [hsz]; exact Nat.lt_succ_self _
    · rcases List.mem_cons.mp hc with rfl | hc
      · exact Nat.lt_succ_of_lt (Nat.lt_succ_self _)
      · cases hc
  · have hold : ∀ c o,s.heap.get? c = some o→h'.get? c = some o:=fun c o e=>by
      refine hk c o (fun hm=>?_) (Heap.get?_push_of_some _ (Heap.get?_push_of_some _ e))
      rcases List.mem_cons.mp hm with e1 | hm
      · have:=Heap.lt_size e; rw [e1,hsz] at this; exact Nat.lt_irrefl _ (Nat.lt_of_succ_lt this)
      · cases hm
    have:=h h' tk hold
    have hP' : (#[Value.str a t,.str b u] : Array Value)[argBest (fun i j=>sLt (gG a b j) (gG a b i)) 1]? = some v:=hP
    have e : argBest (fun i j=>sLt (gG a b j) (gG a b i)) 1 = if sLt a b = true then 1 else 0:=rfl
    rw [e] at hP'
    have hv : v = if sLt a b = true then Value.str b u else Value.str a t:=by
      cases q : sLt a b with
      | true=>rw [q] at hP'; simpa using hP'.symm
      | false=>rw [q] at hP'; simpa using hP'.symm
    rw [hv]; exact this
end
def iS (a b : Str) : Str:=if sLt b a = true then b else a
def iX (a b : Str) : Str:=if sLt a b = true then b else a
def wk : List V→Hp→VK→Prop:=fun xs H Q=>∃ a b,xs = [V.str a,.str b]∧Q (.str (iS a b)) H
def wX : List V→Hp→VK→Prop:=fun xs H Q=>∃ a b,xs = [V.str a,.str b]∧Q (.str (iX a b)) H
section
variable {X : Cx}
theorem wd (hc : X.calm = true) : CallR X (.builtin "min") wk:=by
  intro pins s σ H xs us Q I r h
  obtain ⟨i,j,rfl,q⟩:=h
  obtain ⟨u,w',rfl,⟨t,rfl⟩,⟨t',rfl⟩⟩:=vals2 r
  refine j8 (I.ok.hd hc) fun h' tk k=>⟨_,H,I.kept k,?_,q⟩
  unfold iS
  cases e : sLt j i with
  | true=>exact ⟨_,rfl⟩
  | false=>exact ⟨_,rfl⟩
theorem uV (hc : X.calm = true) : CallR X (.builtin "max") wX:=by
  intro pins s σ H xs us Q I r h
  obtain ⟨i,j,rfl,q⟩:=h
  obtain ⟨u,w',rfl,⟨t,rfl⟩,⟨t',rfl⟩⟩:=vals2 r
  refine j5 (I.ok.hd hc) fun h' tk k=>⟨_,H,I.kept k,?_,q⟩
  unfold iX
  cases e : sLt i j with
  | true=>exact ⟨_,rfl⟩
  | false=>exact ⟨_,rfl⟩
end
section
variable {β : Type} {K : Fg} {σ σ' : L2.St} {G G' M M1 M2 M3 H : Hp} {ta tb te tc tk tv : TE} {e : β→Dat} {ds es : List Dat}
theorem vL [Tb] {i j : Str} (ha : EvA (tCons ta (tCons tb tNil)) σ G M M1 (ak (DD K (.str i)) (ak (DD K (.str j)) az))) : Ev (tCB wk (tCons ta (tCons tb tNil))) σ G M M1 (DD K (.str (iS i j))):=ev_cb ha fun vs G0 H s k hx Q q=>by
  obtain ⟨v,w,rfl,h1,h2⟩:=dB hx
  cases h1 with | str o1=>
  cases h2 with | str o2=>
  refine ⟨i,j,rfl,q _ G0 H (Same.refl _) k ?_⟩
  unfold iS
  split
  · exact .str o2
  · exact .str o1
theorem vK [Tb] {i j : Str} (ha : EvA (tCons ta (tCons tb tNil)) σ G M M1 (ak (DD K (.str i)) (ak (DD K (.str j)) az))) : Ev (tCB wX (tCons ta (tCons tb tNil))) σ G M M1 (DD K (.str (iX i j))):=ev_cb ha fun vs G0 H s k hx Q q=>by
  obtain ⟨v,w,rfl,h1,h2⟩:=dB hx
  cases h1 with | str o1=>
  cases h2 with | str o2=>
  refine ⟨i,j,rfl,q _ G0 H (Same.refl _) k ?_⟩
  unfold iX
  split
  · exact .str o2
  · exact .str o1
theorem sy [Tb] {xs ys : List ((Str×Str)×β)} (hy : fq xs = some ys) (ha : EvA (tCons ta tNil) σ G M M1 (ak (DD K (.list (xs.map (eP2 (eR2 Dat.str Dat.str) e)))) az)) : EvP K (tCB (nr K) (tCons ta tNil)) σ G M M1 e ys:=fun G0 H s k Q q=>
  ha G0 H s k _ fun vs G1 H1 s1 k1 hx=>by
    obtain ⟨v,rfl,hv⟩:=one_of (R:=az) hx
    obtain ⟨_,h1,h2⟩:=bs hy
    cases h2
    obtain ⟨a,ws,rfl,a1,b⟩:=bM hv
    obtain ⟨ps,kvs,rfl,p1,p2,p3⟩:=ou b
    exact ⟨_,ps,kvs,rfl,.inl (.inl (k1.g _ _ a1)),gc p1 fun _ _ ⟨c,z1,z2⟩=>⟨c,bN k1.g z1,k1.g _ _ z2⟩,fun p hp=>q p _ G1 _ s1 (k1.newM _ hp) (Same.none k1.m hp) ⟨aY.mergeP p2 .nil,cy xs [] (fun x hx=>nomatch hx) p3⟩⟩
end
end Kx
end
section
namespace Kx
open PySem L2
end Kx
end
section
namespace Kx
open PySem L2 PySem.Spec PyProof.Rows
theorem m6 (kx vx t0 i0 t1 i1 : Expr) (ifs0 ifs1 : List Expr) (scope : Scope) (pos : Pos) (it : Value) (D : Addr) (env : Env) :
    compTurn (.DictComp kx vx [⟨t0,i0,ifs0,0⟩,⟨t1,i1,ifs1,0⟩] scope pos) 0 it (.ref D) env = (do
      standAt i0.pos
      match ← pyNext it with
      | none=>pure (.done .next)
      | some v=>
        letOwnedTupleGo t0 it v
        assign t0 env v
        let mut ok:=true
        for c in ifs0 do
          if ok then ok ← isTrue c env (eval c env)
        if ok then
          let x ← eval i1 env
          standAt i1.pos
          let x ← foldedSetIterable i1 env x
          let _ ← runOwn (.compStart (.DictComp kx vx [⟨t0,i0,ifs0,0⟩,⟨t1,i1,ifs1,0⟩] scope pos) 1 (← holding [x] (pyIter x)) (.ref D) env) env
        again (.compLoop (.DictComp kx vx [⟨t0,i0,ifs0,0⟩,⟨t1,i1,ifs1,0⟩] scope pos) 0 it (.ref D) env)):=by rfl
theorem p0 (kx vx t0 i0 t1 i1 : Expr) (ifs0 ifs1 : List Expr) (scope : Scope) (pos : Pos) (it : Value) (D : Addr) (env : Env) :
    compTurn (.DictComp kx vx [⟨t0,i0,ifs0,0⟩,⟨t1,i1,ifs1,0⟩] scope pos) 1 it (.ref D) env = (do
      standAt i1.pos
      match ← pyNext it with
      | none=>pure (.done .next)
      | some v=>
        letOwnedTupleGo t1 it v
        assign t1 env v
        let mut ok:=true
        for c in ifs1 do
          if ok then ok ← isTrue c env (eval c env)
        if ok then
          (do
            let kv ← eval kx env
            let vv ← holding [kv] (eval vx env)
            standAt { kx.pos with endLine:=vx.pos.endLine,endCol:=vx.pos.endCol }
            holding [kv,vv] (dictSet D kv vv))
        again (.compLoop (.DictComp kx vx [⟨t0,i0,ifs0,0⟩,⟨t1,i1,ifs1,0⟩] scope pos) 1 it (.ref D) env)):=by rfl
section
variable {prog : Program} {w : World} {A : Around} {R : Result→Shared→Prop} {s : Shared} {kx vx t0 i0 t1 i1 : Expr} {ifs0 ifs1 : List Expr} {scope : Scope} {pos : Pos} {it : Value} {D : Addr} {env : Env}
theorem nU (hs : ∀ x,foldedSetIterable i1 env x = pure x) (I : Nat→Shared→Prop)
    (turn : ∀ n s,I n s→wpAny (model prog w) A (pyNext it) (fun r s₁=>match r with
      | none=>R (.ok .next) s₁
      | some v=>wpAny (model prog w) A (letOwnedTupleGo t0 it v) (fun _ s₁'=>wpAny (model prog w) A (assign t0 env v) (fun _ s₂=>
          wpAny (model prog w) A (forIn ifs0 true fun c r=>if r = true then do let ok ← isTrue c env (eval c env); pure (ForInStep.yield ok) else pure (ForInStep.yield r)) (fun ok s₃=>
            if ok = true then wpAny (model prog w) A (eval i1 env) (fun x s₄=>wpAny (model prog w) A (pyIter x) (fun it1 s₅=>
              codeAny (model prog w) A (.compStart (.DictComp kx vx [⟨t0,i0,ifs0,0⟩,⟨t1,i1,ifs1,0⟩] scope pos) 1 it1 (.ref D) env) (fun r s'=>match r with
                | .ok _=>∃ m,m < n∧I m s'
                | .error _=>False) s₅) (notedBy (model prog w) A env fun e s'=>R (.error e) s') s₄) (notedBy (model prog w) A env fun e s'=>R (.error e) s') s₃
            else ∃ m,m < n∧I m s₃) (notedBy (model prog w) A env fun e s'=>R (.error e) s') s₂) (notedBy (model prog w) A env fun e s'=>R (.error e) s') s₁') (notedBy (model prog w) A env fun e s'=>R (.error e) s') s₁) (notedBy (model prog w) A env fun e s'=>R (.error e) s') s)
    (n : Nat) (h : I n s) :
    codeAny (model prog w) A (.compLoop (.DictComp kx vx [⟨t0,i0,ifs0,0⟩,⟨t1,i1,ifs1,0⟩] scope pos) 0 it (.ref D) env) R s:=by
  refine codeAny_loop rfl I (fun n s hI=>?_) n h
  show wpAny _ A ((compTurn (.DictComp kx vx [⟨t0,i0,ifs0,0⟩,⟨t1,i1,ifs1,0⟩] scope pos) 0 it (.ref D) env).onRaise (fun x=>do noteFrame x env; theTreesLotGoes x)) _ _ s
  refine wpAny_noted ?_
  rw [m6]
  refine wpAny_bind (wpAny_standAt (wpAny_bind (wpAny_mono (turn n s hI) (fun r s₁ h₁=>?_) fun _ _ h'=>h')))
  cases r with
  | none=>exact wpAny_pure h₁
  | some v=>
    refine wpAny_bind (wpAny_mono h₁ (fun _ s₁' h₁'=>?_) fun _ _ h'=>h')
    refine wpAny_bind (wpAny_mono h₁' (fun _ s₂ h₂=>wpAny_bind (wpAny_mono h₂ (fun ok s₃ h₃=>?_) fun _ _ h'=>h')) fun _ _ h'=>h')
    cases ok with
    | false=>exact wpAny_pure ⟨rfl,h₃⟩
    | true=>
      refine wpAny_bind (wpAny_mono h₃ (fun x s₄ h₄=>?_) fun _ _ h'=>h')
      refine wpAny_bind (wpAny_standAt (wpAny_bind (wpAny_of_eq (hs x) (wpAny_bind (wpAny_holding (wpAny_mono h₄ (fun it1 s₅ h₅=>?_) fun _ _ h'=>h'))))))
      refine wpAny_bind (wpAny_runOwn ?_)
      rw [Around.mark_none]
      refine codeAny_mono h₅ fun r s' hr=>?_
      cases r with
      | ok f=>
        first
          | exact wpAny_pure ⟨rfl,hr⟩
          | exact wpAny_bind (wpAny_pure (wpAny_pure ⟨rfl,hr⟩))
      | error e=>exact hr.elim
theorem qa (I : Nat→Shared→Prop)
    (turn : ∀ n s,I n s→wpAny (model prog w) A (pyNext it) (fun r s₁=>match r with
      | none=>R (.ok .next) s₁
      | some v=>wpAny (model prog w) A (letOwnedTupleGo t1 it v) (fun _ s₁'=>wpAny (model prog w) A (assign t1 env v) (fun _ s₂=>
          wpAny (model prog w) A (forIn ifs1 true fun c r=>if r = true then do let ok ← isTrue c env (eval c env); pure (ForInStep.yield ok) else pure (ForInStep.yield r)) (fun ok s₃=>
            if ok = true then wpAny (model prog w) A (eval kx env) (fun kv s₄=>wpAny (model prog w) A (eval vx env) (fun vv s₅=>
              wpAny (model prog w) A (dictSet D kv vv) (fun _ s₆=>∃ m,m < n∧I m s₆) (notedBy (model prog w) A env fun e s'=>R (.error e) s') s₅) (notedBy (model prog w) A env fun e s'=>R (.error e) s') s₄) (notedBy (model prog w) A env fun e s'=>R (.error e) s') s₃
            else ∃ m,m < n∧I m s₃) (notedBy (model prog w) A env fun e s'=>R (.error e) s') s₂) (notedBy (model prog w) A env fun e s'=>R (.error e) s') s₁') (notedBy (model prog w) A env fun e s'=>R (.error e) s') s₁) (notedBy (model prog w) A env fun e s'=>R (.error e) s') s)
    (n : Nat) (h : I n s) :
    codeAny (model prog w) A (.compLoop (.DictComp kx vx [⟨t0,i0,ifs0,0⟩,⟨t1,i1,ifs1,0⟩] scope pos) 1 it (.ref D) env) R s:=by
  refine codeAny_loop rfl I (fun n s hI=>?_) n h
  show wpAny _ A ((compTurn (.DictComp kx vx [⟨t0,i0,ifs0,0⟩,⟨t1,i1,ifs1,0⟩] scope pos) 1 it (.ref D) env).onRaise (fun x=>do noteFrame x env; theTreesLotGoes x)) _ _ s
  refine wpAny_noted ?_
  rw [p0]
  refine wpAny_bind (wpAny_standAt (wpAny_bind (wpAny_mono (turn n s hI) (fun r s₁ h₁=>?_) fun _ _ h'=>h')))
  cases r with
  | none=>exact wpAny_pure h₁
  | some v=>
    refine wpAny_bind (wpAny_mono h₁ (fun _ s₁' h₁'=>?_) fun _ _ h'=>h')
    refine wpAny_bind (wpAny_mono h₁' (fun _ s₂ h₂=>wpAny_bind (wpAny_mono h₂ (fun ok s₃ h₃=>?_) fun _ _ h'=>h')) fun _ _ h'=>h')
    cases ok with
    | false=>exact wpAny_pure ⟨rfl,h₃⟩
    | true=>
      exact wpAny_bind (wpAny_bind (wpAny_mono h₃ (fun kv s₄ h₄=>wpAny_bind (wpAny_holding (wpAny_mono h₄ (fun vv s₅ h₅=>wpAny_bind (wpAny_standAt (wpAny_holding (wpAny_mono h₅ (fun _ s₆ h₆=>wpAny_pure ⟨rfl,h₆⟩) fun _ _ h'=>h')))) fun _ _ h'=>h'))) fun _ _ h'=>h'))
theorem nv (h0 : codeAny (model prog w) A (.compLoop (.DictComp kx vx [⟨t0,i0,ifs0,0⟩,⟨t1,i1,ifs1,0⟩] scope pos) 1 it (.ref D) env) R s)
    (h : wpAny (model prog w) A (pyIter it) (fun it' s'=>codeAny (model prog w) A (.compLoop (.DictComp kx vx [⟨t0,i0,ifs0,0⟩,⟨t1,i1,ifs1,0⟩] scope pos) 1 it' (.ref D) env) R s')
      (notedBy (model prog w) A env fun x s'=>R (.error x) s') s) :
    codeAny (model prog w) A (.compStart (.DictComp kx vx [⟨t0,i0,ifs0,0⟩,⟨t1,i1,ifs1,0⟩] scope pos) 1 it (.ref D) env) R s:=by
  refine codeAny_of_tree ?_
  show wpAny _ _ ((compStart (.DictComp kx vx [⟨t0,i0,ifs0,0⟩,⟨t1,i1,ifs1,0⟩] scope pos) 1 it (.ref D) env).onRaise (fun x=>do noteFrame x env; standAt theWindowsPlace)) _ _ s
  refine wpAny_notedAt ?_
  unfold compStart
  show wpAny _ _ (ask >>= _) _ _ s
  refine wpAny_bind (wpAny_askSetting (wpAny_ite ?_))
  split
  · first
      | exact wpAny_bind (wpAny_pure (wpAny_pure (And.intro rfl h0)))
      | exact wpAny_pure (And.intro rfl h0)
  · first
      | exact wpAny_bind (wpAny_rule (wpAny_bind (wpAny_standAt (wpAny_bind (wpAny_mono h (fun it' s' h'=>wpAny_pure (And.intro rfl h')) fun _ _ x=>x)))))
      | (refine wpAny_bind (wpAny_rule ?_); show wpAny _ _ (standAt i1.pos >>= _) _ _ s; exact wpAny_bind (wpAny_standAt (wpAny_bind (wpAny_mono h (fun it' s' h'=>wpAny_pure (And.intro rfl h')) fun _ _ x=>x))))
end
def v5 (wi : TI) (g : TG) (wi1 : TI) (g1 : TG) (tk tv : TE) (vs vs1 : List Nat) : TE:=fun σ H Q=>wi σ H fun J H1=>∀ D,H1 D = none→∃ W : Nat→Nat→Hp→Prop,(∃ m,W 0 m (upd H1 D (.dT [])))∧∀ i m H,W i m H→
  (J.stop i H∧Q (.ref D) H)∨(J.go i H∧∃ Nx : Hp→Prop,(∀ H',Nx H'→∃ m',m' < m∧W (i + 1) m' H')∧∀ x H',J.yld i H x H'→g x (wipe σ vs) H' fun σ2 H2=>wipe σ2 vs = wipe σ vs∧
    wi1 σ2 H2 fun J1 H4=>∃ W1 : Nat→Nat→Hp→Prop,(∃ m,W1 0 m H4)∧∀ j k H,W1 j k H→
      (J1.stop j H∧Nx H)∨(J1.go j H∧∃ Nx1 : Hp→Prop,(∀ H',Nx1 H'→∃ k',k' < k∧W1 (j + 1) k' H')∧∀ x H',J1.yld j H x H'→g1 x (wipe σ2 vs1) H' fun σ3 H5=>wipe σ3 vs1 = wipe σ2 vs1∧
        tk σ3 H5 fun y H6=>tv σ3 H6 fun z H7=>∃ H8,DPut H7 D y z H8∧Nx1 H8))
section
variable {X : Cx}
theorem qJ {pins : List (Addr×Obj)} {s : Shared} {σ : L2.St} {H : Hp} {Q : VK} {kx vx tg iter tg1 iter1 : Expr} {scope : Scope} {own : List (Str×Nat)} {vs1 : List Nat} {pos pos' : Pos} {wi wi1 : TI} {g g1 : TG} {tk tv : TE} {use : Option (Value→Sem Unit)} {Qf : Value→Shared→Prop} (hu : X.A.units + 1 < cLine)
    (I : Inv X pins σ H s) (hc : X.calm = true) (hN : X.N.Nodup) (hi : PI X tg iter wi) (ok : BlkOk X.N X.env.scope scope own) (hv : ∀ i ∈ vs1,i ∈ own.map (·.2))
    (hg : ∀ (s : Shared) (H : Hp) (C : Addr) (cl : List (Str×Addr)) (fp : List Addr),PG (X.blk s H scope (compEnvC scope cl C X.env) fp) tg g)
    (hi1 : ∀ (s : Shared) (H : Hp) (C : Addr) (cl : List (Str×Addr)) (fp : List Addr),PI (X.blk s H scope (compEnvC scope cl C X.env) fp) tg1 iter1 wi1)
    (hg1 : ∀ (s : Shared) (H : Hp) (C : Addr) (cl : List (Str×Addr)) (fp : List Addr),PG (X.blk s H scope (compEnvC scope cl C X.env) fp) tg1 g1)
    (hk : ∀ (s : Shared) (H : Hp) (C : Addr) (cl : List (Str×Addr)) (fp : List Addr),PE (X.blk s H scope (compEnvC scope cl C X.env) fp) kx tk)
    (he : ∀ (s : Shared) (H : Hp) (C : Addr) (cl : List (Str×Addr)) (fp : List Addr),PE (X.blk s H scope (compEnvC scope cl C X.env) fp) vx tv)
    (hs : ∀ x,foldedSetIterable iter X.env x = pure x) (hs1 : ∀ env x,foldedSetIterable iter1 env x = pure x)
    (h : v5 wi g wi1 g1 tk tv (own.map (·.2)) vs1 σ H Q)
    (hRR : ∀ D C s' m H',Inv X pins σ H' s'→Q (.ref D) H'→s'.heap.Ns C m→FpOk X pins H' C→compPost (model X.prog X.w) X.A X.xe use Qf (.ref D) C (.ok .next) s') :
    wpAny (model X.prog X.w) X.A (comprehension (.DictComp kx vx [⟨tg,iter,[],0⟩,⟨tg1,iter1,[],0⟩] scope pos) scope X.env pos' newDict false (eval iter X.env) use) Qf X.xe s:=by
  have hfree : ∀ y ∈ scope.names,y.2 = .free→∃ c,X.env.cells.lookup y.1 = some c:=fun y hy e=>by
    rcases ok.free y hy e with k | k
    · exact I.ok.has _ (.inl k)
    · exact I.ok.has _ (.inr k)
  refine wpAny_comprehension_free (use:=use) rfl hs (closure_ok hfree) ok.kind (fun y hy e=>by rw [ok.uniq y hy,e])
    (thn (hi.run pins s σ H _ I h) fun xv s1 hx=>thn hx fun itv s2 h2=>?_)
  obtain ⟨it,fp,tn,J,H2,e,I2,T,st2,f2,q⟩:=h2
  subst e
  refine wpAny_newObj_type (newEnv_comp ?_)
  generalize hD : s2.heap.objs.size = D
  have hDn : H2 D = none:=I2.hok.fresh (Nat.le_of_eq hD)
  obtain ⟨W,⟨m0,w0⟩,turn⟩:=q D hDn
  generalize hs3 : ({ s2 with heap:=s2.heap.push { cls:=.type "dict",data:=.dict #[] } } : Shared) = s3
  have I3 : Inv X pins σ (upd H2 D (.dT [])) s3:=by
    rw [← hs3]
    refine I2.laid (t':=s2.toks) (fun b o e=>Heap.get?_push_of_some _ e) (Nat.le_of_eq hD) ?_
    rw [← hD]
    exact dt_empty s2.heap I2.big
  have h3 : s3.heap = s2.heap.push { cls:=.type "dict",data:=.dict #[] }:=by rw [← hs3]
  have sz : ∀ b ∈ fp,b < s2.heap.objs.size:=fun b hb=>by
    obtain ⟨o,e,_⟩:=T.obj _ _ st2 b hb
    exact Heap.lt_size e
  have f3 : ∀ b ∈ fp,FpOk X pins (upd H2 D (.dT [])) b∧b < s3.heap.objs.size:=fun b hb=>by
    have hlt:=sz b hb
    refine ⟨⟨?_,(f2 b hb).2⟩,by rw [h3,Heap.size_push]; exact Nat.lt_succ_of_lt hlt⟩
    rw [upd_ne (by rw [← hD]; exact Nat.ne_of_lt hlt)]
    exact (f2 b hb).1
  have st3 : tn 0 s3.heap:=T.keep _ _ _ st2 fun b _ o e=>by rw [h3]; exact Heap.get?_push_of_some _ e
  have I4:=block_start I3 ok hN f3
  have pg:=hg s3 (upd H2 D (.dT [])) s3.heap.objs.size (cellsFrom (s3.heap.objs.size + 1) scope.names (cloFrom X.env.cells scope.names [])) fp
  have pe:=he s3 (upd H2 D (.dT [])) s3.heap.objs.size (cellsFrom (s3.heap.objs.size + 1) scope.names (cloFrom X.env.cells scope.names [])) fp
  have pk:=hk s3 (upd H2 D (.dT [])) s3.heap.objs.size (cellsFrom (s3.heap.objs.size + 1) scope.names (cloFrom X.env.cells scope.names [])) fp
  have pi1:=hi1 s3 (upd H2 D (.dT [])) s3.heap.objs.size (cellsFrom (s3.heap.objs.size + 1) scope.names (cloFrom X.env.cells scope.names [])) fp
  have pg1:=hg1 s3 (upd H2 D (.dT [])) s3.heap.objs.size (cellsFrom (s3.heap.objs.size + 1) scope.names (cloFrom X.env.cells scope.names [])) fp
  show codeAny _ _ (.compStart (.DictComp kx vx [⟨tg,iter,[],0⟩,⟨tg1,iter1,[],0⟩] scope pos) 0 (.ref it) (.ref D) (compEnvC scope (cellsFrom (s3.heap.objs.size + 1) scope.names (cloFrom X.env.cells scope.names [])) s3.heap.objs.size X.env)) (compPost (model X.prog X.w) X.A X.xe use Qf (.ref D) s3.heap.objs.size) { s3 with heap:=pushCells (s3.heap.push { cls:=.type "dict",data:=.dict #[] }) scope.names }
  have nfp : ∀ b ∈ fp,(upd H2 D (.dT [])) b = none:=fun b hb=>(f3 b hb).1.1
  generalize hce : compEnvC scope (cellsFrom (s3.heap.objs.size + 1) scope.names (cloFrom X.env.cells scope.names [])) s3.heap.objs.size X.env = ce at I4 pg pk pe pi1 pg1 ⊢
  have cL : ce.locals = s3.heap.objs.size:=by subst hce; rfl
  generalize hH3 : upd H2 D (.dT []) = H3 at I3 I4 pg pk pe pi1 pg1 w0 nfp f3
  generalize hs4 : ({ s3 with heap:=pushCells (s3.heap.push { cls:=.type "dict",data:=.dict #[] }) scope.names } : Shared) = s4 at I4 ⊢
  have st4 : tn 0 s4.heap:=T.keep _ _ _ st3 fun b _ o e=>by rw [← hs4]; exact pushCells_keeps _ _ _ _ (Heap.get?_push_of_some _ e)
  have stat : ∀ {σ' : L2.St} {H' : Hp} {s' : Shared},Inv (X.blk s3 H3 scope ce fp) [] σ' H' s'→(∀ b ∈ fp,H' b = none)→∀ b ∈ fp,FpOk (X.blk s3 H3 scope ce fp) [] H' b:=fun {σ' H' s'} I' hn b hb=>
    ⟨hn b hb,(I'.ok.exf b hb).1,I'.ok.exfs b hb,.inl hb,fun x c e=>(I'.ok.exf b hb).2 x c e,fun p hp=>absurd (show p ∈ ([] : List (Addr×Obj)) ++ [] from hp) (by simp)⟩
  have loop : codeAny (model X.prog X.w) X.A (.compLoop (.DictComp kx vx [⟨tg,iter,[],0⟩,⟨tg1,iter1,[],0⟩] scope pos) 0 (.ref it) (.ref D) ce) (compPost (model X.prog X.w) X.A X.xe use Qf (.ref D) s3.heap.objs.size) s4:=by
    refine nU (hs1 ce) (fun n s'=>∃ i H',Inv (X.blk s3 H3 scope ce fp) [] (wipe σ (own.map (·.2))) H' s'∧tn i s'.heap∧(∀ b ∈ fp,H' b = none)∧W i n H') ?_ m0 ⟨0,H3,I4,st4,nfp,w0⟩
    rintro n s5 ⟨i,H5,I5,st5,n5,w5⟩
    rcases turn i n H5 w5 with ⟨stop,qq⟩ | ⟨go,Nx,hNx,step⟩
    · have td:=T.done (X.blk s3 H3 scope ce fp) rfl rfl rfl hc i [] s5 _ H5 (fun _ _=>False) I5 (stat I5 n5) st5 stop
      refine thnF td fun r s6 ⟨hr,I6⟩=>?_
      subst hr
      have I7 : Inv X pins σ H5 s6:=I3.call' (ch:=fp) I6.os I6.base I6.hok I6.bare fun b hb=>⟨(f3 b hb).1.2.2.2.1,(f3 b hb).1.2.1,(f3 b hb).1.2.2.2.2.1,(f3 b hb).1.2.2.2.2.2⟩
      have nC : H5 s3.heap.objs.size = none:=by
        have z : H5 ce.locals = none:=I6.free
        rw [cL] at z
        exact z
      obtain ⟨m,hn,_⟩:=I6.loc
      have hn : s6.heap.Ns ce.locals m:=hn
      rw [cL] at hn
      exact hRR D s3.heap.objs.size s6 m H5 I7 qq hn (I3.fpOk (Nat.le_refl _) nC)
    · have ti:=T.item (X.blk s3 H3 scope ce fp) rfl rfl rfl hc i [] s5 _ H5 (fun _ _=>False) I5 (stat I5 n5) st5 go
      refine thnF ti fun r s6 ⟨u,hr,h6⟩=>?_
      subst hr
      refine thnF h6 fun _ s7 ⟨x,H7,I7,r7,y7,st7,n7⟩=>?_
      have I7':=I7.pinned (stat I7 n7) (T.obj _ _ st7)
      refine thnF (pg.run _ s7 _ H7 x u _ I7' r7 (step x H7 y7)) fun _ s8 ⟨σ8,H8,I8,hw8,q8⟩=>?_
      refine wpAny_pure ?_
      have fin : ∀ {σ9 : L2.St} {s' : Shared} {H' : Hp},Inv (X.blk s3 H3 scope ce fp) ([] ++ pinsAt fp s7.heap) σ9 H' s'→(wipe σ (own.map (·.2))).length = σ9.length→(∀ (j : Nat) v,(wipe σ (own.map (·.2)))[j]? = some (some v)→σ9[j]? = some (some v))→Nx H'→
          ∃ m,m < n∧∃ i H',Inv (X.blk s3 H3 scope ce fp) [] (wipe σ (own.map (·.2))) H' s'∧tn i s'.heap∧(∀ b ∈ fp,H' b = none)∧W i m H':=fun {σ9 s' H'} I' hl hk nx=>by
        obtain ⟨m',hm,w'⟩:=hNx H' nx
        have pin' : ∀ b ∈ fp,∀ o,s7.heap.get? b = some o→s'.heap.get? b = some o∧H' b = none:=fun b hb o e=>
          let z:=I'.pin (b,o) (List.mem_append_right _ (List.mem_append_right _ (mem_pinsAt hb e)))
          ⟨z.1,z.2.1⟩
        refine ⟨m',hm,i + 1,H',(I'.unpinned (pins:=[])).weak hl hk,T.keep _ _ _ st7 fun b hb o e=>(pin' b hb o e).1,fun b hb=>?_,w'⟩
        obtain ⟨o,e,_⟩:=T.obj _ _ st7 b hb
        exact (pin' b hb o e).2
      have hl8 : (wipe σ (own.map (·.2))).length = σ8.length:=by rw [← hw8,wipe_length]
      have hk8 : ∀ (j : Nat) v,(wipe σ (own.map (·.2)))[j]? = some (some v)→σ8[j]? = some (some v):=fun j v e=>by
        rw [← hw8] at e
        exact (wipe_some e).1
      have hk9 : ∀ (j : Nat) v,(wipe σ (own.map (·.2)))[j]? = some (some v)→(wipe σ8 vs1)[j]? = some (some v):=fun j v e=>by
        rw [← hw8] at e
        obtain ⟨e1,e2⟩:=wipe_some e
        rw [wipe_out fun z=>e2 (hv j z)]
        exact e1
      · simp only [if_true]
        refine thnF (pi1.run _ s8 σ8 H8 _ I8 q8) fun xv s10 hx=>thnF hx fun itv s11 h11=>?_
        obtain ⟨it1,fp1,tn1,J1,H11,e1,I11,T1,st11,f11,W1,⟨m1,w1⟩,turn1⟩:=h11
        subst e1
        have stat1 : ∀ {H' : Hp},(∀ b ∈ fp1,H' b = none)→∀ b ∈ fp1,FpOk (X.blk s3 H3 scope ce fp) ([] ++ pinsAt fp s7.heap) H' b:=fun hn b hb=>⟨hn b hb,(f11 b hb).2⟩
        have loop1 : codeAny (model X.prog X.w) X.A (.compLoop (.DictComp kx vx [⟨tg,iter,[],0⟩,⟨tg1,iter1,[],0⟩] scope pos) 1 (.ref it1) (.ref D) ce)
            (fun r s'=>match r with
              | .ok _=>∃ m,m < n∧∃ i H',Inv (X.blk s3 H3 scope ce fp) [] (wipe σ (own.map (·.2))) H' s'∧tn i s'.heap∧(∀ b ∈ fp,H' b = none)∧W i m H'
              | .error _=>False) s11:=by
          refine qa (fun k s'=>∃ j H',Inv (X.blk s3 H3 scope ce fp) ([] ++ pinsAt fp s7.heap) (wipe σ8 vs1) H' s'∧tn1 j s'.heap∧(∀ b ∈ fp1,H' b = none)∧W1 j k H') ?_ m1 ⟨0,H11,I11.weak (wipe_length _ _) (fun j v e=>(wipe_some e).1),st11,fun b hb=>(f11 b hb).1,w1⟩
          rintro k s12 ⟨j,H12,I12,st12,n12,w12⟩
          rcases turn1 j k H12 w12 with ⟨stop1,nx1⟩ | ⟨go1,Nx1,hNx1,step1⟩
          · refine thnF (T1.done (X.blk s3 H3 scope ce fp) rfl rfl rfl hc j _ s12 (wipe σ8 vs1) H12 (fun _ _=>False) I12 (stat1 n12) st12 stop1) fun r s13 ⟨hr,I13⟩=>?_
            subst hr
            exact fin I13 (hl8.trans (wipe_length σ8 vs1).symm) hk9 nx1
          · refine thnF (T1.item (X.blk s3 H3 scope ce fp) rfl rfl rfl hc j _ s12 (wipe σ8 vs1) H12 (fun _ _=>False) I12 (stat1 n12) st12 go1) fun r s13 ⟨u1,hr,h13⟩=>?_
            subst hr
            refine thnF h13 fun _ s14 ⟨x1,H14,I14,r14,y14,st14,n14⟩=>?_
            have I14':=I14.pinned (stat1 n14) (T1.obj _ _ st14)
            refine thnF (pg1.run _ s14 (wipe σ8 vs1) H14 x1 u1 _ I14' r14 (step1 x1 H14 y14)) fun _ s15 ⟨σ15,H15,I15,hw15,q15⟩=>?_
            refine wpAny_pure ?_
            have fin1 : ∀ {s' : Shared} {H' : Hp},Inv (X.blk s3 H3 scope ce fp) (([] ++ pinsAt fp s7.heap) ++ pinsAt fp1 s14.heap) σ15 H' s'→Nx1 H'→∃ m,m < k∧∃ j H',Inv (X.blk s3 H3 scope ce fp) ([] ++ pinsAt fp s7.heap) (wipe σ8 vs1) H' s'∧tn1 j s'.heap∧(∀ b ∈ fp1,H' b = none)∧W1 j m H':=fun {s' H'} I' nx=>by
              obtain ⟨m',hm,w'⟩:=hNx1 H' nx
              have pin' : ∀ b ∈ fp1,∀ o,s14.heap.get? b = some o→s'.heap.get? b = some o∧H' b = none:=fun b hb o e=>
                let z:=I'.pin (b,o) (List.mem_append_right _ (List.mem_append_right _ (mem_pinsAt hb e)))
                ⟨z.1,z.2.1⟩
              refine ⟨m',hm,j + 1,H',I'.unpinned.weak (by rw [← hw15,wipe_length]) (fun j v e=>by rw [← hw15] at e; exact (wipe_some e).1),T1.keep _ _ _ st14 fun b hb o e=>(pin' b hb o e).1,fun b hb=>?_,w'⟩
              obtain ⟨o,e,_⟩:=T1.obj _ _ st14 b hb
              exact (pin' b hb o e).2
            simp only [if_true]
            refine thnF (pk.run _ s15 σ15 H15 _ I15 q15) fun z s16 ⟨yk,H16,I16,r16,q16⟩=>?_
            refine thnF (pe.run _ s16 σ15 H16 _ I16 q16) fun z2 s17 ⟨yv,H17,I17,r17,H6,put,nx⟩=>?_
            exact lM (X:=X.blk s3 H3 scope ce fp) hu I17 put r16 r17 fun s18 I18=>fin1 I18 nx
        exact nv loop1 (T1.self X.A 0 _ _ _ st11 loop1)
  exact codeAny_compStart_dict loop (T.self X.A 0 _ _ _ st4 loop)
theorem qW {kx vx : Expr} {gs : List Comprehension} {scope : Scope} {pos py : Pos} {y : Str} {l : Nat} {env : Env} (hk : env.scope.kind = .function) (hy : env.scope.names.lookup y = some .local) (hl : (py.line == pos.line) = true)
    (ha : (scope.names.any fun (n,k)=>n == y && (k == .local || k == .cell)) = false) : swapsWith (.DictComp kx vx gs scope pos) (some (.Name y py)) l env = pure true:=by
  have ky : env.kindOf y = some .local:=hy
  have hb : env.blockKind = .function:=by unfold Env.blockKind; rw [hk]; rfl
  unfold swapsWith
  simp only [hb,ky,ha,Expr.pos,hl]
  rfl
theorem pB {i : Nat} {y : Str} {py : Pos} {kx vx tg iter tg1 iter1 : Expr} {scope : Scope} {own : List (Str×Nat)} {vs1 : List Nat} {pos spos : Pos} {wi wi1 : TI} {g g1 : TG} {tk tv : TE} (hu : X.A.units + 1 < cLine) (hc : X.calm = true) (hN : X.N.Nodup) (hy : X.N[i]? = some y) (hyl : X.env.scope.names.lookup y = some .local)
    (hsw : swapsWith (.DictComp kx vx [⟨tg,iter,[],0⟩,⟨tg1,iter1,[],0⟩] scope pos) (some (.Name y py)) spos.line X.env = pure true) (hi : PI X tg iter wi) (ok : BlkOk X.N X.env.scope scope own) (hv : ∀ i ∈ vs1,i ∈ own.map (·.2))
    (hg : ∀ (s : Shared) (H : Hp) (C : Addr) (cl : List (Str×Addr)) (fp : List Addr),PG (X.blk s H scope (compEnvC scope cl C X.env) fp) tg g)
    (hi1 : ∀ (s : Shared) (H : Hp) (C : Addr) (cl : List (Str×Addr)) (fp : List Addr),PI (X.blk s H scope (compEnvC scope cl C X.env) fp) tg1 iter1 wi1)
    (hg1 : ∀ (s : Shared) (H : Hp) (C : Addr) (cl : List (Str×Addr)) (fp : List Addr),PG (X.blk s H scope (compEnvC scope cl C X.env) fp) tg1 g1)
    (hk : ∀ (s : Shared) (H : Hp) (C : Addr) (cl : List (Str×Addr)) (fp : List Addr),PE (X.blk s H scope (compEnvC scope cl C X.env) fp) kx tk)
    (he : ∀ (s : Shared) (H : Hp) (C : Addr) (cl : List (Str×Addr)) (fp : List Addr),PE (X.blk s H scope (compEnvC scope cl C X.env) fp) vx tv)
    (hs : ∀ x,foldedSetIterable iter X.env x = pure x:=by intro _; rfl) (hs1 : ∀ env x,foldedSetIterable iter1 env x = pure x:=by intro _ _; rfl) :
    PS X (.Assign [.Name y py] (.DictComp kx vx [⟨tg,iter,[],0⟩,⟨tg1,iter1,[],0⟩] scope pos) spos) (tAsg (v5 wi g wi1 g1 tk tv (own.map (·.2)) vs1) (gName i)):=by
  refine ⟨fun pins s σ H D I h=>?_⟩
  rw [exec_Assign_Name_used _ _ _ _ hsw]
  refine wpAny_bind (wpAny_standAt (wpAny_bind ?_))
  show wpAny _ X.A (do let _ ← comprehension (.DictComp kx vx [⟨tg,iter,[],0⟩,⟨tg1,iter1,[],0⟩] scope pos) scope X.env (firstIterPos [⟨tg,iter,[],0⟩,⟨tg1,iter1,[],0⟩] pos) newDict false (eval iter X.env) (some (assign (.Name y py) X.env))) _ _ s
  have h : v5 wi g wi1 g1 tk tv (own.map (·.2)) vs1 σ H (fun x H1=>gName i x σ H1 D.nx):=h
  refine wpAny_bind (thn (qJ (Qf:=fun _ s'=>SP X pins D .next s') hu I hc hN hi ok hv hg hi1 hg1 hk he hs hs1 h fun L C s' m H' I' q hn f=>?_) fun _ s' hq=>wpAny_pure (wpAny_pure hq))
  show wpAny _ _ (assign (.Name y py) X.env (.ref L)) _ _ _
  refine wpAny_assign_Name (store_ok2 (v:=V.ref L) I' hN hy (.inl hyl) rfl (fun s2 I2 ⟨a,sb,ha⟩=>?_) (.inr hyl))
  obtain ⟨f0,f1,f2,f3,f4,f5⟩:=f
  have haC : C ≠ a:=by
    rcases ha with z | z
    · rw [z]; exact f1
    · exact fun e=>f4 y a z e.symm
  refine ⟨m,hn.sameBut sb haC,fun h3 sb3=>?_⟩
  exact ⟨_,H',I2.turned (t':=s2.toks) (fun b o hb e=>(sb3.2 b hb).trans e) f0 f1 f3 f4 f5,q⟩
end
end Kx
end
section
namespace Kx
open PySem L2
section
variable {α β γ : Type} {K : Fg} {σ σ' : St} {G G' M M1 M2 M3 : Hp} {ta tb te tc tk tv : TE} {e : β→Dat}
def vN (f : α→Option (List γ)) (h : α→γ→Option ((Str×Str)×β)) (xs : List α) : Option (List ((Str×Str)×β)):=(sY f h xs).bind fun ys=>some (aU [] ys)
theorem my {xs : List ((Str×Str)×β)} {y : (Str×Str)×β} : aU [] (xs ++ [y]) = bZ (aU [] xs) y.1 y.2:=by
  unfold aU
  rw [List.foldl_append]
  rfl
theorem yt [Tb] {ea : α→Dat} {ec : γ→Dat} {f : α→Option (List γ)} {h : α→γ→Option ((Str×Str)×β)} {xs : List α} {ys : List ((Str×Str)×β)} {wi wi1 : TI} {g g1 : TG} {vs vs1 : List Nat} (src : Src K wi σ G M M1 (xs.map ea)) (hf : vN f h xs = some ys)
    (hs : ∀ (x : α) (zs : List γ) (Mx G1 : Hp) (v : V),f x = some zs→Same M1 Mx→Same G G1→Dq K G1 v (ea x)→Tg g v (wipe σ vs) G1 fun σ2=>wipe σ2 vs = wipe σ vs∧Src K wi1 σ2 G1 Mx Mx (zs.map ec)∧
      ∀ (c : γ) (y : (Str×Str)×β) (Mx' G2 : Hp) (v2 : V),h x c = some y→Same M1 Mx'→Same G1 G2→Dq K G2 v2 (ec c)→Tg g1 v2 (wipe σ2 vs1) G2 fun σ3=>wipe σ3 vs1 = wipe σ2 vs1∧Ev tk σ3 G2 Mx' Mx' (DD K (.rtup [.str y.1.1,.str y.1.2]))∧Ev tv σ3 G2 Mx' Mx' (DD K (e y.2))) :
    EvP K (v5 wi g wi1 g1 tk tv vs vs1) σ G M M1 e ys:=by
  intro G0 H s k Q q
  obtain ⟨ys',h0,h9⟩:=bs hf
  cases h9
  obtain ⟨rs,h1,h2⟩:=bs h0
  obtain ⟨_,h3,h4⟩:=bs h2
  cases h4
  have hz:=szl (bz h3)
  have hl:=cV h1
  refine src G0 H s k _ fun J G1 H1 s1 k1 w=>?_
  obtain ⟨Y,Gd,w,hGd,hY⟩:=w
  intro D hD
  have mD : M1 D = none:=Same.none k1.m hD
  rw [List.length_map] at w
  let Pv : Nat→Hp→Prop:=fun i H=>∃ G2 kvs,Same G1 G2∧Ok G2 (upd M1 D (.dT kvs)) H∧c9 K G2 e kvs (aU [] (rs.take i).flatten)
  refine ⟨fun i m H=>m = xs.length - i∧i ≤ xs.length∧Pv i H,⟨xs.length,by simp,Nat.zero_le _,G1,[],Same.refl _,k1.newM _ hD,c9.nil⟩,?_⟩
  rintro i m H2 ⟨rfl,hi,G2,kvs,s2,k2,hacc⟩
  have qg:=hGd H2 (s2.trans k2.g)
  by_cases hlt : i < xs.length
  · refine .inr ⟨w.goes i H2 hlt qg,Pv (i + 1),fun H' p'=>⟨xs.length - (i + 1),by omega,rfl,hlt,p'⟩,fun x H3 y=>?_⟩
    have y:=w.yields i H2 x H3 hlt qg y
    obtain ⟨a,ha⟩ : ∃ a,xs[i]? = some a:=⟨xs[i],List.getElem?_eq_getElem hlt⟩
    obtain ⟨r,hr⟩ : ∃ r,rs[i]? = some r:=⟨rs[i]'(by omega),List.getElem?_eq_getElem (by omega)⟩
    obtain ⟨G3,s3,k3,hx⟩:=hY i (ea a) H2 x H3 G2 _ (by rw [List.getElem?_map,ha]; rfl) s2 k2 y
    have e0 : (f a).bind (fun zs=>cD (h a) zs) = some r:=cK (f:=fun x=>(f x).bind fun zs=>cD (h x) zs) h1 ha hr
    obtain ⟨zs,e1,e2⟩:=bs e0
    have hl2:=cV e2
    have htk : (rs.take (i + 1)).flatten = (rs.take i).flatten ++ r:=by
      rw [List.take_add_one,hr,List.flatten_append]
      simp
    have hfl : (rs.take i).flatten.length + r.length ≤ rs.flatten.length:=by
      have : rs.flatten = (rs.take (i + 1)).flatten ++ (rs.drop (i + 1)).flatten:=by rw [← List.flatten_append,List.take_append_drop]
      rw [this,htk,List.length_append,List.length_append]
      omega
    refine hs a zs (upd M1 D (.dT kvs)) G3 x e1 (Same.new mD) (((s.trans s1).trans s2).trans s3) hx H3 _ k3.g ?_
    rintro σ2 ⟨hw,sr,hin⟩
    refine ⟨hw,?_⟩
    refine sr G3 H3 (Same.refl _) k3 _ fun J1 G4 H4 s4 k4 w1=>?_
    obtain ⟨Y1,Gd1,w1,hGd1,hY1⟩:=w1
    rw [List.length_map] at w1
    let Pv1 : Nat→Hp→Prop:=fun j H=>∃ G5 kvs1,Same G4 G5∧Ok G5 (upd M1 D (.dT kvs1)) H∧c9 K G5 e kvs1 (aU [] ((rs.take i).flatten ++ r.take j))
    refine ⟨fun j m H=>m = zs.length - j∧j ≤ zs.length∧Pv1 j H,⟨zs.length,by simp,Nat.zero_le _,G4,kvs,Same.refl _,k4,by rw [List.take_zero,List.append_nil]; exact hacc.up (s3.trans s4)⟩,?_⟩
    rintro j m H5 ⟨rfl,hj,G5,kvs1,s5,k5,hacc1⟩
    have qg1:=hGd1 H5 (s5.trans k5.g)
    by_cases hlt1 : j < zs.length
    · refine .inr ⟨w1.goes j H5 hlt1 qg1,Pv1 (j + 1),fun H' p'=>⟨zs.length - (j + 1),by omega,rfl,hlt1,p'⟩,fun x1 H6 y1=>?_⟩
      have y1:=w1.yields j H5 x1 H6 hlt1 qg1 y1
      obtain ⟨c,hc⟩ : ∃ c,zs[j]? = some c:=⟨zs[j],List.getElem?_eq_getElem hlt1⟩
      obtain ⟨b,hb⟩ : ∃ b,r[j]? = some b:=⟨r[j]'(by omega),List.getElem?_eq_getElem (by omega)⟩
      obtain ⟨G6,s6,k6,hx1⟩:=hY1 j (ec c) H5 x1 H6 G5 _ (by rw [List.getElem?_map,hc]; rfl) s5 k5 y1
      refine hin c b (upd M1 D (.dT kvs1)) G6 x1 (cK e2 hc hb) (Same.new mD) ((s4.trans s5).trans s6) hx1 H6 _ k6.g ?_
      rintro σ3 ⟨hw3,ek,ev⟩
      refine ⟨hw3,?_⟩
      refine ek G6 H6 (Same.refl _) k6 _ fun kv G7 H7 s7 k7 hk=>ev G7 H7 s7 k7 _ fun vv G8 H8 s8 k8 hv=>?_
      have okb : okP b.1:=sP hk
      obtain ⟨c',rfl,hc'⟩:=eE (k:=b.1) hk
      have s58:=(s6.trans s7).trans s8
      have hlen : (aU [] ((rs.take i).flatten ++ r.take j)).length < sizeLine:=by
        have:=fu ((rs.take i).flatten ++ r.take j) []
        rw [List.length_nil,List.length_append,List.length_take] at this
        rw [sizeLine_eq] at hz ⊢
        omega
      refine ⟨_,DPut.t (k8.m _ _ upd_same) ((s8.trans k8.g) _ _ hc') (by rw [hacc1.1.len]; exact hlen),G8,putK kvs1 (kP b.1) vv,s5.trans s58,?_,?_⟩
      · have:=k8.chg (p:=D) (u:=.dT kvs1) (.dT (putK kvs1 (kP b.1) vv)) upd_same
        rw [upd_upd] at this
        exact this
      · rw [List.take_add_one,hb,← List.append_assoc,show (some b).toList = [b] from rfl,my]
        exact ⟨(hacc1.1.up s58).put gm _ hv,di hacc1.2 okb⟩
    · have e : j = zs.length:=by omega
      subst e
      refine .inl ⟨w1.stops H5 qg1,G5,kvs1,((s2.trans s3).trans s4).trans s5,k5,?_⟩
      rw [htk]
      rw [← hl2,List.take_length] at hacc1
      exact hacc1
  · have e : i = xs.length:=by omega
    subst e
    refine .inl ⟨w.stops H2 qg,?_⟩
    rw [← hl,List.take_length] at hacc
    exact q D kvs G2 H2 (s1.trans s2) k2 mD hacc
end
end Kx
end
section
namespace Kx
open PySem L2
section
variable {K : Fg} {σ σ' : St} {G G' M M1 M2 M3 H : Hp} {ta tb te tc tk tv : TE} {u : TS} {D : Ends}
theorem wg [Tb] {p : Addr} {kvs : List (List Key×V)} {xs ys : List ((Str×Str)×Int)} {k : Str×Str} {i j : Int} (hg : bS xs k = some i) (hy : fN xs k (i + j) = some ys) (ho : Ev ta σ G M M (OW p)) (hk : Ev tb σ G M M1 (DD K (.rtup [.str k.1,.str k.2]))) (hp : M1 p = some (.dT kvs)) (hv : Ev te σ G M1 M2 (DD K (.int j))) (hp2 : M2 p = some (.dT kvs)) (hd : c9 K G Dat.int kvs xs) (ok : Ok G M H)
    (kk : ∀ kvs' G' H',Same G G'→Ok G' (upd M2 p (.dT kvs')) H'→c9 K G' Dat.int kvs' ys→u D σ H') : tSeq (sDAug ta tb te rAdd) u D σ H:=
  ho G H (Same.refl _) ok _ fun x G1 H1 s1 k1 hx=>hk G1 H1 s1 k1 _ fun y G2 H2 s2 k2 hyk=>by
    cases hx
    have sk:=sP hyk
    obtain ⟨c,rfl,hc⟩:=eE hyk
    have s02:=s1.trans s2
    rcases (hd.1.up s02).get gm k with ⟨z,_⟩ | ⟨b,w,e1,e2,e3⟩
    · rw [hg] at z; cases z
    · rw [hg] at e1
      cases e1
      cases e3
      refine ⟨p,_,rfl,.inr ⟨kvs,kP k,c,.inl (k2.m _ _ hp),rfl,k2.g _ _ hc,e2.symm⟩,?_⟩
      refine hv G2 H2 s02 k2 _ fun y2 G3 H3 s3 k3 hy2=>?_
      cases hy2
      obtain ⟨_,h1,h2⟩:=bs hy
      cases h2
      refine ⟨i,j,rfl,rfl,_,DPut.t (k:=kP k) (k3.m _ _ hp2) (k3.g _ _ (s3 _ _ hc)) (by rw [hd.1.len,sizeLine_eq]; exact bz h1),?_⟩
      exact kk _ G3 _ (s02.trans s3) (k3.chg _ hp2) ⟨(hd.1.up (s02.trans s3)).put gm k (.int _),di hd.2 sk⟩
end
end Kx
end
section
namespace Kx
open PySem L2
end Kx
end
section
namespace Kx
open PySem L2
end Kx
end
section
namespace Kx
open PySem L2
end Kx
end
section
namespace Kx
open PySem L2
abbrev Ex:=Str×Option (Str×Dat)
section
variable {K : Fg} {σ σ' : St} {G G' M M1 M2 M3 : Hp} {ta tb te tc : TE} {P P1 P2 : VP} {D : Ends} {H : Hp} {u : TS} {E : XK}
def m7 (K : Fg) (G : Hp) (d : Option Addr) (x : Ex) : Prop:=match x.2 with
  | none=>d = none
  | some (f,y)=>∃ (dd : Addr) (v : V),d = some dd∧G dd = some (.xd [(f,v)])∧Dq K G v y
theorem m7.up {d : Option Addr} {x : Ex} (s : Same G G') (h : m7 K G d x) : m7 K G' d x:=by
  obtain ⟨c,o⟩:=x
  cases o with
  | none=>exact h
  | some y=>
    obtain ⟨f,y⟩:=y
    obtain ⟨dd,v,h1,h2,h3⟩:=h
    exact ⟨dd,v,h1,s _ _ h2,aa s y h3⟩
end
end Kx
end
section
namespace Kx
open PySem L2
end Kx
end
section
namespace Kx
open PySem L2
end Kx
end
section
namespace Kx
open PySem PySem.Spec PyProof.Rows L2
section
variable {X : Cx} {CX : CXT} {k : Nat} {f C : Addr} {fd : FuncData} {ps : List Str} {sp : Addr→Value→Option Addr→Sp} {E : L2.St→XK} {x m : Str} {q pos apos : Pos} {e o : Expr} {es : List Expr} {ta : TE} {t : TA} {p : Addr×Obj} {cls : Value} {d : Option Addr}
def DictAt (H : Hp) (d : Option Addr) : Prop:=d = none∨∃ (dd : Addr) (fs : List (Str×V)),d = some dd∧H dd = some (.xd fs)
end
end Kx
end
section
namespace Kx
open PySem PySem.Spec PyProof.Rows L2
end Kx
end
section
namespace Kx
open PySem PySem.Spec PyProof.Rows L2 HotX
end Kx
end
section
namespace Kx
open PySem PySem.Spec PyProof.Rows L2
section
variable {K : Fg} {σ σ' : L2.St} {G G' M M1 M2 M3 : Hp} {ta tb te tc : TE} {P P1 P2 : VP} {D : Ends} {H : Hp} {u : TS} {E : XK}
def XP (K : Fg) (a : Addr) (d : Option Addr) (cn : Str) (y : Option (Str×Dat)) : VP:=fun v G=>v = .ref a∧m7 K G d (cn,y)
theorem m7.dict {d : Option Addr} {x : Ex} (s : Same G H) (h : m7 K G d x) : DictAt H d:=by
  obtain ⟨c,o⟩:=x
  cases o with
  | none=>exact .inl h
  | some y=>
    obtain ⟨f,y⟩:=y
    obtain ⟨dd,v,h1,h2,h3⟩:=h
    exact .inr ⟨dd,_,h1,s _ _ h2⟩
end
end Kx
end
section
namespace Kx
open PySem PySem.Spec PyProof.Rows L2
theorem _root_.L2H.RoomH.un65 {k : Nat} {A : Around} (r : L2H.RoomH k A) : A.units + 65 < cLine:=by have:=r.un; omega
theorem _root_.L2H.RoomH.units {k : Nat} {A : Around} (r : L2H.RoomH k A) : A.units + 64 < cLine:=by have:=r.un; omega
end Kx
end
section
namespace Kx
open PySem PySem.Spec PyProof.Rows L2
end Kx
end
section
namespace Kx
open PySem PySem.Spec PyProof.Rows L2
end Kx
end
section
namespace Kx
open PySem PySem.Spec PyProof.Rows L2 L2N HandSPX
end Kx
end
section
namespace Kx
open PySem PySem.Spec PyProof.Rows L2
end Kx
end
section
namespace Kx
open PySem PySem.Spec PyProof.Rows L2
end Kx
end
section
namespace Kx
open PySem PySem.Spec PyProof.Rows L2
def C3 (f c' : Addr) (q : Str) (tl : XK→Hp→VK→Prop) (E : XK) : TE:=fun σ H Q=>σ[0]? = some (some (.ref f))∧H c' = some (LamX.CodeO c' q)∧tl E H Q
abbrev uB (P : Program) (w : World) (K : Fg) (mg : Str→Option Value) (base : Heap) (Ng : List Str) (x : Str) (sg : Scope) (g : Addr) (cdg : Value) (A : Around) (out : List Env) (s : Shared) (H : Hp) : Cx:=cxOf CX0 P w K mg base Ng x sg g cdg A out s H E0
def ye (P : Program) (w : World) (K : Fg) (mg : Str→Option Value) (base : Heap) (k : Nat) (Ng : List Str) (x : Str) (sg : Scope) (g : Addr) (cdg : Value) (bg : List Stmt) (a : Str) (TT : (XK→Hp→VK→Prop)→Hp→VK→Prop) : Prop:=
  ∀ (A : Around) (out : List Env) (s : Shared) (H : Hp) (Q : VK) (tl : XK→Hp→VK→Prop) (f c' : Addr) (q : Str),Room k (A.deeper (envOfC x sg s.heap.objs.size g cdg))→(A.deeper (envOfC x sg s.heap.objs.size g cdg)).guards = some []→
    (∀ (pn : List (Addr×Obj)) (xe : Value→Shared→Prop) (E : XK) (p1 p2 : Pos),Passes (L2N.CX P w) ((uB P w K mg base Ng x sg g cdg A out s H).tr pn xe) E→PE ((uB P w K mg base Ng x sg g cdg A out s H).tr pn xe) (.Call (.Name a p1) [] [] p2) (C3 f c' q tl E))→
    H c' = some (LamX.CodeO c' q)→TT tl H Q→∃ t,PSs (uB P w K mg base Ng x sg g cdg A out s H).nox bg t∧t { nx:=fun _ H'=>Q .non H',rt:=Q } (L2.start Ng [.ref f]) H
structure sA (P : Program) (w : World) (K : Fg) (mg : Str→Option Value) (base : Heap) (k : Nat) (g : Addr) (fd : FuncData) (x a : Str) (TT : (XK→Hp→VK→Prop)→Hp→VK→Prop) : Prop where
  ex : ∃ (oc : Value) (od : Option Addr) (pg : Arguments) (bg : List Stmt) (sg : Scope) (dV kV doc pm : Value) (an : Option Addr) (cdv ct : Value) (osl : Array (Option Value)) (Ng : List Str),fd = PySem.W.fnOf x x pg bg sg dV kV doc pm an cdv ct∧K.lookup g = some ⟨oc,od,.func fd,osl⟩∧PySem.W.codeIn K cdv x = true∧
    FnScope Ng [a] sg∧Ng[0]? = some a∧Vis sg a∧ye P w K mg base k Ng x sg g cdv bg a TT
theorem sA.up {P : Program} {w : World} {K : Fg} {mg : Str→Option Value} {base : Heap} {k k' : Nat} {g : Addr} {fd : FuncData} {x a : Str} {TT : (XK→Hp→VK→Prop)→Hp→VK→Prop} (F : sA P w K mg base k g fd x a TT) (h : k ≤ k') : sA P w K mg base k' g fd x a TT:=by
  obtain ⟨oc,od,pg,bg,sg,dV,kV,doc,pm,an,cdv,ct,osl,Ng,e1,e2,e3,e4,e5,e6,hG⟩:=F.ex
  exact ⟨⟨oc,od,pg,bg,sg,dV,kV,doc,pm,an,cdv,ct,osl,Ng,e1,e2,e3,e4,e5,e6,fun A out s H Q tl f c' q hr=>hG A out s H Q tl f c' q (hr.mono h)⟩⟩
section
variable [Tb] {K : Fg} {σ σ' : L2.St} {G G' M M1 M2 M3 : Hp} {ta tb te tc : TE} {P P1 P2 : VP} {D : Ends} {H : Hp} {u : TS} {E : XK}
def yM (K : Fg) (tl : XK→Hp→VK→Prop) (G M : Hp) (r : Unit ⊕ Ex) : Prop:=∀ (E : XK) (G0 H : Hp),Same G G0→Ok G0 M H→∀ Q : VK,(r = .inl ()→∀ v G1 H1,Same G0 G1→Ok G1 M H1→Q v H1)→
  (∀ x,r = .inr x→∀ d G1 H1,Same G0 G1→Ok G1 M H1→m7 K G1 d x→E (.ref (clsAt K x.1)) d H1)→tl E H Q
theorem yM.up {tl : XK→Hp→VK→Prop} {r : Unit ⊕ Ex} (h : yM K tl G M r) (s : Same G G') : yM K tl G' M r:=fun E G0 H s1=>h E G0 H (s.trans s1)
end
end Kx
end
section
namespace Kx
open PySem PySem.Spec PyProof.Rows L2
theorem qE [Tb] {K : Fg} {H : Hp} {a : Addr} {xs : List V} (hT : ∀ p ∈ Tb.t,H p.1 = some (.tbl #[])) (hS : SqL K H a xs) : ∃ G,Ok G (fun _=>none) H∧SqL K G a xs:=by
  refine ⟨fun b=>match H b with | some (.tbl _)=>none | o=>o,⟨fun b o e=>?_,fun _ _ h=>(by cases h),fun _ _ h=>(by cases h),fun _ _ h=>(by cases h),⟨fun p hp=>LamX.TabS.nil (hT p hp),fun b o e=>?_⟩⟩,?_⟩
  · split at e
    · cases e
    · exact e
  · split at e
    · cases e
    · next h=>cases o <;> first | exact trivial | exact (h _ e).elim
  · rcases hS with (h | ⟨o,h⟩) | h
    · refine .inl (.inl ?_)
      show (match H a with | some (.tbl _)=>none | o=>o) = _
      rw [h]
    · refine .inl (.inr ⟨o,?_⟩)
      show (match H a with | some (.tbl _)=>none | o=>o) = _
      rw [h]
    · exact .inr h
theorem li {P : Program} {w : World} {K : Fg} {mg mb : Str→Option Value} {CX : CXT} {k : Nat} {fa a : Addr} {fd : FuncData} {x : Str} {sp : Sp} {s1 : Shared} {H : Hp} {o : Obj} {its : Array Value} {n0 : Nat} {cs : List (Addr×Addr)}
    (kx : K.In s1.heap) (gl : s1.heap.Ns mainGlobals mg) (bl : s1.heap.Ns builtinsNs mb) (bb : ∀ x : Str,x ≠ "__name__"→mb x = bootBuiltins x) (lim : s1.heap.NoLimit) (gn : s1.gens = #[]) (ha : s1.heap.get? a = some o) (hod : o.data = .seq its n0)
    (hT : ∀ p ∈ cs,s1.heap.get? p.2 = some { cls:=.none,data:=.fields #[] }) (nT : ∀ p ∈ cs,K.lookup p.2 = none) (hC : ∀ p ∈ cs,PySem.W.CodeHd s1.heap p.1 p.2)
    (hbm : ∃ (bm : Addr) (ob : Obj),mg "__builtins__" = some (.ref bm)∧bm ≠ builtinsNs∧s1.heap.get? bm = some ob∧ob.cls = .type "module"∧ob.dict = some builtinsNs∧ob.data = .plain)
    (hr : Room k callerA) (F : ∀ base : Heap,K.In base→base.Ns mainGlobals mg→(∀ p ∈ cs,LamX.TabB base mg p.1 p.2)→qB P w K mg base CX k fa fd [x] sp) (bd : ∀ (s : Shared) (u : Value),BindsTo s fd ⟨[u],[]⟩ [(x,u)])
    (ok : HOk P w H s1.heap) (onl : ∀ b,H b ≠ none→b = a∨b ∈ cs.map (·.2)) (own : H a ≠ none→K.lookup a = none) (q : sp [.ref a] H (fun v _=>v = .bl true) fun _ _ _=>False) :
    codeAny (model P w) callerA (.call (.ref fa) ⟨[.ref a],[]⟩) (CR CX [] P w H s1 (fun v _=>v = .bl true) fun _ _ _=>False) s1:=by
  have hid : ∀ {b : Addr} {u : Obj},s1.heap.get? b = some u→H b = none→(hidT s1.heap H).get? b = some u:=fun e n=>hidT_get e n
  have tab : ∀ {b : Addr},b ∈ cs.map (·.2)→s1.heap.get? b = some { cls:=.none,data:=.fields #[] }:=fun {b} hb=>by
    obtain ⟨p,hp,rfl⟩:=List.mem_map.mp hb
    exact hT p hp
  have free : ∀ {b : Addr} {u : Obj},s1.heap.get? b = some u→(∀ its n,u.data ≠ .seq its n)→u.data ≠ .fields #[]→H b = none:=fun {b u} e h1 h2=>by
    cases z : H b with
    | none=>rfl
    | some v=>
      rcases onl b (by rw [z]; exact Option.some_ne_none v) with y | y
      · subst y
        rw [ha] at e
        cases e
        exact (h1 _ _ hod).elim
      · rw [tab y] at e
        cases e
        exact (h2 rfl).elim
  have dict : ∀ {b : Addr} {u : Obj} {es : Array DictEntry} {m : Nat},s1.heap.get? b = some u→u.data = .dict es m→H b = none:=fun {b u es m} e d=>free e (fun _ _ z=>by rw [d] at z; cases z) fun z=>by rw [d] at z; cases z
  have ns : ∀ {b : Addr} {m : Str→Option Value},s1.heap.Ns b m→(hidT s1.heap H).Ns b m:=fun ⟨u,es,m,e,d,r⟩=>⟨u,es,m,hid e (dict e d),d,r⟩
  have kb : K.In (hidT s1.heap H):=fun b u e=>hid (kx b u e) (by
    cases z : H b with
    | none=>rfl
    | some v=>
      rcases onl b (by rw [z]; exact Option.some_ne_none v) with y | y
      · subst y
        rw [own (by rw [z]; exact Option.some_ne_none v)] at e
        cases e
      · obtain ⟨p,hp,rfl⟩:=List.mem_map.mp y
        rw [nT p hp] at e
        cases e)
  have hB : ∀ p ∈ cs,LamX.TabB (hidT s1.heap H) mg p.1 p.2:=fun p hp=>by
    refine ⟨?_,?_,fun z=>?_⟩
    · obtain ⟨u,us,file,tf,flags,tg,inF,text,tt,e1,r1,r2,r3,r4,r5,r6,r7,r8,hne⟩:=hC p hp
      refine ⟨u,us,file,tf,flags,tg,inF,text,tt,hid e1 (free e1 (fun _ _ z=>by rw [r2] at z; cases z) fun z=>?_),r1,r2,r3,r4,r5,r6,r7,r8,hne⟩
      rw [r2] at z
      cases z
      simp at r3
    · obtain ⟨bm,ob,b1,b2,b3,b4,b5,b6⟩:=hbm
      refine ⟨bm,ob,b1,b2,fun z=>?_,fun z=>?_,hid b3 (free b3 (fun _ _ z=>by rw [b6] at z; cases z) fun z=>by rw [b6] at z; cases z),b4,b5,b6⟩
      · obtain ⟨u,es,ep,e,hd,_⟩:=gl
        rw [z,e] at b3
        cases b3
        rw [hd] at b6
        cases b6
      · rw [z,hT p hp] at b3
        cases b3
        cases b6
    · obtain ⟨u,es,ep,e,hd,_⟩:=gl
      rw [z,hT p hp] at e
      cases e
      cases hd
  obtain ⟨mc,l1,l2⟩:=lim
  exact (F _ kb (ns gl) hB).run callerA [] s1 H ⟨[.ref a],[]⟩ [.ref a] [.ref a] _ _ rfl hr
    ⟨rfl,⟨kb,ns gl,⟨mb,ns bl,bb⟩,⟨mc,ns l1,l2⟩⟩,fun b u e=>of_hidT e,Nat.le_of_eq (hidT_size _ _),trivial,fun b hb=>absurd (show b ∈ ([] : List Addr) from hb) (by simp),ok,.of_eq gn⟩ (bd s1 (.ref a)) (.cons rfl .nil) q
def nF (l : PySem.W.OpenLaw) (w : World) (K : Fg) (k n : Nat) (x : Str) (mg : Str→Option Value) (fa : Addr) (h : Heap) : Prop:=
  ∃ (fd : FuncData) (cs : List (Addr×Addr)) (sp : Sp),(∀ p ∈ cs,h.get? p.2 = some { cls:=.none,data:=.fields #[] })∧(∀ p ∈ cs,K.lookup p.2 = none)∧(∀ p ∈ cs,PySem.W.CodeHd h p.1 p.2)∧(∀ (s : Shared) (u : Value),BindsTo s fd ⟨[u],[]⟩ [(x,u)])∧
    (∀ (H : Hp) (a : Addr) (ns : List Int),ns.length ≤ n→(∀ p ∈ cs,H p.2 = some (.tbl #[]))→SqL K H a (ns.map V.int)→sp [.ref a] H (fun v _=>v = .bl true) fun _ _ _=>False)∧
    ∀ base : Heap,K.In base→base.Ns mainGlobals mg→(∀ p ∈ cs,LamX.TabB base mg p.1 p.2)→qB l.prog w K mg base CX0 k fa fd [x] sp
theorem walk_ofTX {l : PySem.W.OpenLaw} {n k : Nat} {q : Program} {loose : List Str} {XP : (Str→Option Value)→Heap→Prop} {YP : World→Heap→Prop} {d : DefRec} {x : Str}
    (hn : l.most = some n) (hn2 : n ≤ sizeLine) (hdf : d.params.defaults = []) (hr : Room k callerA)
    (F : ∀ (w : World) (mg : Str→Option Value) (fa : Addr) (h : Heap),YP w h→h.Ns mainGlobals mg→mg d.name = some (.ref fa)→∃ K : Fg,K.In h∧nF l w K k n x mg fa h) :
    PySem.W.WalkO q loose XP YP l.row.toRowW d [] (fun f vs=>PySem.call f vs):=by
  refine Att.attach_call hn hdf fun w s0 s1 mg mb fa o pm cd doc a vs ns G Y ho hd hcd hmg hobj hints hlen hg=>?_
  obtain ⟨K,kx,fd,cs,sp,hT,nT,hC,hb,hsp,hF⟩:=F w mg fa _ Y G.T.g hmg
  have lv : vs.length = ns.length:=hints.length
  have lz : ns.length ≤ sizeLine:=Nat.le_trans hlen hn2
  have tab : ∀ {b : Addr},b ∈ cs.map (·.2)→s1.heap.get? b = some { cls:=.none,data:=.fields #[] }:=fun {b} hb=>by
    obtain ⟨p,hp,rfl⟩:=List.mem_map.mp hb
    exact hT p hp
  have aT : a ∉ cs.map (·.2):=fun z=>by
    have e:=tab z
    rw [hobj] at e
    cases e
  have memT : ∀ p ∈ cs,p.2 ∈ cs.map (·.2):=fun p hp=>List.mem_map.mpr ⟨p,hp,rfl⟩
  have fin : ∀ H : Hp,HOk l.prog w H s1.heap→(∀ b,H b ≠ none→b = a∨b ∈ cs.map (·.2))→(H a ≠ none→K.lookup a = none)→SqL K H a (ns.map V.int)→(∀ p ∈ cs,H p.2 = some (.tbl #[]))→(∀ b,H b ≠ none→b ∉ cs.map (·.2)→H b = some (.frz { cls:=.type "list",data:=.seq vs.toArray } (.lst (ns.map V.int))))→
      codeAny (model l.prog w) callerA (.call (.ref fa) ⟨[.ref a],[]⟩) (fun r s'=>r = .ok (.ret (.bool true))∧OldK s1.heap s'.heap∧s'.os = s1.os∧AllBare s'.gens) s1:=by
    intro H ok onl own hS hH hf
    refine codeAny_mono (li kx G.T.g G.T.b G.T.builtins G.T.nolimit hg hobj rfl hT nT hC G.T.bmain hr hF hb ok onl own (hsp H a ns hlen hH hS)) fun r s' h=>?_
    rcases r with e | fl
    · exact h.elim
    · cases fl with
      | next=>exact h.elim
      | brk=>exact h.elim
      | cont=>exact h.elim
      | ret u=>
        obtain ⟨v,H2,os,bare,un,ok2,rv,rfl⟩:=h
        have eu : u = Value.bool true:=rv
        have key : ∀ b ob,b ∉ cs.map (·.2)→s1.heap.get? b = some ob→s'.heap.get? b = some ob:=fun b ob nb e=>by
          by_cases hz : H b = none
          · exact un.keep b ob e hz (fun z=>absurd (show b ∈ ([] : List Addr) from z) (by simp)) (by simp)
          · have z1:=hf b hz nb
            have z2:=(ok2 b _ (un.frzs b _ _ z1)).1
            have z3:=(ok b _ z1).1
            rw [e] at z3
            cases z3
            exact z2
        have grown : ∀ p ∈ cs,∃ more : Array Value,s'.heap.get? p.2 = some { cls:=.none,data:=.fields more }:=fun p hp=>by
          obtain ⟨more,z⟩:=un.tbls p.2 #[] (hH p hp)
          exact ⟨_,ok2 p.2 _ z⟩
        refine ⟨by rw [eu],⟨fun b ob e=>?_,fun b ob e=>?_⟩,os,bare⟩
        · by_cases hb : b ∈ cs.map (·.2)
          · obtain ⟨p,hp,rfl⟩:=List.mem_map.mp hb
            obtain ⟨more,hm⟩:=grown p hp
            rw [hT p hp] at e
            cases e
            exact .inr (.inl ⟨((hC p hp).tab (hT p hp)).isCodeTable,rfl,#[],more,rfl,by rw [Array.empty_append]; exact hm⟩)
          · exact .inl (key b ob hb e)
        · by_cases hb : b ∈ cs.map (·.2)
          · obtain ⟨p,hp,rfl⟩:=List.mem_map.mp hb
            obtain ⟨more,hm⟩:=grown p hp
            exact ⟨_,hm⟩
          · exact ⟨ob,key b ob hb e⟩
  by_cases hk : K.lookup a = none
  · refine fin (fun b=>if b = a then some (.frz { cls:=.type "list",data:=.seq vs.toArray } (.lst (ns.map V.int))) else if b ∈ cs.map (·.2) then some (.tbl #[]) else none) (fun b u z=>?_) (fun b z=>?_) (fun _=>hk) (.inl (.inr ⟨_,if_pos rfl⟩)) (fun p hp=>(if_neg (fun z=>aT (by rw [← z]; exact memT p hp))).trans (if_pos (memT p hp))) fun b z nb=>?_
    · by_cases hb : b = a
      · subst hb
        have z2:=(if_pos rfl).symm.trans z
        cases z2
        exact ⟨hobj,by rw [List.length_map]; exact lz,vs,_,vals_ints hints,hobj⟩
      · have z1:=(if_neg hb).symm.trans z
        by_cases hb2 : b ∈ cs.map (·.2)
        · have z2:=(if_pos hb2).symm.trans z1
          cases z2
          exact tab hb2
        · have z2:=(if_neg hb2).symm.trans z1
          cases z2
    · by_cases hb : b = a
      · exact .inl hb
      · by_cases hb2 : b ∈ cs.map (·.2)
        · exact .inr hb2
        · exact absurd ((if_neg hb).trans (if_neg hb2)) z
    · by_cases hb : b = a
      · exact if_pos hb
      · exact absurd ((if_neg hb).trans (if_neg nb)) z
  · obtain ⟨u,hu⟩:=Option.ne_none_iff_exists'.mp hk
    have e:=kx a u hu
    rw [hobj] at e
    cases e
    refine fin (fun b=>if b ∈ cs.map (·.2) then some (.tbl #[]) else none) (fun b u z=>?_) (fun b z=>?_) (fun z=>absurd (if_neg aT) z) (.inr ⟨_,vs.toArray,_,hu,rfl,rfl,rfl,by rw [List.size_toArray,lv]; exact lz,by simpa using vals_ints hints⟩) (fun p hp=>if_pos (memT p hp)) fun b z nb=>absurd (if_neg nb) z
    · by_cases hb2 : b ∈ cs.map (·.2)
      · have z2:=(if_pos hb2).symm.trans z
        cases z2
        exact tab hb2
      · have z2:=(if_neg hb2).symm.trans z
        cases z2
    · by_cases hb2 : b ∈ cs.map (·.2)
      · exact .inr hb2
      · exact absurd (if_neg hb2) z
end Kx
end
section
namespace Kx
open PySem PySem.W PySem.Calls PyProof.Rows PySem.HandSPX
end Kx
namespace Kx
open PySem PySem.Spec PyProof.Rows L2
end Kx
end
section
namespace Kx
open PySem PySem.Spec PyProof.Rows L2
end Kx
end
section
namespace Kx
open PySem PySem.Spec PyProof.Rows L2
end Kx
end
section
namespace Kx
open PySem PySem.Spec PyProof.Rows L2
end Kx
end
section
namespace PySem.W
open PySem PySem.Spec PySem.Calls PyProof.Rows
end PySem.W
namespace Kx
open PySem PySem.Spec PyProof.Rows L2
end Kx
end
section
namespace Kx
open PySem PySem.Spec PyProof.Rows L2
end Kx
end
section
namespace PyProof.Rows
open PySem PySem.Spec
end PyProof.Rows
namespace Kx
open PySem L2 PySem.Spec PyProof.Rows PySem.W
def kD : Key→Dat
  | .inl i=>.int i
  | .inr z=>.str z
def kK (sh : Nat→Bool) : Nat→List Key→Prop
  | _,[]=>True
  | i,.inl _ :: r=>sh i = false∧kK sh (i + 1) r
  | i,.inr _ :: r=>sh i = true∧kK sh (i + 1) r
def we (K : Fg) (sh : Nat→Bool) (H : Hp) (x : V) (ks : List Key) : Prop:=∃ t,x = .ref t∧SqT K H t (ks.map kV)∧kK sh 0 ks∧ks ≠ []
section
variable {β : Type} {K : Fg} {σ σ' : L2.St} {G G' M M1 M2 M3 : Hp} {ta tb te tc : TE} {e : β→Dat} {f : β→List Key} {sh : Nat→Bool}
theorem keyD {G : Hp} : ∀ {ks : List Key} {vs : List V},ap K G vs (ks.map kD)→vs = ks.map kV
  | [],_,h=>by cases h; rfl
  | .inl n :: ks,_,.cons a b=>by cases a; exact congrArg (V.int n :: ·) (keyD b)
  | .inr n :: ks,_,.cons a b=>by cases a; exact congrArg (V.str n :: ·) (keyD b)
structure wL (e : β→Dat) (f : β→List Key) (sh : Nat→Bool) : Prop where
  e : ∀ y,e y = .tuple ((f y).map kD)
  s : ∀ y,kK sh 0 (f y)
  n : ∀ y,f y ≠ []
  i : ∀ a b,f a = f b→a = b
theorem wL.key (F : wL e f sh) {G : Hp} {x : V} {y : β} (h : Dq K G x (e y)) : we K sh G x (f y):=by
  rw [F.e] at h
  obtain ⟨t,vs,rfl,h1,h2⟩:=bx h
  rw [keyD h2] at h1
  exact ⟨t,rfl,h1,F.s y,F.n y⟩
theorem we.up {G G' : Hp} (g : ∀ a o,G a = some o→G' a = some o) {x : V} {ks : List Key} (h : we K sh G x ks) : we K sh G' x ks:=by
  obtain ⟨t,e,h1,h2⟩:=h
  exact ⟨t,e,bN g h1,h2⟩
end
end Kx
end
section
namespace Kx
open PySem L2 PySem.Spec PyProof.Rows
end Kx
end
section
namespace PySem.W
open PySem PySem.Calls PySem.Spec PyProof.Rows
end PySem.W
namespace Kx
open PySem L2 PySem.Spec PyProof.Rows
end Kx
end
section
namespace Kx
open PySem L2
def drop (G : Hp) (p : Addr) : Hp:=fun a=>if a = p then none else G a
end Kx
end
section
namespace Kx
open PySem L2 PySem.Spec PyProof.Rows
end Kx
end
section
namespace PySem.W
open PySem PySem.Calls PySem.Spec PyProof.Rows
end PySem.W
namespace PySem.W
open PySem PySem.Calls PySem.Spec PyProof.Rows Builtin
end PySem.W
namespace Kx
open PySem L2 PySem.Spec PyProof.Rows
inductive dH (K : Fg) (C : Addr) : String→Prop where
  | non (h : PySem.W.mroIn K C (.type "NoneType") = some false) : dH K C "NoneType"
  | bl (h : PySem.W.mroIn K C (.type "bool") = some false) : dH K C "bool"
  | int (h : PySem.W.mroIn K C (.type "int") = some false) : dH K C "int"
  | str (h : PySem.W.mroIn K C (.type "str") = some false) : dH K C "str"
  | lst (h : PySem.W.mroIn K C (.type "list") = some false) : dH K C "list"
  | tup (h : PySem.W.mroIn K C (.type "tuple") = some false) : dH K C "tuple"
  | dct (h : PySem.W.mroIn K C (.type "dict") = some false) : dH K C "dict"
theorem dH.no {K : Fg} {C : Addr} {T : String} (h : dH K C T) : PySem.W.mroIn K C (.type T) = some false:=by cases h <;> assumption
end Kx
end
section
namespace Kx
open PySem L2 PySem.Spec PyProof.Rows
end Kx
end
section
namespace Kx
open PySem L2 PySem.Spec PyProof.Rows
end Kx
end
section
namespace Kx
open PySem L2 PySem.Spec PyProof.Rows
section
variable {X : Cx} {pins : List (Addr×Obj)} {σ : L2.St} {H : Hp} {s : Shared} {a : Addr} {w : World}
mutual
theorem fY (I : Inv X pins σ H s) : ∀ (k : NestedKey) {v : V} {u : Value},NKq X.K H v k→RelV v u→NestedIs s.heap k u
  | .none,_,_,h,_=>by cases h
  | .num i,_,u,h,r=>by
    cases h
    obtain ⟨t,rfl⟩:=(show ∃ t,u = Value.int i t from r)
    exact .int i t
  | .text x,_,u,h,r=>by
    cases h
    obtain ⟨t,rfl⟩:=(show ∃ t,u = Value.str x t from r)
    exact .text x t
  | .tup ks,_,u,h,r=>by
    cases h with
    | @tup p xs _ a b=>
      cases (show u = Value.ref p from r)
      obtain ⟨its,hv,⟨o,h1,h2,n,h3⟩,_⟩:=I.tuple a.sq
      exact .tup h1 h2 h3 (by simpa using fJ I ks b hv)
theorem fJ (I : Inv X pins σ H s) : ∀ (ks : List NestedKey) {vs : List V} {us : List Value},dh X.K H vs ks→Vals vs us→NestedAll s.heap ks us
  | [],_,_,h,r=>by
    cases h
    cases r
    exact .nil
  | k :: ks,_,_,h,r=>by
    cases h with
    | cons a b=>
      cases r with
      | cons c d=>exact .cons (fY I k a c) (fJ I ks b d)
end
def NKs (K : Fg) (H : Hp) (es : List (NestedKey×Addr×V)) : Prop:=∀ e ∈ es,NKq K H (.ref e.2.1) e.1∧e.1.depth ≤ 8
theorem sC (I : Inv X pins σ H s) {es : List (NestedKey×Addr×V)} (r : Rd H a (dnO X.w a es)) (k : NKs X.K H es) :
    es.length ≤ sizeLine∧(a == sysModules) = false∧∃ xs,Paired EnR es xs∧s.heap.DictOfH (nestedKind X.prog X.w) a xs:=by
  obtain ⟨⟨z,y,xs,pr,o,de,ep,h1,h2,h3,h4,h5⟩,_⟩:=(show ObjOk X.prog X.w H s.heap a (dnO X.w a es) from rd_of I.hok r)
  refine ⟨z,y,xs,pr,o,de,ep,h1,h2,h3,h4,fun x hx=>?_,h5⟩
  have all : ∀ {l : List (NestedKey×Addr×V)} {m : List (NestedKey×Addr×Value)},Paired EnR l m→NKs X.K H l→∀ x ∈ m,(nestedKind X.prog X.w).is s.heap x.1 x.2.1:=by
    intro l m q
    induction q with
    | nil=>intro _ x hx; exact nomatch hx
    | @cons p q ps qs hq t ih=>
      intro hk x hx
      rcases List.mem_cons.mp hx with e | hx
      · subst e
        obtain ⟨h1,h2⟩:=hk p List.mem_cons_self
        refine ⟨?_,by rw [← hq.1]; exact h2⟩
        rw [← hq.1,← hq.2.1]
        exact fY I _ h1 rfl
      · exact ih (fun e he=>hk e (List.mem_cons_of_mem _ he)) x hx
  exact all pr k x hx
end
def dR (es : List (NestedKey×Addr×V)) (k : NestedKey) : Option V:=(es.find? fun e=>decide (e.1 = k)).map (·.2.2)
def putN (es : List (NestedKey×Addr×V)) (k : NestedKey) (b : Addr) (v : V) : List (NestedKey×Addr×V):=
  if (dR es k).isSome = true then es.map fun e=>if e.1 = k then (e.1,e.2.1,v) else e else es ++ [(k,b,v)]
theorem ir {e : NestedKey×Addr×V} {r : List (NestedKey×Addr×V)} {k : NestedKey} (h : e.1 = k) : dR (e :: r) k = some e.2.2:=by simp [dR,List.find?_cons,h]
theorem iR {e : NestedKey×Addr×V} {r : List (NestedKey×Addr×V)} {k : NestedKey} (h : ¬ e.1 = k) : dR (e :: r) k = dR r k:=by simp [dR,List.find?_cons,h]
theorem oG {es : List (NestedKey×Addr×V)} {xs : List (NestedKey×Addr×Value)} (r : Paired EnR es xs) (k : NestedKey) : RelO (dR es k) ((atKey xs k).map (·.2)):=by
  induction r with
  | nil=>exact True.intro
  | @cons p q ps qs h t ih=>
    obtain ⟨h1,_,h2⟩:=h
    by_cases e : p.1 = k
    · have e' : q.1 = k:=h1.symm.trans e
      have b : atKey (q :: qs) k = some q.2:=by simp [atKey,List.find?_cons,e']
      rw [ir e,b]; exact h2
    · have e' : ¬ q.1 = k:=fun z=>e (h1.trans z)
      have b : atKey (q :: qs) k = atKey qs k:=by simp [atKey,List.find?_cons,e']
      rw [iR e,b]; exact ih
theorem rh {es : List (NestedKey×Addr×V)} {xs : List (NestedKey×Addr×Value)} (r : Paired EnR es xs) (k : NestedKey) {y : V} {u : Value} (ry : RelV y u) :
    Paired EnR (es.map fun e=>if e.1 = k then (e.1,e.2.1,y) else e) (xs.map (putAt k u)):=by
  induction r with
  | nil=>exact .nil
  | @cons p q ps qs h t ih=>
    rw [List.map_cons,List.map_cons]
    refine .cons ?_ ih
    obtain ⟨h1,h2,h3⟩:=h
    unfold putAt
    by_cases e : p.1 = k
    · rw [if_pos e,if_pos (h1.symm.trans e)]; exact ⟨h1,h2,ry⟩
    · rw [if_neg e,if_neg (fun z=>e (h1.trans z))]; exact ⟨h1,h2,h3⟩
theorem vo {es : List (NestedKey×Addr×V)} {xs : List (NestedKey×Addr×Value)} (r : Paired EnR es xs) (k : NestedKey) (b : Addr) {y : V} {u : Value} (ry : RelV y u) : Paired EnR (putN es k b y) (storedH xs k b u):=by
  have e : (dR es k).isSome = (atKey xs k).isSome:=by rw [(oG r k).isSome_eq,Option.isSome_map]
  unfold putN storedH
  rw [e]
  by_cases q : (atKey xs k).isSome = true
  · rw [if_pos q,if_pos q]; exact rh r k ry
  · rw [if_neg q,if_neg q]; exact Paired.snoc r ⟨rfl,rfl,ry⟩
theorem rT (es : List (NestedKey×Addr×V)) (k : NestedKey) (b : Addr) (v : V) : (putN es k b v).length ≤ es.length + 1:=by
  unfold putN
  split
  · rw [List.length_map]; omega
  · rw [List.length_append,List.length_cons,List.length_nil]; omega
section
variable {X : Cx} {pins : List (Addr×Obj)} {σ : L2.St} {H : Hp} {s : Shared} {a : Addr} {y v : V} {u r : Value} {o : Option V} {A : Around} {E : Value→Shared→Prop}
theorem qF {P : Program} {w : World} {H' : Hp} {h' : Heap} {es : List (NestedKey×Addr×V)} {xs : List (NestedKey×Addr×Value)} (z : es.length ≤ sizeLine) (hd : (a == sysModules) = false) (rel : Paired EnR es xs) (dd : h'.DictOfH (nestedKind P w) a xs) :
    ObjOk P w H' h' a (dnO w a es):=by
  obtain ⟨o,de,ep,h1,h2,h3,h4,_,h5⟩:=dd
  refine ⟨⟨z,hd,xs,rel,o,de,ep,h1,h2,h3,h4,h5⟩,⟨o,h1⟩,fun g1 g2 ⟨z',y',xs',pr',o',de',ep',q1,q2⟩ st=>⟨z',y',xs',pr',o',de',ep',st _ q1,q2⟩⟩
theorem n_len {Q : Value→Shared→Prop} {es : List (NestedKey×Addr×V)} (I : Inv X pins σ H s) (e : Rd H a (dnO X.w a es)) (nk : NKs X.K H es) (h : ∀ t s',Inv X pins σ H s'→Q (.int es.length t) s') : wpAny (model X.prog X.w) A (call (.builtin "len") [.ref a]) Q E s:=by
  obtain ⟨z,hd,xs,rel,dd⟩:=sC I e nk
  refine call_len_dictH hd dd (by rw [← Paired.length rel]; rw [sizeLine_eq] at z; omega) ?_
  rw [← Paired.length rel]
  exact h _ _ (I.tok _)
theorem ra {P : Program} {w : World} {H : Hp} (h : Heap) (hb : sysModules < h.objs.size) : ObjOk P w H (h.push { cls:=.type "dict",data:=.dict #[] }) h.objs.size (dnO w h.objs.size []):=
  qF (P:=P) (w:=w) (es:=[]) (xs:=[]) (Nat.zero_le _) (beq_eq_false_iff_ne.mpr (Ne.symm (Nat.ne_of_lt hb))) .nil (Heap.DictOfH.new h)
end
def wB (w : World) : TE:=fun _ H Q=>∀ p,H p = none→Q (.ref p) (upd H p (dnO w p []))
section
variable {X : Cx} {K : Fg} {w : World} {o i k value : Expr} {pos pos' : Pos} {td ty tv tk : TE}
theorem oD (hw : X.w = w:=by rfl) : PE X (.Dict [] [] pos) (wB w):=⟨fun pins s σ H Q I h=>by
  subst hw
  exact wpAny_Dict_empty ⟨.ref s.heap.objs.size,_,I.laid (a:=s.heap.objs.size) (o:=dnO X.w s.heap.objs.size []) (t':=s.toks) (fun _ _ q=>Heap.get?_push_of_some _ q) (Nat.le_refl _) (ra s.heap I.big),rfl,h _ (I.hok.fresh (Nat.le_refl _))⟩⟩
end
end Kx
end
section
namespace Kx
open PySem L2
abbrev ST : Type:=List Str×List Int
def kN (k : ST) : NestedKey:=.tup [.tup (k.1.map .text),.tup (k.2.map .num)]
theorem g0 : ∀ {a b : List Str},a.map NestedKey.text = b.map NestedKey.text→a = b
  | [],[],_=>rfl
  | [],_ :: _,h=>by cases h
  | _ :: _,[],h=>by cases h
  | x :: a,y :: b,h=>by
    rw [List.map_cons,List.map_cons] at h
    injection h with h1 h2
    injection h1 with h1
    rw [h1,g0 h2]
theorem oC : ∀ {a b : List Int},a.map NestedKey.num = b.map NestedKey.num→a = b
  | [],[],_=>rfl
  | [],_ :: _,h=>by cases h
  | _ :: _,[],h=>by cases h
  | x :: a,y :: b,h=>by
    rw [List.map_cons,List.map_cons] at h
    injection h with h1 h2
    injection h1 with h1
    rw [h1,oC h2]
theorem nA (a b : ST) (h : kN a = kN b) : a = b:=by
  unfold kN at h
  injection h with h
  injection h with h1 h2
  injection h2 with h2 h3
  injection h1 with h1
  injection h2 with h2
  exact Prod.ext (g0 h1) (oC h2)
theorem fz : ∀ a : List Str,NestedKey.depthAll (a.map .text) = 0
  | []=>rfl
  | x :: a=>by rw [List.map_cons,NestedKey.depthAll,NestedKey.depth,fz a]; rfl
theorem jK : ∀ a : List Int,NestedKey.depthAll (a.map .num) = 0
  | []=>rfl
  | x :: a=>by rw [List.map_cons,NestedKey.depthAll,NestedKey.depth,jK a]; rfl
theorem ui (k : ST) : (kN k).depth ≤ 8:=by
  unfold kN
  simp only [NestedKey.depth,NestedKey.depthAll,fz,jK]
  decide
section
variable {β : Type} {K : Fg} {G G' : Hp} {e : β→Dat} {w : World}
theorem ut : ∀ {xs : List Str} {vs : List V},ap K G vs (xs.map Dat.str)→dh K G vs (xs.map .text)
  | [],_,h=>by cases h; exact .nil
  | x :: xs,_,h=>by
    cases h with
    | cons a b=>
      cases a with
      | str o=>exact .cons (.str o) (ut b)
inductive cz (K : Fg) (G : Hp) (e : β→Dat) : List (NestedKey×Addr×V)→List (ST×β)→Prop
  | nil : cz K G e [] []
  | cons {k : ST} {b : Addr} {v : V} {y : β} {es : List (NestedKey×Addr×V)} {xs : List (ST×β)} : NKq K G (.ref b) (kN k)→Dq K G v (e y)→cz K G e es xs→cz K G e ((kN k,b,v) :: es) ((k,y) :: xs)
theorem cz.up {es : List (NestedKey×Addr×V)} {xs : List (ST×β)} (s : Same G G') (h : cz K G e es xs) : cz K G' e es xs:=by
  induction h with
  | nil=>exact .nil
  | cons a b _ ih=>exact .cons (eH s _ a) (aa s _ b) ih
theorem cz.len {es : List (NestedKey×Addr×V)} {xs : List (ST×β)} (h : cz K G e es xs) : es.length = xs.length:=by
  induction h with
  | nil=>rfl
  | cons a b _ ih=>rw [List.length_cons,List.length_cons,ih]
theorem cz.ks {es : List (NestedKey×Addr×V)} {xs : List (ST×β)} (h : cz K G e es xs) {H : Hp} (s : Same G H) : NKs K H es:=by
  induction h with
  | nil=>exact fun e he=>nomatch he
  | cons a b _ ih=>
    intro e he
    rcases List.mem_cons.mp he with rfl | he
    · exact ⟨eH s _ a,ui _⟩
    · exact ih e he
theorem cz.get {es : List (NestedKey×Addr×V)} {xs : List (ST×β)} (h : cz K G e es xs) (k : ST) : (bS xs k = none∧dR es (kN k) = none)∨∃ b v,bS xs k = some b∧dR es (kN k) = some v∧Dq K G v (e b):=by
  induction h with
  | nil=>exact .inl ⟨rfl,rfl⟩
  | @cons k' a v y es xs h1 h2 _ ih=>
    by_cases q : k' = k
    · subst q
      exact .inr ⟨y,v,bI (p:=(k',y)) rfl,ir (e:=(kN k',a,v)) rfl,h2⟩
    · rw [bH (p:=(k',y)) q,iR (e:=(kN k',a,v)) fun z=>q (nA _ _ z)]
      exact ih
theorem cz.some' {es : List (NestedKey×Addr×V)} {xs : List (ST×β)} (h : cz K G e es xs) (k : ST) : (dR es (kN k)).isSome = iK xs k:=by
  unfold iK
  rcases h.get k with ⟨z,z2⟩ | ⟨b',v,e1,e2,e3⟩
  · rw [z,z2]; rfl
  · rw [e1,e2]; rfl
theorem tZ (es : List (NestedKey×Addr×V)) (k : NestedKey) : (dR es k).isSome = es.any fun x=>decide (x.1 = k):=by
  unfold dR
  rw [Option.isSome_map]
  induction es with
  | nil=>rfl
  | cons x r ih=>
    rw [List.find?_cons,List.any_cons]
    cases decide (x.1 = k) with
    | true=>rfl
    | false=>rw [Bool.false_or]; exact ih
theorem cz.any {es : List (NestedKey×Addr×V)} {xs : List (ST×β)} (h : cz K G e es xs) (k : ST) : (es.any fun x=>decide (x.1 = kN k)) = xs.any fun x=>decide (x.1 = k):=by
  induction h with
  | nil=>rfl
  | @cons k' a v y es xs h1 h2 _ ih=>
    rw [List.any_cons,List.any_cons,ih]
    by_cases q : k' = k
    · subst q; simp
    · have q2 : ¬ kN k' = kN k:=fun z=>q (nA _ _ z)
      simp [q,q2]
theorem cz.put {es : List (NestedKey×Addr×V)} {xs : List (ST×β)} (h : cz K G e es xs) (k : ST) {a : Addr} {v : V} {b : β} (hk : NKq K G (.ref a) (kN k)) (hv : Dq K G v (e b)) : cz K G e (putN es (kN k) a v) (bZ xs k b):=by
  unfold putN bZ
  rw [tZ,h.any k]
  split
  · next hh=>
    clear hh
    induction h with
    | nil=>exact .nil
    | @cons k' a' v' b' es xs h1 h2 _ ih=>
      rw [List.map_cons,List.map_cons]
      by_cases q : k' = k
      · subst q
        rw [if_pos rfl,if_pos rfl]
        exact .cons h1 hv ih
      · rw [if_neg (show ¬ (kN k',a',v').1 = kN k from fun z=>q (nA _ _ z)),if_neg (show ¬ (k',b').1 = k from q)]
        exact .cons h1 h2 ih
  · next hh=>
    clear hh
    induction h with
    | nil=>exact .cons hk hv .nil
    | cons h1 h2 _ ih=>exact .cons h1 h2 ih
theorem cz.keys {es : List (NestedKey×Addr×V)} {xs : List (ST×β)} (h : cz K G e es xs) : es.map (·.1) = xs.map fun x=>kN x.1:=by
  induction h with
  | nil=>rfl
  | cons a b _ ih=>rw [List.map_cons,List.map_cons,ih]
theorem cz.vals {es : List (NestedKey×Addr×V)} {xs : List (ST×β)} (h : cz K G e es xs) : ap K G (es.map (·.2.2)) (xs.map fun x=>e x.2):=by
  induction h with
  | nil=>exact .nil
  | cons a b _ ih=>exact .cons b ih
theorem cz.of : ∀ {es : List (NestedKey×Addr×V)} {xs : List (ST×β)},es.map (·.1) = (xs.map fun x=>kN x.1)→dh K G (es.map fun x=>V.ref x.2.1) (xs.map fun x=>kN x.1)→ap K G (es.map (·.2.2)) (xs.map fun x=>e x.2)→cz K G e es xs
  | [],[],_,_,_=>.nil
  | [],_ :: _,h,_,_=>by cases h
  | _ :: _,[],h,_,_=>by cases h
  | (k,a,v) :: es,(x,y) :: xs,h,hk,hd=>by
    cases hk with
    | cons k1 k2=>
      cases hd with
      | cons h1 h2=>
        rw [List.map_cons,List.map_cons] at h
        obtain ⟨e1,e2⟩:=List.cons.inj h
        cases (show k = kN x from e1)
        exact .cons k1 h1 (cz.of e2 k2 h2)
theorem uA {a : Addr} {es : List (NestedKey×Addr×V)} : Mt (some (dnO w a es)):=⟨w,a,es,rfl⟩
end
end Kx
end
section
namespace Kx
open PySem L2 PySem.Spec PyProof.Rows PySem.W
end Kx
end
section
namespace Kx
open PySem L2 PySem.Spec PyProof.Rows PySem.W
end Kx
end
section
namespace Kx
open PySem L2 PySem.Spec PyProof.Rows
end Kx
end
section
namespace Kx
open PySem L2
section
variable {K : Fg} {G : Hp} {R : Addr→Prop} {ns : List Str}
def RgOk (G : Hp) (R : Addr→Prop) (ns : List Str) : Prop:=∀ a,R a→(∃ xs,G a = some (.lst xs))∨∃ C dx fs,G a = some (.ins C dx fs)∧fs.map (·.1) = ns
end
end Kx
end
section
namespace Kx
open PySem L2
def EvW [Tb] (te : TE) (σ : L2.St) (G M : Hp) (R : V→Hp→Hp→Prop) : Prop:=
  ∀ G0 H,Same G G0→Ok G0 M H→∀ Q : VK,(∀ v G' M' H',Same G0 G'→Ok G' M' H'→R v G' M'→Q v H')→te σ H Q
end Kx
end
section
namespace Kx
open PySem L2
end Kx
end
section
namespace Kx
open PySem L2
end Kx
end
section
namespace Kx
open PySem L2 PySem.Spec PyProof.Rows
structure KDI (K : Fg) (w : World) (d : Addr) (kvs : List (Str×Int)) : Prop where
  kd : ∃ es n,KDict K w d es n
  val : ∀ z : Str,(∃ i t,kvs.lookup z = some i∧PySem.W.nsIn K d z = some (some (.int i t)))∨(kvs.lookup z = none∧PySem.W.nsIn K d z = some none)
end Kx
end
section
namespace PyProof.Rows
open PySem PySem.Spec
end PyProof.Rows
namespace Kx
open PySem L2 PySem.Spec PyProof.Rows
end Kx
end
section
namespace Kx
open PySem L2
end Kx
end
section
namespace Kx
open PySem L2
end Kx
end
section
namespace PySem
end PySem
namespace PySem
end PySem
end
section
namespace Kx
open PySem L2 PySem.Spec PyProof.Rows
end Kx
end
section
namespace Kx
open PySem L2
end Kx
namespace Kx
open PySem L2
end Kx
namespace Kx
open PySem L2
end Kx
end
section
namespace Kx
open PySem PySem.Spec PyProof.Rows L2
end Kx
end
section
namespace Kx
open PySem L2
end Kx
end
section
namespace Kx
open PySem L2
end Kx
namespace Kx
open PySem PySem.Spec PyProof.Rows L2
end Kx
namespace Kx
open PySem L2
end Kx
namespace Kx
open PySem L2
end Kx
namespace Kx
open PySem L2
theorem EvW.imp [Tb] {te : TE} {σ : L2.St} {G M : Hp} {R R' : V→Hp→Hp→Prop} (h : EvW te σ G M R) (k : ∀ v G M,R v G M→R' v G M) : EvW te σ G M R':=fun G0 H s k0 Q q=>
  h G0 H s k0 Q fun v G1 M1 H1 s1 k1 hr=>q v G1 M1 H1 s1 k1 (k v G1 M1 hr)
end Kx
namespace Kx
open PySem L2
end Kx
namespace Kx
open PySem L2
end Kx
namespace Kx
open PySem L2
end Kx
end
section
namespace Kx
open PySem L2 PySem.Spec PyProof.Rows
end Kx
end
section
namespace Kx
open PySem L2 PySem.Spec PyProof.Rows
end Kx
end
section
namespace PySem
open Builtin Builtin.Str
end PySem
namespace Kx
open PySem L2 PySem.Spec PyProof.Rows
end Kx
end
section
namespace Kx
open PySem L2 PySem.Spec PyProof.Rows
end Kx
end
section
namespace Kx
open PySem L2 PySem.Spec PyProof.Rows HT
end Kx
end
section
namespace Kx
open PySem L2 PySem.Spec PyProof.Rows
end Kx
end
section
namespace Kx
open PySem L2 PySem.Spec PyProof.Rows PySem.W
end Kx
end
section
namespace Kx
open PySem PySem.Spec PyProof.Rows L2 L2N HandSPX
end Kx
end
section
namespace Kx
open PySem L2 PySem.Spec PyProof.Rows
end Kx
end
section
namespace Kx
open PySem L2 PySem.Spec PyProof.Rows
end Kx
end
section
namespace Kx
open PySem L2 PySem.Spec PyProof.Rows
end Kx
end
section
namespace Kx
open PySem L2 PySem.Spec PyProof.Rows
section
variable {σ : L2.St} {G M : Hp} {H : Hp} {u : TS} {D : Ends}
theorem oH [Tb] {K : Fg} {i j l m : Nat} {v w x y : V} (k : Ok G M H) (h : ∀ G' H',Same G G'→Ok G' M H'→u D ((((σ.set i (some v)).set j (some w)).set l (some x)).set m (some y)) H') : [v,w,x,y].length ≤ sizeLine∧∀ p,H p = none→gTup K 4 (gCons (gName i) (gCons (gName j) (gCons (gName l) (gCons (gName m) gNil)))) (.ref p) σ (upd H p (.tup [v,w,x,y])) (u D):=by
  refine ⟨by show 4 ≤ sizeLine; decide,fun p hp=>?_⟩
  have sp : Same G (upd G p (.tup [v,w,x,y])):=Same.new (Same.none k.g hp)
  exact ⟨p,[v,w,x,y],rfl,.inl (.inl upd_same),rfl,v,[w,x,y],rfl,w,[x,y],rfl,x,[y],rfl,y,[],rfl,rfl,h _ _ sp (k.newG _ hp)⟩
end
end Kx
end
section
namespace Kx
open PySem L2 PySem.Spec PyProof.Rows
end Kx
end
section
namespace Kx
open PySem L2 PySem.Spec PyProof.Rows
end Kx
end
section
namespace Kx
open PySem L2 PySem.Spec PyProof.Rows
structure mt (d : Nat) (A : Around) : Prop where
  hd : A.handled = none
  dp : A.depth + d + 11 < recursionLimit
  un : A.units + 4 * d + 240 < cLine
theorem mt.deeper {d : Nat} {A : Around} (r : mt (d + 1) A) (env : Env) : mt d (A.deeper env):=
  ⟨r.hd,by have:=r.dp; show A.depth + 1 + d + 11 < _; omega,by have:=r.un; show A.units + 3 + 4 * d + 240 < _; omega⟩
theorem mt.room {d : Nat} {A : Around} (r : mt d A) : Room 2 A:=⟨r.hd,by have:=r.dp; omega,by have:=r.un; omega⟩
end Kx
end
section
namespace Kx
open PySem L2 PySem.Spec PyProof.Rows
end Kx
end
section
namespace Kx
open PySem L2 PySem.Spec PyProof.Rows
section
variable {K : Fg} {w : World} {σ : L2.St} {G M M1 M2 : Hp} {td te : TE} {d : Addr} {kvs : List (Str×Int)} {z : Str}
theorem KDI.is (k : KDI K w d kvs) (z : Str) : ∃ r,PySem.W.nsIn K d z = some r∧r.isSome = (kvs.lookup z).isSome:=by
  rcases k.val z with ⟨i,t,e1,e2⟩ | ⟨e1,e2⟩
  · exact ⟨_,e2,by rw [e1]; rfl⟩
  · exact ⟨_,e2,by rw [e1]; rfl⟩
end
end Kx
end
section
namespace Kx
open PySem L2 PySem.Spec PyProof.Rows
end Kx
end
section
namespace Kx
open PySem L2 PySem.Spec PyProof.Rows
end Kx
end
section
namespace Kx
open PySem L2 PySem.Spec PyProof.Rows
end Kx
end
section
namespace Kx
open PySem L2 PySem.Spec PyProof.Rows
end Kx
end
section
namespace Kx
open PySem L2 PySem.Spec PyProof.Rows
end Kx
end
section
namespace Kx
open PySem L2 PySem.Spec PyProof.Rows
end Kx
end
section
namespace Kx
open PySem L2 PySem.Spec PyProof.Rows
end Kx
end
section
namespace Kx
open PySem L2 PySem.Spec PyProof.Rows
end Kx
end
section
namespace PySem
open Sem (wp)
section
variable {prog : Program} {w : World} {A : Around} {E : Value→Shared→Prop} {s : Shared}
theorem dC {it d : Addr} {i ep : Nat} {es : Array DictEntry} {Q : Value→Shared→Prop} (hit : s.heap.IsKeyIter it d i es.size ep) (hm : s.heap.DictRaw d es ep) (hlt' : i < es.size)
    (hQ : ∀ h',h'.IsKeyIter it d (i + 1) es.size ep→Heap.SameBut it s.heap h'→Q es[i].key { s with heap:=h' }) : wpAny (model prog w) A (Builtin.SmallTypes.nextOf (.ref it)) Q E s:=by
  obtain ⟨o,ho,hc,hd⟩:=id hit
  obtain ⟨od,hod,hcd,hdd⟩:=id hm
  unfold Builtin.SmallTypes.nextOf
  refine wpAny_bind (wpAny_callSpecial?_slot (name:=Str.ofString "__next__") hit.typeIs F.slot_dict_keyiterator_next
    (wpAny_call_entry F.slot_dict_keyiterator_next hit.typeIs F.entry_dict_keyiterator_next ?_ (F.args_dict_keyiterator_next_1 _)))
  refine wpAny_bind (wpAny_pure ?_)
  refine wpAny_bind ?_
  refine wpAny_bind ?_
  first | refine wpAny_bind (wpAny_typeNameOfWhole_keyiter hit.typeIs (wpAny_pure ?_)) | refine wpAny_bind (wpAny_typeNameOf_keyiter hit.typeIs (wpAny_pure ?_))
  refine wpAny_bind (wpAny_fieldsOf ho hd ?_)
  have hown : Builtin.Dict_items.ownsTuple "dict_keyiterator" = false:=by decide
  simp only [hown,Bool.false_eq_true,if_false]
  show wpAny _ _ (if (Value.ref d == Value.none) = true then _ else _) _ _ s
  rw [if_neg (show ¬ ((Value.ref d == Value.none) = true) from Bool.false_ne_true)]
  refine wpAny_bind (wpAny_pure ?_)
  refine wpAny_bind (wpAny_dictEntries hod hdd ?_)
  rw [if_neg (by simp)]
  refine wpAny_bind (wpAny_pure ?_)
  refine wpAny_bind (wpAny_dictEpoch hod hdd ?_)
  rw [if_neg (by simp)]
  refine wpAny_pure ?_
  simp only [show ¬ ((i : Int) < 0) from by omega,if_false,Int.toNat_natCast,Array.getElem?_eq_getElem hlt']
  refine wpAny_bind ?_
  first | refine wpAny_bind (wpAny_typeNameOfWhole_keyiter hit.typeIs (wpAny_pure ?_)) | refine wpAny_bind (wpAny_typeNameOf_keyiter hit.typeIs (wpAny_pure ?_))
  refine wpAny_bind (wpAny_isOneOf_keyiter hit.typeIs ?_)
  show wpAny _ _ (setField (.ref it) 1 (rawInt ((i : Int) + 1)) >>= _) _ _ s
  refine wpAny_bind (wpAny_setField ho hd (by simp) ?_)
  have hit' : (s.heap.update it (Obj.mapFields (·.setIfInBounds 1 (rawInt ((i : Int) + 1))))).IsKeyIter it d (i + 1) es.size ep:=
    ⟨_,Heap.get?_update_self _ ho (Obj.isFreed_of_fields (Obj.data_mapFields hd _)),(Obj.cls_mapFields ..).trans hc,by rw [Obj.data_mapFields hd]; simp [rawInt]⟩
  refine wpAny_bind (wpAny_holding ?_)
  refine wpAny_bind (wpAny_isOneOf_keyiter (s:={ s with heap:=s.heap.update it (Obj.mapFields (·.setIfInBounds 1 (rawInt ((i : Int) + 1)))) }) hit'.typeIs ?_)
  show wpAny _ _ (pure es[i].key) _ _ _
  exact wpAny_pure (wpAny_pure ⟨_,rfl,wpAny_pure (hQ _ hit' (Heap.SameBut.update ..))⟩)
theorem dQ {it d : Addr} {i ep : Nat} {es : Array DictEntry} {Q : Value→Shared→Prop} (hh : A.handled = none) (hit : s.heap.IsKeyIter it d i es.size ep) (hm : s.heap.DictRaw d es ep) (hge : es.size ≤ i)
    (hE : ∀ h' e,Heap.ExtBut it s.heap h'→(∃ o,h'.get? e = some o∧o.cls = .type "StopIteration")→E (.ref e) { s with heap:=h' }) : wpAny (model prog w) A (Builtin.SmallTypes.nextOf (.ref it)) Q E s:=by
  obtain ⟨o,ho,hc,hd⟩:=id hit
  obtain ⟨od,hod,hcd,hdd⟩:=id hm
  unfold Builtin.SmallTypes.nextOf
  refine wpAny_bind (wpAny_callSpecial?_slot (name:=Str.ofString "__next__") hit.typeIs F.slot_dict_keyiterator_next
    (wpAny_call_entry F.slot_dict_keyiterator_next hit.typeIs F.entry_dict_keyiterator_next ?_ (F.args_dict_keyiterator_next_1 _)))
  refine wpAny_bind (wpAny_pure ?_)
  refine wpAny_bind ?_
  refine wpAny_bind ?_
  first | refine wpAny_bind (wpAny_typeNameOfWhole_keyiter hit.typeIs (wpAny_pure ?_)) | refine wpAny_bind (wpAny_typeNameOf_keyiter hit.typeIs (wpAny_pure ?_))
  refine wpAny_bind (wpAny_fieldsOf ho hd ?_)
  have hown : Builtin.Dict_items.ownsTuple "dict_keyiterator" = false:=by decide
  simp only [hown,Bool.false_eq_true,if_false]
  show wpAny _ _ (if (Value.ref d == Value.none) = true then _ else _) _ _ s
  rw [if_neg (show ¬ ((Value.ref d == Value.none) = true) from Bool.false_ne_true)]
  refine wpAny_bind (wpAny_pure ?_)
  refine wpAny_bind (wpAny_dictEntries hod hdd ?_)
  rw [if_neg (by simp)]
  refine wpAny_bind (wpAny_pure ?_)
  refine wpAny_bind (wpAny_dictEpoch hod hdd ?_)
  rw [if_neg (by simp)]
  refine wpAny_pure ?_
  simp only [show ¬ ((i : Int) < 0) from by omega,if_false,Int.toNat_natCast,Array.getElem?_eq_none hge]
  refine wpAny_bind ?_
  first | refine wpAny_bind (wpAny_typeNameOfWhole_keyiter hit.typeIs (wpAny_pure ?_)) | refine wpAny_bind (wpAny_typeNameOf_keyiter hit.typeIs (wpAny_pure ?_))
  show wpAny _ _ (setField (.ref it) 0 .none >>= _) _ _ s
  refine wpAny_bind (wpAny_setField ho hd (by simp) ?_)
  show wpAny _ _ (newExc (.type "StopIteration") [] >>= _) _ _ _
  refine wpAny_bind ?_
  simp only [newExc,newTuple]
  refine wpAny_bind (wpAny_newObj_type ?_ (by size_fits))
  refine wpAny_bind (m:=firstArgMember _ _) (wpAny_of_eq (a:=Value.none) (by first | rfl | (simp only [firstArgMember]; rfl)) ?_)
  refine wpAny_newObj_type ?_ (by size_fits)
  simp only [raiseNew]
  refine wpAny_bind (wpAny_handled ?_)
  first | rw [show A.in1.handled = none from hh] | rw [hh]
  refine wpAny_bind (wpAny_pure (wpAny_throw ?_))
  exact hE _ _ (((Heap.SameBut.update ..).extBut.push _).push _) ⟨_,Heap.get?_push_size _ rfl,rfl⟩
end
theorem Draws.keys {prog : Program} {w : World} {A : Around} (hh : A.handled = none) (it d : Addr) (hne : d ≠ it) (es : Array DictEntry) (ep : Nat) :
    Draws prog w A it [it,d] es.size (fun i v=>∃ hi : i < es.size,v = es[i].key) (fun i h=>h.IsKeyIter it d i es.size ep∧h.DictRaw d es ep) where
  live:=fun _ _ st=>let ⟨o,ho,_⟩:=st.1; ⟨o,ho⟩
  frame:=fun _ _ _ st hk=>⟨st.1.at fun o e=>hk it (by simp) o e,st.2.at fun o e=>hk d (by simp) o e⟩
  item:=fun i s Q E hi st hQ=>by
    refine dC st.1 st.2 hi fun h' hit' hs'=>?_
    exact hQ _ h' s.toks ⟨hi,rfl⟩ ⟨hit',st.2.at fun o e=>hs'.extBut d o hne e⟩ hs'
  done:=fun s Q E st hE=>dQ hh st.1 st.2 (Nat.le_refl _) hE
end PySem
namespace Kx
open PySem L2 PySem.Spec PyProof.Rows
end Kx
end
section
namespace Kx
open PySem L2 PySem.Spec PyProof.Rows
end Kx
end
section
namespace Kx
open PySem PySem.Spec PyProof.Rows L2
structure FnT (K : Fg) (mg : Str→Option Value) (x : Str) (st : Stmt) (ps : List Str) where
  a : Addr
  d : FuncData
  F : Fun K x x st a d
  b : Binds K d ps []
  g : mg x = some (.ref a)
structure MeT (K : Fg) (C : Addr) (m q : Str) (st : Stmt) (ps : List Str) where
  a : Addr
  d : FuncData
  F : Fun K m q st a d
  b : Binds K d ps []
  e : Meth K C m a
section
variable {K : Fg} {x q : Str} {st : Stmt} {f : Addr} {d : FuncData} {p1 p2 p3 p4 p5 p6 p7 p8 : Str}
abbrev fnv (x q : Str) (st : Stmt) (kV doc pm : Value) (an : Option Addr) (cdv ct : Value) : FuncData:=PySem.W.fnOf x q (defArgs st) (defBody st) (defScope st) .none kV doc pm an cdv ct
theorem bn1 (F : Fun K x q st f d) (h : ∀ kV doc pm an cdv ct u1,bindArgs (fnv x q st kV doc pm an cdv ct) ⟨[u1],[]⟩ = pure [(p1,u1)]:=by intros; rfl) : Binds K d [p1] []:=
  F.binds fun kV doc pm an cdv ct us hl=>match us,hl with | [u1],_=>h kV doc pm an cdv ct u1
theorem bn2 (F : Fun K x q st f d) (h : ∀ kV doc pm an cdv ct u1 u2,bindArgs (fnv x q st kV doc pm an cdv ct) ⟨[u1,u2],[]⟩ = pure [(p1,u1),(p2,u2)]:=by intros; rfl) : Binds K d [p1,p2] []:=
  F.binds fun kV doc pm an cdv ct us hl=>match us,hl with | [u1,u2],_=>h kV doc pm an cdv ct u1 u2
theorem bn3 (F : Fun K x q st f d) (h : ∀ kV doc pm an cdv ct u1 u2 u3,bindArgs (fnv x q st kV doc pm an cdv ct) ⟨[u1,u2,u3],[]⟩ = pure [(p1,u1),(p2,u2),(p3,u3)]:=by intros; rfl) : Binds K d [p1,p2,p3] []:=
  F.binds fun kV doc pm an cdv ct us hl=>match us,hl with | [u1,u2,u3],_=>h kV doc pm an cdv ct u1 u2 u3
theorem bn4 (F : Fun K x q st f d) (h : ∀ kV doc pm an cdv ct u1 u2 u3 u4,bindArgs (fnv x q st kV doc pm an cdv ct) ⟨[u1,u2,u3,u4],[]⟩ = pure [(p1,u1),(p2,u2),(p3,u3),(p4,u4)]:=by intros; rfl) : Binds K d [p1,p2,p3,p4] []:=
  F.binds fun kV doc pm an cdv ct us hl=>match us,hl with | [u1,u2,u3,u4],_=>h kV doc pm an cdv ct u1 u2 u3 u4
theorem bn6 (F : Fun K x q st f d) (h : ∀ kV doc pm an cdv ct u1 u2 u3 u4 u5 u6,bindArgs (fnv x q st kV doc pm an cdv ct) ⟨[u1,u2,u3,u4,u5,u6],[]⟩ = pure [(p1,u1),(p2,u2),(p3,u3),(p4,u4),(p5,u5),(p6,u6)]:=by intros; rfl) : Binds K d [p1,p2,p3,p4,p5,p6] []:=
  F.binds fun kV doc pm an cdv ct us hl=>match us,hl with | [u1,u2,u3,u4,u5,u6],_=>h kV doc pm an cdv ct u1 u2 u3 u4 u5 u6
end
theorem eVd [Tb] (K : Fg) {σ : L2.St} {G M : Hp} {d : Dat} {i : Nat} {v : V} (hp : Dq K G v d) (h : σ[i]? = some (some v):=by rfl) : Ev (tVar i) σ G M M (DD K d):=CG h hp
theorem fsc {N P : List Str} {sc : Scope} (h1 : sc.kind = .function:=by rfl) (h2 : sc.isCoroutine = false:=by rfl) (h3 : sc.isGenerator = false:=by rfl) (h4 : N.Nodup:=by decide +kernel) (h5 : N.take P.length = P:=by rfl)
    (h6 : ∀ x ∈ P,sc.names.lookup x = some .local∨sc.names.lookup x = some .cell:=by decide +kernel) (h7 : ∀ y ∈ sc.names,y.2 ≠ .free:=by decide +kernel) : FnScope N P sc:=⟨h1,h2,h3,h4,h5,h6,h7⟩
abbrev FnA (P : Program) (w : World) (base : Heap) (CX : CXT) (k : Nat) {K : Fg} {mg : Str→Option Value} {x : Str} {st : Stmt} {ps : List Str} (W : FnT K mg x st ps) (sp : Sp) : Prop:=FnOk P w K mg base CX k W.a W.d ps sp
abbrev FnB (P : Program) (w : World) (base : Heap) (CX : CXT) (k : Nat) (mg : Str→Option Value) {K : Fg} {C : Addr} {m q : Str} {st : Stmt} {ps : List Str} (W : MeT K C m q st ps) (sp : Sp) : Prop:=FnOk P w K mg base CX k W.a W.d ps sp
theorem pcW {X : Cx} {k : Nat} {x : Str} {st : Stmt} {ps : List Str} {sp : Sp} {p pos : Pos} {e : Expr} {es : List Expr} {t : TA} (W : FnT X.K X.mg x st ps) (F : FnOk X.prog X.w X.K X.mg X.base CX0 k W.a W.d ps sp) (hr : Room k X.A) (ha : PA X (e :: es) t) (hg : Gl X x:=by rfl)
    (hdb : (x == ("__debug__" : Str)) = false:=by decide) (he : starEach (e :: es) X.env = (false,eval e X.env) :: starEach es X.env:=by rfl) (hpl : (backTo pos (starEach es X.env)).any (·.1) = false:=by rfl) :
    PE X (.Call (.Name x p) (e :: es) [] pos) (tCall sp [] E0 t):=pe_call F hr hg W.g W.F.kp W.b .nil pass0 ha hdb he hpl
end Kx
end
section
namespace Kx
open PySem L2
end Kx
end
section
namespace Kx
open PySem L2 PySem.Spec PyProof.Rows
end Kx
end
section
namespace Kx
open PySem L2
end Kx
end
section
namespace Kx
open PySem L2
end Kx
end
section
namespace PySem.W
open PySem PySem.Calls PySem.Spec PyProof.Rows
end PySem.W
end
section
namespace Kx
open PySem L2 PySem.Spec PyProof.Rows
end Kx
end
section
namespace Kx
open PySem L2
end Kx
end
section
namespace Kx
open PySem L2 PySem.Spec PyProof.Rows
structure nu (κ : Type) where
  e : κ→Dat
  n : κ→NestedKey
  inj : ∀ a b,n a = n b→a = b
  dep : ∀ a,(n a).depth ≤ 8
  of : ∀ {K : Fg} {G : Hp} {v : V} {k : κ},Dq K G v (e k)→∃ b,v = .ref b∧NKq K G (.ref b) (n k)
inductive bW {κ β : Type} (kt : nu κ) (K : Fg) (G : Hp) (e : β→Dat) : List (NestedKey×Addr×V)→List (κ×β)→Prop
  | nil : bW kt K G e [] []
  | cons {k : κ} {b : Addr} {v : V} {y : β} {es : List (NestedKey×Addr×V)} {xs : List (κ×β)} : NKq K G (.ref b) (kt.n k)→Dq K G v (e y)→bW kt K G e es xs→bW kt K G e ((kt.n k,b,v) :: es) ((k,y) :: xs)
section
variable {κ β : Type} {kt : nu κ} {K : Fg} {G G' : Hp} {e : β→Dat} {w : World} {es : List (NestedKey×Addr×V)} {xs : List (κ×β)}
theorem bW.up (s : Same G G') (h : bW kt K G e es xs) : bW kt K G' e es xs:=by
  induction h with
  | nil=>exact .nil
  | cons a b _ ih=>exact .cons (eH s _ a) (aa s _ b) ih
theorem bW.len (h : bW kt K G e es xs) : es.length = xs.length:=by
  induction h with
  | nil=>rfl
  | cons a b _ ih=>rw [List.length_cons,List.length_cons,ih]
theorem bW.ks (h : bW kt K G e es xs) {H : Hp} (s : Same G H) : NKs K H es:=by
  induction h with
  | nil=>exact fun e he=>nomatch he
  | cons a b _ ih=>
    intro e he
    rcases List.mem_cons.mp he with rfl | he
    · exact ⟨eH s _ a,kt.dep _⟩
    · exact ih e he
theorem bW.get [DecidableEq κ] (h : bW kt K G e es xs) (k : κ) : (bS xs k = none∧dR es (kt.n k) = none)∨∃ b v,bS xs k = some b∧dR es (kt.n k) = some v∧Dq K G v (e b):=by
  induction h with
  | nil=>exact .inl ⟨rfl,rfl⟩
  | @cons k' a v y es xs h1 h2 _ ih=>
    by_cases q : k' = k
    · subst q
      exact .inr ⟨y,v,bI (p:=(k',y)) rfl,ir (e:=(kt.n k',a,v)) rfl,h2⟩
    · rw [bH (p:=(k',y)) q,iR (e:=(kt.n k',a,v)) fun z=>q (kt.inj _ _ z)]
      exact ih
theorem bW.snoc (h : bW kt K G e es xs) {k : κ} {a : Addr} {v : V} {b : β} (hk : NKq K G (.ref a) (kt.n k)) (hv : Dq K G v (e b)) : bW kt K G e (es ++ [(kt.n k,a,v)]) (xs ++ [(k,b)]):=by
  induction h with
  | nil=>exact .cons hk hv .nil
  | cons c d _ ih=>exact .cons c d ih
end
def wH (K : Fg) (w : World) (H : Hp) (a : Addr) (y v r : V) (H' : Hp) : Prop:=
  ∃ es k b,H a = some (dnO w a es)∧NKs K H es∧y = .ref b∧NKq K H y k∧k.depth ≤ 8∧es.length < sizeLine∧((dR es k = some r∧H' = H)∨(dR es k = none∧r = v∧H' = upd H a (dnO w a (putN es k b v))))
section
variable {X : Cx} {pins : List (Addr×Obj)} {σ : L2.St} {H : Hp} {s : Shared} {a : Addr} {y v r : V} {u uv : Value} {A : Around} {E : Value→Shared→Prop}
theorem qK {H' : Hp} {Q : Value→Shared→Prop} (hu : A.units + 64 < cLine) (I : Inv X pins σ H s) (g : wH X.K X.w H a y v r H') (ry : RelV y u) (rv : RelV v uv) (h : ∀ w' s',Inv X pins σ H' s'→RelV r w'→Q w' s') :
    wpAny (model X.prog X.w) A (call (.builtin "dict.setdefault") [.ref a,u,uv]) Q E s:=by
  obtain ⟨es,k,b,e,nk,rfl,ek,dk,l,cs⟩:=g
  cases (show u = Value.ref b from ry)
  obtain ⟨z,hd,xs,rel,dd⟩:=sC I (.inl e) nk
  have hz : xs.length ≤ sizeLine:=by rw [← Paired.length rel]; exact z
  have rr:=oG rel k
  refine call_setdefault_heap (knd:=nestedKind X.prog X.w) (hsz:=hz) (show A.in1.units + 8 < cLine from by rw [Around.in1_units]; omega) ⟨fY I k ek rfl,dk⟩ hd dd (fun p hp=>?_) fun hn h' dd' hs=>?_
  · rw [hp] at rr
    rcases cs with ⟨g1,rfl⟩ | ⟨g1,_⟩
    · rw [g1] at rr
      exact h _ _ (I.tok _) rr
    · rw [g1] at rr
      exact False.elim rr
  · rw [hn] at rr
    rcases cs with ⟨g1,_⟩ | ⟨g1,rfl,rfl⟩
    · rw [g1] at rr
      exact False.elim rr
    · have hl : (putN es k b r).length ≤ sizeLine:=by have:=rT es k b r; omega
      have he : ∃ q,h'.get? a = some q:=let ⟨q,_,_,hq,_⟩:=dd'; ⟨q,hq⟩
      exact h _ _ (d_write I (by rw [e]; exact True.intro) hs he (qF hl hd (vo rel k b rv) dd')) rv
end
def zW (K : Fg) (w : World) (td ty tx : TE) : TE:=fun σ H Q=>td σ H fun x H1=>∃ a,x = .ref a∧(∃ es,Rd H1 a (dnO w a es)∧NKs K H1 es)∧ty σ H1 fun y H2=>tx σ H2 fun z H3=>∃ r H4,wH K w H3 a y z r H4∧Q r H4
section
variable {X : Cx} {K : Fg} {w : World} {o e f : Expr} {apos cpos : Pos} {td ty tx : TE}
theorem rV (hu : X.A.units + 64 < cLine) (ho : PE X o td) (he : PE X e ty) (hf : PE X f tx) (m : M2 X o "setdefault" apos e f cpos) (hK : X.K = K:=by rfl) (hw : X.w = w:=by rfl) : PE X (.Call (.Attribute o "setdefault" apos) [e,f] [] cpos) (zW K w td ty tx):=by
  subst hK hw
  refine ⟨fun pins s σ H Q I h=>?_⟩
  refine wpAny_Call_method m.base m.few m.line PySem.F.plainAttrs_dict PySem.F.slot_dict_setdefault PySem.F.type_dict_setdefault (thn (ho.run pins s σ H _ I h) fun u s1 ⟨x,H1,I1,rx,a,ex,⟨es,d1,d2⟩,q1⟩=>?_)
  subst ex
  obtain rfl : u = Value.ref a:=rx
  obtain ⟨_,_,xs,_,dd⟩:=sC I1 d1 d2
  refine ⟨dd.typeIs,fun b q=>?_,?_⟩
  · cases q
    obtain ⟨ob,_,_,h1,h2,_⟩:=dd
    exact ⟨ob,h1,h2.2.1⟩
  · rw [m.trees]
    refine Calls.callWith_builtin rfl (Calls.evalArgs_plain (Calls.spliced_cons (thn (he.run pins s1 σ H1 _ I1 q1) fun iv s2 ⟨y,H2,I2,ry,q2⟩=>
      Calls.spliced_cons (thn (hf.run pins s2 σ H2 _ I2 q2) fun fv s3 ⟨z,H3,I3,rz,r,H4,g,q3⟩=>Calls.spliced_nil ?_))))
    exact qK hu I3 g ry rz fun w' s4 I4 rw'=>⟨r,H4,I4,rw',q3⟩
end
def oT {κ β : Type} [DecidableEq κ] (xs : List (κ×β)) (k : κ) (v : β) : Option (β×List (κ×β)):=(grd (xs.length < 16777216)).bind fun _=>some (match bS xs k with | some b=>(b,xs) | none=>(v,xs ++ [(k,v)]))
def tK (x : V) : TE:=fun _ H Q=>Q x H
section
variable {κ β : Type} {kt : nu κ} {K : Fg} {σ σ' : L2.St} {G G' M M1 M2 M3 : Hp} {ta tb te tc tk tv : TE} {D : Ends} {H : Hp} {u : TS} {e : β→Dat} {w : World} {p : Addr}
theorem B1 [Tb] {x : V} {d : Dat} (h : Dq K G x d) : Ev (tK x) σ G M M (DD K d):=fun G0 H s k Q q=>q x G0 H (Same.refl _) k (aa s _ h)
def A5 [Tb] (kt : nu κ) (K : Fg) (w : World) (te : TE) (σ : L2.St) (G M : Hp) (p : Addr) (e : β→Dat) (ys : List (κ×β)) (d : Dat) : Prop:=
  ∀ G0 H,Same G G0→Ok G0 M H→∀ Q : VK,(∀ v es' G' H',Same G0 G'→Ok G' (upd M p (dnO w p es')) H'→bW kt K G' e es' ys→Dq K G' v d→Q v H')→te σ H Q
theorem rW [Tb] [DecidableEq κ] {es : List (NestedKey×Addr×V)} {xs : List (κ×β)} {k : κ} {b : β} {r : β×List (κ×β)} (hr : oT xs k b = some r) (hp : M p = some (dnO w p es)) (hd : bW kt K G e es xs) (ho : Ev ta σ G M M (OW p)) (hk : Ev tb σ G M M (DD K (kt.e k))) (hv : Ev tc σ G M M (DD K (e b))) :
    A5 kt K w (zW K w ta tb tc) σ G M p e r.2 (e r.1):=fun G0 H s ok Q q=>
  ho G0 H s ok _ fun x G1 H1 s1 k1 hx=>by
    cases hx
    have s01:=s.trans s1
    refine ⟨p,rfl,⟨es,.inl (k1.m _ _ hp),hd.ks (s01.trans k1.g)⟩,hk G1 H1 s01 k1 _ fun y G2 H2 s2 k2 hy=>hv G2 H2 (s01.trans s2) k2 _ fun z G3 H3 s3 k3 hz=>?_⟩
    obtain ⟨_,g1,hr⟩:=bs hr
    obtain ⟨c,rfl,hc⟩:=kt.of hy
    have s03:=(s01.trans s2).trans s3
    have pM : upd M p (dnO w p es) = M:=by
      funext a
      by_cases q : a = p
      · subst q; rw [upd_same,hp]
      · rw [upd_ne q]
    have hl : es.length < sizeLine:=by rw [hd.len,sizeLine_eq]; exact bz g1
    rcases hd.get k with ⟨a1,a2⟩ | ⟨b',v,a1,a2,a3⟩
    · rw [a1] at hr
      cases hr
      refine ⟨z,_,⟨es,kt.n k,c,k3.m _ _ hp,hd.ks (s03.trans k3.g),rfl,eH (s3.trans k3.g) _ hc,kt.dep k,hl,.inr ⟨a2,rfl,rfl⟩⟩,?_⟩
      have ep : putN es (kt.n k) c z = es ++ [(kt.n k,c,z)]:=by
        unfold putN
        rw [a2]
        rfl
      rw [ep]
      exact q z _ G3 _ ((s1.trans s2).trans s3) (k3.chg _ hp uA) ((hd.up s03).snoc (eH s3 _ hc) hz) hz
    · rw [a1] at hr
      cases hr
      refine ⟨v,_,⟨es,kt.n k,c,k3.m _ _ hp,hd.ks (s03.trans k3.g),rfl,eH (s3.trans k3.g) _ hc,kt.dep k,hl,.inl ⟨a2,rfl⟩⟩,?_⟩
      exact q v es G3 _ ((s1.trans s2).trans s3) (by rw [pM]; exact k3) (hd.up s03) (aa s03 _ a3)
theorem ve [Tb] {R : R2} {ys : List (κ×β)} {d : Dat} {r : Bool} (h : A5 kt K w ta σ G M p e ys d) (hc : ∀ x es' G' ,Same G G'→Dq K G' x d→Ev (tOp R (tK x) tb) σ G' (upd M p (dnO w p es')) (upd M p (dnO w p es')) (DD K (.bool r))) (ok : Ok G M H)
    (k : ∀ es' G' H',Same G G'→Ok G' (upd M p (dnO w p es')) H'→bW kt K G' e es' ys→D.rt (.bl r) H') : tSeq (tRet (tOp R ta tb)) u D σ H:=
  h G H (Same.refl _) ok _ fun x es' G1 H1 s1 k1 hr hx=>hc x es' G1 s1 hx G1 H1 (Same.refl _) k1 _ fun v G2 H2 s2 k2 hv=>by
    cases hv
    exact k es' G2 H2 (s1.trans s2) k2 (hr.up s2)
def Bg {α : Type} [Tb] (kt : nu κ) (K : Fg) (w : World) (e : β→Dat) (args : Addr→α→List V→Hp→Prop) (m : α→List (κ×β)→Option (Bool×List (κ×β))) : Sp:=fun vs H Q _=>
  ∃ (G M : Hp) (p : Addr) (es : List (NestedKey×Addr×V)) (xs ys : List (κ×β)) (a : α) (r : Bool),Ok G M H∧M p = some (dnO w p es)∧bW kt K G e es xs∧args p a vs G∧m a xs = some (r,ys)∧
    ∀ es' G' H',Same G G'→Ok G' (upd M p (dnO w p es')) H'→bW kt K G' e es' ys→Q (.bl r) H'
theorem ro [Tb] {α : Type} {args : Addr→α→List V→Hp→Prop} {m : α→List (κ×β)→Option (Bool×List (κ×β))} {E : XK} {t : TA} {A : TS} {a : α} {es : List (NestedKey×Addr×V)} {xs : List (κ×β)} {r : Bool×List (κ×β)} (hm : m a xs = some r) (hp : M1 p = some (dnO w p es)) (hd : bW kt K G e es xs) (ha : EvA t σ G M M1 (args p a)) (ok : Ok G M H)
    (h1 : r.1 = false→∀ es' G' H',Same G G'→Ok G' (upd M1 p (dnO w p es')) H'→bW kt K G' e es' r.2→A { D with nx:=u D } σ H')
    (h2 : r.1 = true→∀ es' G' H',Same G G'→Ok G' (upd M1 p (dnO w p es')) H'→bW kt K G' e es' r.2→u D σ H') : tSeq (tIfS (tNot (tB (tCall (Bg kt K w e args m) [] E t))) A tNext) u D σ H:=
  ha G H (Same.refl _) ok _ fun vs G1 H1 s1 k1 hv=>by
    rw [List.append_nil]
    obtain ⟨b,ys⟩:=r
    refine ⟨G1,M1,p,es,xs,ys,a,b,k1,hp,hd.up s1,hv,hm,fun es' G2 H2 s2 k2 hr=>⟨b,rfl,?_⟩⟩
    cases b with
    | true=>exact h2 rfl es' G2 H2 (s1.trans s2) k2 hr
    | false=>exact h1 rfl es' G2 H2 (s1.trans s2) k2 hr
theorem upd_self {a : Addr} {o : HO} (h : M a = some o) : upd M a o = M:=by
  funext b
  by_cases q : b = a
  · subst q; rw [upd_same,h]
  · rw [upd_ne q]
def EvG [Tb] (kt : nu κ) (K : Fg) (w : World) (te : TE) (σ : L2.St) (G M M' : Hp) (e : β→Dat) (xs : List (κ×β)) : Prop:=
  ∀ G0 H,Same G G0→Ok G0 M H→∀ Q : VK,(∀ p es G' H',Same G0 G'→Ok G' (upd M' p (dnO w p es)) H'→M' p = none→bW kt K G' e es xs→Q (.ref p) H')→te σ H Q
theorem rG [Tb] : EvG kt K w (wB w) σ G M M e []:=fun G0 H s k Q q p hp=>q p [] G0 _ (Same.refl _) (k.newM _ hp uA) (Same.none k.m hp) .nil
theorem zV [Tb] {tr : TA} {R : Addr→List (NestedKey×Addr×V)→List V→Hp→Hp→Prop} {xs : List (κ×β)} (ha : EvG kt K w ta σ G M M1 e xs) (hr : ∀ p ws,M1 p = none→EvX tr σ G (upd M1 p (dnO w p ws)) (R p ws)) :
    EvX (tCons ta tr) σ G M fun vs G' M'=>∃ p ws r,vs = .ref p :: r∧M1 p = none∧bW kt K G' e ws xs∧R p ws r G' M':=fun G0 H s k Q q=>
  ha G0 H s k _ fun p ws G1 H1 s1 k1 hp hd=>hr p ws hp G1 H1 (s.trans s1) k1 _ fun xs G2 M2 H2 s2 k2 hy=>q (.ref p :: xs) G2 M2 H2 (s1.trans s2) k2 ⟨p,ws,xs,rfl,hp,hd.up s2,hy⟩
end
abbrev KF : Type:=List Str×List (Str×Str×Int)
section
variable {K : Fg} {G : Hp}
abbrev Cb : Str×Str×Int→Dat:=eP3 Dat.str Dat.str Dat.int
def mA (x : Str×Str×Int) : NestedKey:=.tup [.text x.1,.text x.2.1,.num x.2.2]
theorem oJ : ∀ {a b : List (Str×Str×Int)},a.map mA = b.map mA→a = b
  | [],[],_=>rfl
  | [],_ :: _,h=>by cases h
  | _ :: _,[],h=>by cases h
  | x :: a,y :: b,h=>by
    rw [List.map_cons,List.map_cons] at h
    injection h with h1 h2
    unfold mA at h1
    injection h1 with h1
    injection h1 with a1 h1
    injection h1 with a2 h1
    injection h1 with a3 h1
    injection a1 with a1
    injection a2 with a2
    injection a3 with a3
    rw [show x = y from Prod.ext a1 (Prod.ext a2 a3),oJ h2]
theorem jg : ∀ a : List (Str×Str×Int),NestedKey.depthAll (a.map mA) ≤ 1
  | []=>by rw [List.map_nil]; decide
  | x :: a=>by
    have h1:=jg a
    have h2 : NestedKey.depth (mA x) ≤ 1:=by
      unfold mA
      simp only [NestedKey.depth,NestedKey.depthAll]
      decide
    rw [List.map_cons,NestedKey.depthAll]
    omega
theorem su : ∀ {xs : List (Str×Str×Int)} {vs : List V},ap K G vs (xs.map Cb)→dh K G vs (xs.map mA)
  | [],_,h=>by cases h; exact .nil
  | x :: xs,_,h=>by
    cases h with
    | cons a b=>
      refine .cons ?_ (su b)
      have a : Dq K G _ (.tuple [.str x.1,.str x.2.1,.int x.2.2]):=a
      cases a with
      | tup a1 b1=>
        cases b1 with
        | cons c1 b1=>
          cases b1 with
          | cons c2 b1=>
            cases b1 with
            | cons c3 b1=>
              cases b1
              cases c1 with
              | str o1=>
                cases c2 with
                | str o2=>
                  cases c3
                  exact .tup a1 (.cons (.str o1) (.cons (.str o2) (.cons (.int _) .nil)))
end
def ktF : nu KF where
  e:=eP2 (eT Dat.str) (eT Cb)
  n k:=.tup [.tup (k.1.map .text),.tup (k.2.map mA)]
  inj a b h:=by
    injection h with h
    injection h with h1 h2
    injection h2 with h2 h3
    injection h1 with h1
    injection h2 with h2
    exact Prod.ext (g0 h1) (oJ h2)
  dep k:=by
    have:=jg k.2
    simp only [NestedKey.depth,NestedKey.depthAll,fz]
    omega
  of {K G v k} h:=by
    cases h with
    | tup a b=>
      cases b with
      | cons c d=>
        cases d with
        | cons d z=>
          cases z
          cases c with
          | tup a1 b1=>
            cases d with
            | tup a2 b2=>exact ⟨_,rfl,.tup a (.cons (.tup a1 (ut b1)) (.cons (.tup a2 (su b2)) .nil))⟩
section
variable {β : Type} {K : Fg} {σ : L2.St} {G M M1 : Hp} {ta : TE} {e : β→Dat}
theorem qM [Tb] {xs ys : List (Str×β)} (hy : fq xs = some ys) (ha : EvA (tCons ta tNil) σ G M M1 (ak (DD K (.list (xs.map (eP2 Dat.str e)))) az)) : EvD K (tCB (kI K) (tCons ta tNil)) σ G M M1 e ys:=fun G0 H s k Q q=>
  ha G0 H s k _ fun vs G1 H1 s1 k1 hx=>by
    obtain ⟨v,rfl,hv⟩:=one_of (R:=az) hx
    obtain ⟨_,h1,h2⟩:=bs hy
    cases h2
    obtain ⟨a,ws,rfl,a1,b⟩:=bM hv
    obtain ⟨ps,kvs,rfl,p1,p2,p3⟩:=kB b
    exact ⟨_,ps,kvs,rfl,.inr (.inl (.inl (k1.g _ _ a1))),gc p1 fun _ _ z=>bN k1.g z,fun p hp=>q p _ G1 _ s1 (k1.newM _ hp) (Same.none k1.m hp) ⟨aY.mergeS p2 .nil,cy xs [] (fun x hx=>nomatch hx) p3⟩⟩
end
end Kx
end
section
namespace K13
open PySem L2 Kx
abbrev Qp : Type:=(List (Str×Int))×(List (Str×Str×Int))×(List (Str×Int))×(List ((Str×Str)×Int))
abbrev Qk : Type:=(List (Str×Int))×(List (Str×Str×Int))
abbrev Qs : Type:=(List Str)×(List Int)
def aA (i : Nat) : Stmt:=PySem.Challenge.pw_sincerung_k13_whole_histories_of_small_p.main.body.getD i (.Pass ⟨0,0,0,0⟩)
abbrev lB : Stmt:=aA 22
abbrev lj : Stmt:=aA 23
abbrev jI : Stmt:=aA 24
abbrev lV : Stmt:=aA 26
abbrev si : Stmt:=aA 27
abbrev jh : Stmt:=aA 28
abbrev sI : Stmt:=aA 29
abbrev fD : Stmt:=inClass (aA 30) 0
abbrev tL : Stmt:=aA 31
abbrev ug : Stmt:=aA 32
abbrev mq : Stmt:=aA 33
abbrev pG : Stmt:=inClass (aA 30) 1
abbrev se : Stmt:=inClass (aA 30) 3
abbrev jt : Stmt:=aA 35
abbrev pD : Stmt:=aA 36
abbrev rF : Stmt:=aA 37
abbrev rL : Stmt:=aA 39
abbrev lA : Stmt:=aA 38
abbrev sL : Stmt:=aA 40
abbrev uk : Stmt:=aA 41
abbrev mL : Stmt:=aA 42
abbrev me : Stmt:=aA 43
abbrev hU : Stmt:=aA 44
abbrev gZ : Stmt:=aA 45
abbrev jx : Stmt:=aA 47
abbrev jn : Stmt:=aA 48
abbrev ly : Stmt:=aA 49
abbrev lJ : Stmt:=aA 50
abbrev kZ : Stmt:=aA 51
abbrev lQ : Stmt:=aA 52
abbrev qC : Stmt:=aA 54
abbrev lS : Stmt:=aA 55
abbrev rD : Stmt:=aA 56
abbrev mT : Stmt:=aA 57
abbrev tO : Stmt:=aA 58
abbrev iC : Stmt:=aA 59
abbrev pY : Stmt:=aA 60
abbrev jr : Stmt:=aA 61
abbrev pW : Stmt:=aA 62
abbrev pL : Stmt:=aA 63
abbrev iM : Stmt:=aA 64
abbrev pw : Stmt:=aA 65
abbrev jo : Stmt:=aA 66
abbrev oi : Stmt:=aA 67
abbrev ni : Stmt:=aA 68
abbrev hW : Stmt:=aA 69
abbrev qi : Stmt:=aA 70
abbrev pA : Stmt:=aA 71
abbrev uc : Stmt:=aA 72
abbrev c0 : Stmt:=aA 73
abbrev bc (r : Qp) : Dat:=.ins "Peal" ["bells","notches","sizes","turning"] [(eT (eP2 Dat.str Dat.int)) r.1,(eT (eP3 Dat.str Dat.str Dat.int)) r.2.1,(eDS Dat.int) r.2.2.1,(eDP Dat.int) r.2.2.2]
structure Txt (K : Fg) (mg : Str→Option Value) where
 w_Y1h : FnT K mg "is_whole" lB ["thing"]
 w_Y19 : FnT K mg "is_within" lj ["thing","low","high"]
 w_Y1o : FnT K mg "is_name" jI ["thing"]
 w_Y1n : FnT K mg "is_bell" lV ["thing"]
 w_Yk : FnT K mg "check_bells" si ["bells"]
 w_Y1g : FnT K mg "is_notch" jh ["thing","names"]
 w_Ya : FnT K mg "check_notches" sI ["notches","names"]
 a_Y8 : Addr
 d_Y8 : FuncData
 e_Y8 : Addr
 F_Y8 : uS K "__init__" "Peal.__init__" fD e_Y8 a_Y8 d_Y8
 b_Y8 : Binds K d_Y8 ["self","bells","notches"] []
 mk_Peal : Mk K (clsAt K "Peal") a_Y8
 w_Yx : FnT K mg "check_peal" tL ["thing"]
 w_Yw : FnT K mg "check_name" ug ["peal","name"]
 w_Y18 : FnT K mg "check_two" mq ["peal","name","other"]
 w_Yn : MeT K (clsAt K "Peal") "names" "Peal.names" pG ["self"]
 w_Yo : MeT K (clsAt K "Peal") "notch" "Peal.notch" se ["self","name","other"]
 w_Y1f : FnT K mg "fits_row" jt ["peal","thing"]
 w_Yy : FnT K mg "fits_dials" pD ["peal","thing"]
 w_Yb : FnT K mg "fits_standing" rF ["peal","thing"]
 w_Y7 : FnT K mg "check_standing" rL ["peal","thing"]
 w_Y17 : FnT K mg "check_row" lA ["peal","thing"]
 w_Yl : FnT K mg "check_rings" sL ["peal","thing"]
 w_Yz : FnT K mg "row_behind" uk ["row","name"]
 w_Y1p : FnT K mg "rung_of" mL ["peal","standing","name"]
 w_Y1m : FnT K mg "gone_of" me ["peal","standing","rings"]
 w_gone : FnT K mg "gone" hU ["peal","standing","rings"]
 w_Y1u : FnT K mg "flips" gZ ["peal","row","rings"]
 w_Y1d : FnT K mg "ahead_in" jx ["row"]
 w_Y1e : FnT K mg "dials_of" jn ["peal","turned"]
 w_Y16 : FnT K mg "bridge_of" ly ["peal","row","other"]
 w_Y1i : FnT K mg "swing_of" lJ ["peal","name","other"]
 w_Y1s : FnT K mg "bridge" kZ ["peal","row","other"]
 w_Y1y : FnT K mg "swing" lQ ["peal","name","other"]
 w_Yj : FnT K mg "_law_opened" qC ["_law_script","_law_k"]
 w_Y14 : FnT K mg "_law_pull" lS ["_law_store","_law_many"]
 w_Ys : FnT K mg "_law_spelt" rD ["_law_figure_here","_law_wide"]
 w_Yp : FnT K mg "_law_calls" mT ["_law_store","_law_many"]
 w_Yi : FnT K mg "_law_figure" tO ["_law_store","_law_mode","_law_size"]
 w_Y1c : FnT K mg "_law_kit" iC ["_law_store","_law_upto","_law_most"]
 w_Yv : FnT K mg "_law_table" pY ["_law_kit_here"]
 w_Y13 : FnT K mg "_law_line" jr ["_law_store","_law_kit_here"]
 w_Yt : FnT K mg "_law_stand" pW ["_law_store","_law_kit_here"]
 w_Yf : FnT K mg "_law_strokes" pL ["_law_store","_law_kit_here","_law_many"]
 w_Y15 : FnT K mg "_law_twos" iM ["_law_kit_here"]
 w_Y4 : FnT K mg "_law_all_strokes" pw ["_law_kit_here","_law_upto"]
 w_Y1l : FnT K mg "_law_on" jo ["_law_kit_here","_law_one","_law_two"]
 w_Yh : FnT K mg "_law_bridge" oi ["_law_kit_here","_law_table_here","_law_line_here","_law_there"]
 w_Yu : FnT K mg "_law_swing" ni ["_law_kit_here","_law_table_here","_law_two"]
 w_Y12 : FnT K mg "_law_came" hW ["_law_kit_here","_law_begun","_law_swung","_law_flipped"]
 w_Yq : FnT K mg "_law_rests" qi ["_law_kit_here","_law_turned"]
 w_Y6 : FnT K mg "_law_one_right" pA ["_law_kit_here","_law_tower","_law_table_here","_law_stand_here","_law_strokes_here","_law_known"]
 w_Yr : FnT K mg "_law_right" uc ["_law_store"]
 a_law : Addr
 d_law : FuncData
 F_law : Fun K "law" "law" c0 a_law d_law
 b_law : Binds K d_law ["_law_script"] []
 g_law : mg "law" = some (.ref a_law)
 cl_Peal : Cls K (clsAt K "Peal")
 co_Peal : ph K (clsAt K "Peal")
 ki_Peal : W.kitOne K (.ref (clsAt K "Peal")) (.ref (clsAt K "Peal")) = some true
 mg_Peal : mg "Peal" = some (.ref (clsAt K "Peal"))
 na_Peal_bells : NoAttr K (clsAt K "Peal") "bells"
 na_Peal_notches : NoAttr K (clsAt K "Peal") "notches"
 na_Peal_sizes : NoAttr K (clsAt K "Peal") "sizes"
 na_Peal_turning : NoAttr K (clsAt K "Peal") "turning"
 n_int : mg "int" = none
 n_isinstance : mg "isinstance" = none
 n_bool : mg "bool" = none
 n_str : mg "str" = none
 n_len : mg "len" = none
 n_all : mg "all" = none
 n_tuple : mg "tuple" = none
 n_enumerate : mg "enumerate" = none
 n_dict : mg "dict" = none
 n_sorted : mg "sorted" = none
 n_zip : mg "zip" = none
 n_min : mg "min" = none
 n_max : mg "max" = none
 n_abs : mg "abs" = none
 n_divmod : mg "divmod" = none
 n_range : mg "range" = none
 n_list : mg "list" = none
 t_MOST_LETTERS : Tok
 c_MOST_LETTERS : mg "MOST_LETTERS" = some (.int 6 t_MOST_LETTERS)
 t_LETTERS : Tok
 c_LETTERS : mg "LETTERS" = some (.str "abcdefghijklmnopqrstuvwxyz" t_LETTERS)
 t_LEAST_MARKS : Tok
 c_LEAST_MARKS : mg "LEAST_MARKS" = some (.int 2 t_LEAST_MARKS)
 t_MOST_MARKS : Tok
 c_MOST_MARKS : mg "MOST_MARKS" = some (.int 24 t_MOST_MARKS)
 t_MOST_BELLS : Tok
 c_MOST_BELLS : mg "MOST_BELLS" = some (.int 8 t_MOST_BELLS)
 t_MOST_NUMBER : Tok
 c_MOST_NUMBER : mg "MOST_NUMBER" = some (.int 99 t_MOST_NUMBER)
 t_MOST_RINGS : Tok
 c_MOST_RINGS : mg "MOST_RINGS" = some (.int 400 t_MOST_RINGS)
variable {P : Program} {w : World} {K : Fg} {mg : Str→Option Value} {base : Heap}
theorem yx : FnScope ["thing"] ["thing"] (defScope lB):=fsc
def zd (K : Fg) (a : Int) : List V→Hp→Prop:=ak (DD K (Dat.int a)) (az)
def pb (a : Int) : Option Bool:=
 some (true && (!false))
abbrev rA [Tb] (K : Fg) : Sp:=spP (zd K) (pb) fun r=>DD K (Dat.bool r)
theorem yw [Tb] (T : Txt K mg) : FnA P w base CX0 (1) T.w_Y1h (rA K):=by
 refine T.w_Y1h.F.ok yx (fun vs H Q E h=>?_) (fun cdv A outer s0 H vs Q E hr h=>?_)
 ·obtain ⟨G,M0,a,r,ok,⟨v_thing,_,rfl,h_thing,rfl⟩,hm,q⟩:=h
  rfl
 ·obtain ⟨G,M0,a,r,ok,⟨v_thing,_,rfl,h_thing,rfl⟩,hm,q⟩:=h
  unfold pb at hm
  have sg:=Same.refl G
  have hB:=Same.refl M0
  refine ⟨_,(pss_cons (ps_ret (pe_and (pe_callB (bq (K:=K)) (by rfl) T.n_isinstance (by decide +kernel) (pa_cons (pv 0) (pa_cons (pe_bltn (v:=.ty "int") (by rfl) T.n_int (by decide +kernel) rfl) pa_nil))) (pe_one (pe_not (pe_callB (bq (K:=K)) (by rfl) T.n_isinstance (by decide +kernel) (pa_cons (pv 0) (pa_cons (pe_bltn (v:=.ty "bool") (by rfl) T.n_bool (by decide +kernel) rfl) pa_nil))))))) pss_nil),?_⟩
  cases h_thing
  refine nrm (σ':=[some (.int a)]) rfl ?_
  refine aM (nO (cU (d:=Dat.int a) (n:="int") (b:=true) rfl (show kitB "int" "int" = some true by decide +kernel) (ae (eVd K (.int _)) (ea_cons cY cO ea_nil))) fun _=>(yH (cU (d:=Dat.int a) (n:="bool") (b:=false) rfl (show kitB "int" "bool" = some false by decide +kernel) (ae (eVd K (.int _)) (ea_cons cY cO ea_nil))))) ok (fun v G H s1 ok hv=>?_)
  have sg:=sg.trans s1
  cases hm
  exact q v G H sg (ok.less hB) hv
theorem w6 : FnScope ["thing","low","high"] ["thing","low","high"] (defScope lj):=fsc
def Am (K : Fg) (a : Int×Int×Int) : List V→Hp→Prop:=ak (DD K (Dat.int a.1)) (ak (DD K (Dat.int a.2.1)) (ak (DD K (Dat.int a.2.2)) (az)))
def ip (a : Int×Int×Int) : Option Bool:=
 (pb a.1).bind fun t1=>some (t1 && ((decide (a.2.1 ≤ a.1)) && (decide (a.1 ≤ a.2.2))))
abbrev j0 [Tb] (K : Fg) : Sp:=spP (Am K) (ip) fun r=>DD K (Dat.bool r)
theorem yq [Tb] (T : Txt K mg) (O_Y1h : FnA P w base CX0 1 T.w_Y1h (rA K)) : FnA P w base CX0 (2) T.w_Y19 (j0 K):=by
 refine T.w_Y19.F.ok w6 (fun vs H Q E h=>?_) (fun cdv A outer s0 H vs Q E hr h=>?_)
 ·obtain ⟨G,M0,a,r,ok,⟨v_thing,_,rfl,h_thing,v_low,_,rfl,h_low,v_high,_,rfl,h_high,rfl⟩,hm,q⟩:=h
  rfl
 ·obtain ⟨G,M0,a,r,ok,⟨v_thing,_,rfl,h_thing,v_low,_,rfl,h_low,v_high,_,rfl,h_high,rfl⟩,hm,q⟩:=h
  unfold ip at hm
  have sg:=Same.refl G
  have hB:=Same.refl M0
  refine ⟨_,(pss_cons (ps_ret (pe_and (pcW T.w_Y1h O_Y1h (hr.mono (by decide)) (pa_cons (pv 0) pa_nil)) (pe_one (pe_chain op_le op_le (pv 1) (pv 0) (pv 2))))) pss_nil),?_⟩
  cases h_thing
  cases h_low
  cases h_high
  refine nrm (σ':=[some (.int a.1),some (.int a.2.1),some (.int a.2.2)]) rfl ?_
  obtain ⟨t1,e_t1,hm⟩:=bs hm
  refine aM (nO (ai (res:=fun r=>DD K (Dat.bool r)) (a:=a.1) e_t1 (ae (eVd K (.int _)) ea_nil)) fun _=>(gk (eVd K (.int _)) (eVd K (.int _)) (eVd K (.int _)))) ok (fun v G H s1 ok hv=>?_)
  have sg:=sg.trans s1
  cases hm
  exact q v G H sg (ok.less hB) hv
theorem nc : FnScope ["thing","sign"] ["thing"] (defScope jI):=fsc
def Cr (K : Fg) (a : Str) : List V→Hp→Prop:=ak (DD K (Dat.str a)) (az)
def fk (a : Str) : Option Bool:=
 (cond (!true) (some true) ((xT a).bind fun t1=>some (!((decide ((1 : Int) ≤ t1)) && (decide (t1 ≤ (6 : Int))))))).bind fun t2=>cond t2 (some false) ((lcO (fun x3 : Str=>(jX x3 (Str.ofString "abcdefghijklmnopqrstuvwxyz")).bind fun t9=>some t9) (signs a)).bind fun t10=>some (t10.all id))
abbrev gx [Tb] (K : Fg) : Sp:=spP (Cr K) (fk) fun r=>DD K (Dat.bool r)
theorem xG [Tb] (T : Txt K mg) : FnA P w base CX0 (1) T.w_Y1o (gx K):=by
 refine T.w_Y1o.F.ok nc (fun vs H Q E h=>?_) (fun cdv A outer s0 H vs Q E hr h=>?_)
 ·obtain ⟨G,M0,a,r,ok,⟨v_thing,_,rfl,h_thing,rfl⟩,hm,q⟩:=h
  rfl
 ·obtain ⟨G,M0,a,r,ok,⟨v_thing,_,rfl,h_thing,rfl⟩,hm,q⟩:=h
  unfold fk at hm
  have sg:=Same.refl G
  have hB:=Same.refl M0
  refine ⟨_,(pss_cons (ps_if (PW.pt (pw_or (pt_not (pt_val (pe_callB (bq (K:=K)) (by rfl) T.n_isinstance (by decide +kernel) (pa_cons (pv 0) (pa_cons (pe_bltn (v:=.ty "str") (by rfl) T.n_str (by decide +kernel) rfl) pa_nil))))) (pw_or1 (pt_not (pt_chain op_le op_le pe_int (pe_callB vJ (by rfl) T.n_len (by decide +kernel) (pa_cons (pv 0) pa_nil)) (pe_glob (v:=.int 6) (by rfl) T.c_MOST_LETTERS ⟨_,rfl⟩)))))) (pss_cons (ps_ret pe_bl) pss_nil) pss_nil) (pss_cons (ps_ret (pe_callB (fQ (K:=K) rfl) (by rfl) T.n_all (by decide +kernel) (pa_cons (pe_lc (own:=[("sign",1)]) (g:=(gName 1)) (tt:=tYes) rfl nc.nd (pi_str (pv 0)) (blkOk_by (own:=[("sign",1)]) (N:=["thing","sign"]) (sc:=defScope jI) (by decide +kernel)) (fun _ _ _ _ _=>(pg_name (i:=1) nc.nd rfl (by first | exact .inl rfl | exact .inr rfl))) (fun _ _ _ _ _=>pts_nil) (fun _ _ _ _ _=>(pe_cmpR op_in_sign (pv 1) (pe_glob (v:=.str "abcdefghijklmnopqrstuvwxyz") (by rfl) T.c_LETTERS ⟨_,rfl⟩) (by rfl)))) pa_nil))) pss_nil)),?_⟩
  refine nrm (σ':=[some v_thing,none]) rfl ?_
  obtain ⟨t2,e_t2,hm⟩:=bs hm
  refine q_if (hL (c:=t2) (et_not (et_B (cU (d:=Dat.str a) (n:="str") (b:=true) rfl (show kitB "str" "str" = some true by decide +kernel) (ae (eVd K h_thing) (ea_cons cY cO ea_nil))))) (fun eb=>by have e1:=aJ eb e_t2; (obtain ⟨t1,e_t1,e1⟩:=bs e1); (have e1:=Option.some.inj e1); subst e1; exact (et_not (et_test (gk (ab (K:=K)) (vT e_t1 (ae (eVd K h_thing) ea_nil)) (ab (K:=K)))))) (fun eb=>by have e1:=aK eb e_t2; cases e1; exact ⟨rfl,rfl⟩)) ok (fun hb G H s1 ok=>?_) (fun hb G H s1 ok=>?_)
  ·have hm:=aK hb hm
   have sg:=sg.trans s1
   refine aM (dJ (K:=K)) ok (fun v G H s1 ok hv=>?_)
   have sg:=sg.trans s1
   cases hm
   exact q v G H sg (ok.less hB) hv
  ·have hm:=aJ hb hm
   have h_thing:=aa s1 _ h_thing
   have sg:=sg.trans s1
   refine aV ?_
   obtain ⟨t10,e_t10,hm⟩:=bs hm
   refine aM (fK (ae (EvL.ev (bj (ea:=Dat.str) (eb:=Dat.bool) (xs:=(signs a)) (ys:=t10) (hf:=e_t10) (Src.is (vF (eVd K h_thing)) qh) (fun x3 _ Mx7 _ _ he8 sM6 sG5 hv4=>by (obtain ⟨t9,e_t9,he8⟩:=bs he8); (have he8:=Option.some.inj he8); subst he8; exact (ay ⟨rfl,(qk e_t9 (eVd K hv4) (ca (K:=K) (by decide +kernel)))⟩)))) ea_nil)) ok (fun v G H s1 ok hv=>?_)
   have sg:=sg.trans s1
   cases hm
   exact q v G H sg (ok.less hB) hv
theorem yi : FnScope ["thing"] ["thing"] (defScope lV):=fsc
def Cm (K : Fg) (a : (Str×Int)) : List V→Hp→Prop:=ak (DD K ((eP2 Dat.str Dat.int) a)) (az)
def mB (a : (Str×Int)) : Option Bool:=
 cond ((!true) || (!decide ((2 : Int) = (2 : Int)))) (some false) ((fk a.1).bind fun t1=>(cond t1 ((ip (a.2,(2 : Int),(24 : Int))).bind fun t2=>some t2) (some false)).bind fun t3=>some t3)
abbrev sd [Tb] (K : Fg) : Sp:=spP (Cm K) (mB) fun r=>DD K (Dat.bool r)
theorem yB [Tb] (T : Txt K mg) (O_Y1o : FnA P w base CX0 1 T.w_Y1o (gx K)) (O_Y19 : FnA P w base CX0 2 T.w_Y19 (j0 K)) : FnA P w base CX0 (3) T.w_Y1n (sd K):=by
 refine T.w_Y1n.F.ok yi (fun vs H Q E h=>?_) (fun cdv A outer s0 H vs Q E hr h=>?_)
 ·obtain ⟨G,M0,a,r,ok,⟨v_thing,_,rfl,h_thing,rfl⟩,hm,q⟩:=h
  rfl
 ·obtain ⟨G,M0,a,r,ok,⟨v_thing,_,rfl,h_thing,rfl⟩,hm,q⟩:=h
  unfold mB at hm
  have sg:=Same.refl G
  have hB:=Same.refl M0
  refine ⟨_,(pss_cons (ps_if (PW.pt (pw_or (pt_not (pt_val (pe_callB (bq (K:=K)) (by rfl) T.n_isinstance (by decide +kernel) (pa_cons (pv 0) (pa_cons (pe_bltn (v:=.ty "tuple") (by rfl) T.n_tuple (by decide +kernel) rfl) pa_nil))))) (pw_or1 (pt_cmpR op_ne (pe_callB (aR (K:=K)) (by rfl) T.n_len (by decide +kernel) (pa_cons (pv 0) pa_nil)) pe_int (nomark _))))) (pss_cons (ps_ret pe_bl) pss_nil) pss_nil) (pss_cons (ps_ret (pe_and (pcW T.w_Y1o O_Y1o (hr.mono (by decide)) (pa_cons (pe_ix (ah (K:=K)) (pv 0) pe_int (fun _ _=>rfl)) pa_nil)) (pe_one (pcW T.w_Y19 O_Y19 (hr.mono (by decide)) (pa_cons (pe_ix (ah (K:=K)) (pv 0) pe_int (fun _ _=>rfl)) (pa_cons (pe_glob (v:=.int 2) (by rfl) T.c_LEAST_MARKS ⟨_,rfl⟩) (pa_cons (pe_glob (v:=.int 24) (by rfl) T.c_MOST_MARKS ⟨_,rfl⟩) pa_nil))))))) pss_nil)),?_⟩
  refine nrm (σ':=[some v_thing]) rfl ?_
  refine q_if (et_or (et_not (et_B (cU (d:=(eP2 Dat.str Dat.int) a) (n:="tuple") (b:=true) rfl (show kitB "tuple" "tuple" = some true by decide +kernel) (ae (eVd K h_thing) (ea_cons cY cO ea_nil))))) fun _=>(et_test (g9 (gJ (ae (eVd K h_thing) ea_nil)) (ab (K:=K))))) ok (fun hb G H s1 ok=>?_) (fun hb G H s1 ok=>?_)
  ·have hm:=aK hb hm
   have sg:=sg.trans s1
   refine aM (dJ (K:=K)) ok (fun v G H s1 ok hv=>?_)
   have sg:=sg.trans s1
   cases hm
   exact q v G H sg (ok.less hB) hv
  ·have hm:=aJ hb hm
   have h_thing:=aa s1 _ h_thing
   have sg:=sg.trans s1
   refine aV ?_
   obtain ⟨t1,e_t1,hm⟩:=bs hm
   obtain ⟨t3,e_t3,hm⟩:=bs hm
   refine aM (fH (c:=t3) (ai (res:=fun r=>DD K (Dat.bool r)) (a:=a.1) e_t1 (ae (au (d:=Dat.str a.1) rfl (eVd K h_thing) ab) ea_nil)) (fun eb=>by have e1:=aK eb e_t3; (obtain ⟨t2,e_t2,e1⟩:=bs e1); (have e1:=Option.some.inj e1); subst e1; exact (ai (res:=fun r=>DD K (Dat.bool r)) (a:=(a.2,(2 : Int),(24 : Int))) e_t2 (ae (au (d:=Dat.int a.2) rfl (eVd K h_thing) ab) (ae (ab (K:=K)) (ae (ab (K:=K)) ea_nil))))) (fun eb=>by have e1:=aJ eb e_t3; cases e1; exact ⟨rfl,rfl⟩)) ok (fun v G H s1 ok hv=>?_)
   have sg:=sg.trans s1
   cases hm
   exact q v G H sg (ok.less hB) hv
theorem sS : FnScope ["bells","place","bell"] ["bells"] (defScope si):=fsc
def CP (K : Fg) (a : (List (Str×Int))) : List V→Hp→Prop:=ak (DD K ((eT (eP2 Dat.str Dat.int)) a)) (az)
def qr (a : (List (Str×Int))) : Option Unit:=
 cond ((!true) || (!((decide ((1 : Int) ≤ (a.length : Int))) && (decide ((a.length : Int) ≤ (8 : Int)))))) (none) ((cC (fun (st2 : Unit) (x3 : (Int×(Str×Int)))=>(mB x3.2).bind fun t12=>(cond (!t12) (some true) ((cond (decide ((0 : Int) < x3.1)) ((atI a (x3.1 - (1 : Int))).bind fun t13=>some (!sLt t13.1 x3.2.1)) (some false)).bind fun t14=>some t14)).bind fun t15=>cond t15 (none) (some ())) (dO a) ()).bind fun fin1=>some ())
abbrev wJ [Tb] (K : Fg) : Sp:=spP (CP K) (qr) fun r=>DD K (eN r)
theorem Ab [Tb] (T : Txt K mg) (O_Y1n : FnA P w base CX0 3 T.w_Y1n (sd K)) : FnA P w base CX0 (4) T.w_Yk (wJ K):=by
 refine T.w_Yk.F.ok sS (fun vs H Q E h=>?_) (fun cdv A outer s0 H vs Q E hr h=>?_)
 ·obtain ⟨G,M0,a,r,ok,⟨v_bells,_,rfl,h_bells,rfl⟩,hm,q⟩:=h
  rfl
 ·obtain ⟨G,M0,a,r,ok,⟨v_bells,_,rfl,h_bells,rfl⟩,hm,q⟩:=h
  unfold qr at hm
  have sg:=Same.refl G
  have hB:=Same.refl M0
  refine ⟨_,(pss_cons (ps_if (PW.pt (pw_or (pt_not (pt_val (pe_callB (bq (K:=K)) (by rfl) T.n_isinstance (by decide +kernel) (pa_cons (pv 0) (pa_cons (pe_bltn (v:=.ty "tuple") (by rfl) T.n_tuple (by decide +kernel) rfl) pa_nil))))) (pw_or1 (pt_not (pt_chain op_le op_le pe_int (pe_callB (aR (K:=K)) (by rfl) T.n_len (by decide +kernel) (pa_cons (pv 0) pa_nil)) (pe_glob (v:=.int 8) (by rfl) T.c_MOST_BELLS ⟨_,rfl⟩)))))) (pss_cons ps_never pss_nil) pss_nil) (pss_cons (ps_for PassesOwn.never rfl (dn (K:=K) (by rfl) T.n_enumerate (pa_cons (pv 0) pa_nil)) (pg_tup rfl (pgs_cons (pg_name (i:=1) sS.nd rfl (.inl rfl)) (pgs_cons (pg_name (i:=2) sS.nd rfl (.inl rfl)) pgs_nil))) (pss_cons (ps_if (PW.pt (pw_or (pt_not (pt_val (pcW T.w_Y1n O_Y1n (hr.mono (by decide)) (pa_cons (pv 2) pa_nil)))) (pw_or1 (PW.pt (pw_and (pt_cmpR op_gt (pv 1) pe_int (nomark _)) (pw_and1 (pt_cmpR op_le_str (pe_ix (ah (K:=K)) (pv 2) pe_int (fun _ _=>rfl)) (pe_ix (ah (K:=K)) (pe_ix (ah (K:=K)) (pv 0) (pe_op op_sub (pv 1) pe_int) (fun _ _=>rfl)) pe_int (fun _ _=>rfl)) (nomark _)))))))) (pss_cons ps_never pss_nil) pss_nil) pss_nil)) pss_nil)),?_⟩
  refine nrm (σ':=[some v_bells,none,none]) rfl ?_
  refine q_if (et_or (et_not (et_B (cU (d:=(eT (eP2 Dat.str Dat.int)) a) (n:="tuple") (b:=true) rfl (show kitB "tuple" "tuple" = some true by decide +kernel) (ae (eVd K h_bells) (ea_cons cY cO ea_nil))))) fun _=>(et_not (et_test (gk (ab (K:=K)) (bG (e:=(eP2 Dat.str Dat.int)) (ae (eVd K h_bells) ea_nil)) (ab (K:=K)))))) ok (fun hb G H s1 ok=>?_) (fun hb G H s1 ok=>?_)
  ·have hm:=aK hb hm
   cases hm
  ·have hm:=aJ hb hm
   have h_bells:=aa s1 _ h_bells
   have sg:=sg.trans s1
   refine aV ?_
   obtain ⟨fin1,e_fin1,hm⟩:=bs hm
   refine bP (ea:=(eR2 Dat.int (eP2 Dat.str Dat.int))) (Src.is (dm (ae (eVd K h_bells) ea_nil)) dv) ok (fun (st2 : Unit) σ1 G1 M1=>∃ (y_place : Option V) (y_bell : Option V),σ1 = [some v_bells,y_place,y_bell]∧(Same M0 M1)) e_fin1 (fun G1 s1=>⟨_,_,rfl,hB⟩) (by rintro _ _ _ _ _ ⟨y_place,y_bell,rfl,hB⟩ s2; exact ⟨_,_,rfl,hB⟩) (fun x3 xv6 st2 st' σ1 G M H N hm hj s1 ok hv hN=>?_) (fun σ1 G M H s1 ok hj=>?_)
   ·obtain ⟨y_place,y_bell,rfl,hB⟩:=hj
    have h_bells:=aa s1 _ h_bells
    have sl7:=Same.refl G
    refine gr2 hv ok.g (fun w8 w9 hw10 hw11=>?_)
    refine gn ?_
    have h_place:=hw10
    cases h_place
    refine gn ?_
    have h_bell:=hw11
    refine nrm (σ':=[some v_bells,some (.int x3.1),some w9]) rfl ?_
    obtain ⟨t12,e_t12,hm⟩:=bs hm
    obtain ⟨t15,e_t15,hm⟩:=bs hm
    refine q_if (hL (c:=t15) (et_not (et_B (ai (res:=fun r=>DD K (Dat.bool r)) (a:=x3.2) e_t12 (ae (eVd K h_bell) ea_nil)))) (fun eb=>by have e1:=aJ eb e_t15; (obtain ⟨t14,e_t14,e1⟩:=bs e1); (have e1:=Option.some.inj e1); subst e1; exact (j7 (c:=t14) (et_test (gW (eVd K (.int _)) (ab (K:=K)))) (fun eb=>by have e1:=aK eb e_t14; (obtain ⟨t13,e_t13,e1⟩:=bs e1); (have e1:=Option.some.inj e1); subst e1; exact (et_test (xI (au (d:=Dat.str x3.2.1) rfl (eVd K h_bell) ab) (au (d:=Dat.str t13.1) rfl (ck (e:=(eP2 Dat.str Dat.int)) e_t13 (eVd K h_bells) (dE (eVd K (.int _)) (ab (K:=K)))) ab)))) (fun eb=>by have e1:=aJ eb e_t14; cases e1; exact ⟨rfl,rfl⟩))) (fun eb=>by have e1:=aK eb e_t15; cases e1; exact ⟨rfl,rfl⟩)) ok (fun hb G H s1 ok=>?_) (fun hb G H s1 ok=>?_)
    ·have hm:=aK hb hm
     cases hm
    ·have hm:=aJ hb hm
     have sl7:=sl7.trans s1
     refine aV ?_
     refine bp ?_
     cases hm
     exact hN _ _ _ _ sl7 ok ⟨_,_,rfl,hB⟩
   ·obtain ⟨y_place,y_bell,rfl,hB⟩:=hj
    have sg:=sg.trans s1
    refine bp ?_
    cases hm
    exact q _ _ _ sg (ok.less hB) .non
theorem np : FnScope ["thing","names","part"] ["thing","names"] (defScope jh):=fsc
def zN (K : Fg) (a : (Str×Str×Int)×(List Str)) : List V→Hp→Prop:=ak (DD K ((eP3 Dat.str Dat.str Dat.int) a.1)) (ak (DD K ((eL Dat.str) a.2)) (az))
def jk (a : (Str×Str×Int)×(List Str)) : Option Bool:=
 cond ((!true) || (!decide ((3 : Int) = (3 : Int)))) (some false) ((lcO (fun x1 : Str=>(fk x1).bind fun t7=>some (t7 && (gI x1 a.2))) [(a.1.1,a.1.2.1).1,(a.1.1,a.1.2.1).2]).bind fun t8=>cond (!(t8.all id)) (some false) ((cond (!decide (a.1.1 = a.1.2.1)) ((ip (a.1.2.2,(1 : Int),(99 : Int))).bind fun t9=>some t9) (some false)).bind fun t10=>some t10))
abbrev rY [Tb] (K : Fg) : Sp:=spP (zN K) (jk) fun r=>DD K (Dat.bool r)
theorem xu [Tb] (T : Txt K mg) (O_Y1o : FnA P w base CX0 1 T.w_Y1o (gx K)) (O_Y19 : FnA P w base CX0 2 T.w_Y19 (j0 K)) : FnA P w base CX0 (3) T.w_Y1g (rY K):=by
 refine T.w_Y1g.F.ok np (fun vs H Q E h=>?_) (fun cdv A outer s0 H vs Q E hr h=>?_)
 ·obtain ⟨G,M0,a,r,ok,⟨v_thing,_,rfl,h_thing,v_names,_,rfl,h_names,rfl⟩,hm,q⟩:=h
  rfl
 ·obtain ⟨G,M0,a,r,ok,⟨v_thing,_,rfl,h_thing,v_names,_,rfl,h_names,rfl⟩,hm,q⟩:=h
  unfold jk at hm
  have sg:=Same.refl G
  have hB:=Same.refl M0
  refine ⟨_,(pss_cons (ps_if (PW.pt (pw_or (pt_not (pt_val (pe_callB (bq (K:=K)) (by rfl) T.n_isinstance (by decide +kernel) (pa_cons (pv 0) (pa_cons (pe_bltn (v:=.ty "tuple") (by rfl) T.n_tuple (by decide +kernel) rfl) pa_nil))))) (pw_or1 (pt_cmpR op_ne (pe_callB (aR (K:=K)) (by rfl) T.n_len (by decide +kernel) (pa_cons (pv 0) pa_nil)) pe_int (nomark _))))) (pss_cons (ps_ret pe_bl) pss_nil) pss_nil) (pss_cons (ps_if (pt_not (pt_val (pe_callB (fQ (K:=K) rfl) (by rfl) T.n_all (by decide +kernel) (pa_cons (pe_lc (own:=[("part",2)]) (g:=(gName 2)) (tt:=tYes) rfl np.nd (bf (K:=K) (pe_slice (cG (K:=K)) (pv 0) po_none (po_some pe_int))) (blkOk_by (own:=[("part",2)]) (N:=["thing","names","part"]) (sc:=defScope jh) (by decide +kernel)) (fun _ _ _ _ _=>(pg_name (i:=2) np.nd rfl (by first | exact .inl rfl | exact .inr rfl))) (fun _ _ _ _ _=>pts_nil) (fun _ _ _ _ _=>(pe_and (pcW T.w_Y1o O_Y1o (hr.mono (by decide)) (pa_cons (pv 2) pa_nil)) (pe_one (pe_cmpR (oy (K:=K)) (pv 2) (pv 1) (by rfl)))))) pa_nil)))) (pss_cons (ps_ret pe_bl) pss_nil) pss_nil) (pss_cons (ps_ret (pe_and (pe_cmpR op_ne (pe_ix (ah (K:=K)) (pv 0) pe_int (fun _ _=>rfl)) (pe_ix (ah (K:=K)) (pv 0) pe_int (fun _ _=>rfl)) (nomark _)) (pe_one (pcW T.w_Y19 O_Y19 (hr.mono (by decide)) (pa_cons (pe_ix (ah (K:=K)) (pv 0) pe_int (fun _ _=>rfl)) (pa_cons pe_int (pa_cons (pe_glob (v:=.int 99) (by rfl) T.c_MOST_NUMBER ⟨_,rfl⟩) pa_nil))))))) pss_nil))),?_⟩
  refine nrm (σ':=[some v_thing,some v_names,none]) rfl ?_
  refine q_if (et_or (et_not (et_B (cU (d:=(eP3 Dat.str Dat.str Dat.int) a.1) (n:="tuple") (b:=true) rfl (show kitB "tuple" "tuple" = some true by decide +kernel) (ae (eVd K h_thing) (ea_cons cY cO ea_nil))))) fun _=>(et_test (g9 (gJ (ae (eVd K h_thing) ea_nil)) (ab (K:=K))))) ok (fun hb G H s1 ok=>?_) (fun hb G H s1 ok=>?_)
  ·have hm:=aK hb hm
   have sg:=sg.trans s1
   refine aM (dJ (K:=K)) ok (fun v G H s1 ok hv=>?_)
   have sg:=sg.trans s1
   cases hm
   exact q v G H sg (ok.less hB) hv
  ·have hm:=aJ hb hm
   have h_thing:=aa s1 _ h_thing
   have h_names:=aa s1 _ h_names
   have sg:=sg.trans s1
   refine aV ?_
   obtain ⟨t8,e_t8,hm⟩:=bs hm
   refine q_if (et_not (et_B (fK (ae (EvL.ev (bj (ea:=Dat.str) (eb:=Dat.bool) (xs:=[(a.1.1,a.1.2.1).1,(a.1.1,a.1.2.1).2]) (ys:=t8) (hf:=e_t8) (Src.is (be (ev_is (kA (eVd K h_thing) eo_none (eo_some (ab (K:=K)))) rfl)) rfl) (fun x1 _ Mx5 _ _ he6 sM4 sG3 hv2=>by (obtain ⟨t7,e_t7,he6⟩:=bs he6); cases he6; exact (ay ⟨rfl,(nO (ai (res:=fun r=>DD K (Dat.bool r)) (a:=x1) e_t7 (ae (eVd K hv2) ea_nil)) fun _=>(qU (k:=false) (xs:=a.2) (eVd K hv2) (eVd K (aa sG3 _ h_names))))⟩)))) ea_nil)))) ok (fun hb G H s1 ok=>?_) (fun hb G H s1 ok=>?_)
   ·have hm:=aK hb hm
    have sg:=sg.trans s1
    refine aM (dJ (K:=K)) ok (fun v G H s1 ok hv=>?_)
    have sg:=sg.trans s1
    cases hm
    exact q v G H sg (ok.less hB) hv
   ·have hm:=aJ hb hm
    have h_thing:=aa s1 _ h_thing
    have sg:=sg.trans s1
    refine aV ?_
    obtain ⟨t10,e_t10,hm⟩:=bs hm
    refine aM (fH (c:=t10) (uj (au (d:=Dat.str a.1.1) rfl (eVd K h_thing) ab) (au (d:=Dat.str a.1.2.1) rfl (eVd K h_thing) ab)) (fun eb=>by have e1:=aK eb e_t10; (obtain ⟨t9,e_t9,e1⟩:=bs e1); (have e1:=Option.some.inj e1); subst e1; exact (ai (res:=fun r=>DD K (Dat.bool r)) (a:=(a.1.2.2,(1 : Int),(99 : Int))) e_t9 (ae (au (d:=Dat.int a.1.2.2) rfl (eVd K h_thing) ab) (ae (ab (K:=K)) (ae (ab (K:=K)) ea_nil))))) (fun eb=>by have e1:=aJ eb e_t10; cases e1; exact ⟨rfl,rfl⟩)) ok (fun v G H s1 ok hv=>?_)
    have sg:=sg.trans s1
    cases hm
    exact q v G H sg (ok.less hB) hv
theorem uE : FnScope ["notches","names","place","notch"] ["notches","names"] (defScope sI):=fsc
def CM (K : Fg) (a : (List (Str×Str×Int))×(List Str)) : List V→Hp→Prop:=ak (DD K ((eT (eP3 Dat.str Dat.str Dat.int)) a.1)) (ak (DD K ((eL Dat.str) a.2)) (az))
def mV (a : (List (Str×Str×Int))×(List Str)) : Option Unit:=
 cond (!true) (none) ((cC (fun (st2 : Unit) (x3 : (Int×(Str×Str×Int)))=>(jk (x3.2,a.2)).bind fun t12=>(cond (!t12) (some true) ((cond (decide ((0 : Int) < x3.1)) ((atI a.1 (x3.1 - (1 : Int))).bind fun t13=>some (!ltP (t13.1,t13.2.1) (x3.2.1,x3.2.2.1))) (some false)).bind fun t14=>some t14)).bind fun t15=>cond t15 (none) (some ())) (dO a.1) ()).bind fun fin1=>some ())
abbrev wN [Tb] (K : Fg) : Sp:=spP (CM K) (mV) fun r=>DD K (eN r)
theorem Bz [Tb] (T : Txt K mg) (O_Y1g : FnA P w base CX0 3 T.w_Y1g (rY K)) : FnA P w base CX0 (4) T.w_Ya (wN K):=by
 refine T.w_Ya.F.ok uE (fun vs H Q E h=>?_) (fun cdv A outer s0 H vs Q E hr h=>?_)
 ·obtain ⟨G,M0,a,r,ok,⟨v_notches,_,rfl,h_notches,v_names,_,rfl,h_names,rfl⟩,hm,q⟩:=h
  rfl
 ·obtain ⟨G,M0,a,r,ok,⟨v_notches,_,rfl,h_notches,v_names,_,rfl,h_names,rfl⟩,hm,q⟩:=h
  unfold mV at hm
  have sg:=Same.refl G
  have hB:=Same.refl M0
  refine ⟨_,(pss_cons (ps_if (pt_not (pt_val (pe_callB (bq (K:=K)) (by rfl) T.n_isinstance (by decide +kernel) (pa_cons (pv 0) (pa_cons (pe_bltn (v:=.ty "tuple") (by rfl) T.n_tuple (by decide +kernel) rfl) pa_nil))))) (pss_cons ps_never pss_nil) pss_nil) (pss_cons (ps_for PassesOwn.never rfl (dn (K:=K) (by rfl) T.n_enumerate (pa_cons (pv 0) pa_nil)) (pg_tup rfl (pgs_cons (pg_name (i:=2) uE.nd rfl (.inl rfl)) (pgs_cons (pg_name (i:=3) uE.nd rfl (.inl rfl)) pgs_nil))) (pss_cons (ps_if (PW.pt (pw_or (pt_not (pt_val (pcW T.w_Y1g O_Y1g (hr.mono (by decide)) (pa_cons (pv 3) (pa_cons (pv 1) pa_nil))))) (pw_or1 (PW.pt (pw_and (pt_cmpR op_gt (pv 2) pe_int (nomark _)) (pw_and1 (pt_cmpR (xN (K:=K) hr.units) (pe_slice (cG (K:=K)) (pv 3) po_none (po_some pe_int)) (pe_slice (cG (K:=K)) (pe_ix (ah (K:=K)) (pv 0) (pe_op op_sub (pv 2) pe_int) (fun _ _=>rfl)) po_none (po_some pe_int)) (nomark _)))))))) (pss_cons ps_never pss_nil) pss_nil) pss_nil)) pss_nil)),?_⟩
  refine nrm (σ':=[some v_notches,some v_names,none,none]) rfl ?_
  refine q_if (et_not (et_B (cU (d:=(eT (eP3 Dat.str Dat.str Dat.int)) a.1) (n:="tuple") (b:=true) rfl (show kitB "tuple" "tuple" = some true by decide +kernel) (ae (eVd K h_notches) (ea_cons cY cO ea_nil))))) ok (fun hb G H s1 ok=>?_) (fun hb G H s1 ok=>?_)
  ·have hm:=aK hb hm
   cases hm
  ·have hm:=aJ hb hm
   have h_notches:=aa s1 _ h_notches
   have h_names:=aa s1 _ h_names
   have sg:=sg.trans s1
   refine aV ?_
   obtain ⟨fin1,e_fin1,hm⟩:=bs hm
   refine bP (ea:=(eR2 Dat.int (eP3 Dat.str Dat.str Dat.int))) (Src.is (dm (ae (eVd K h_notches) ea_nil)) dv) ok (fun (st2 : Unit) σ1 G1 M1=>∃ (y_place : Option V) (y_notch : Option V),σ1 = [some v_notches,some v_names,y_place,y_notch]∧(Same M0 M1)) e_fin1 (fun G1 s1=>⟨_,_,rfl,hB⟩) (by rintro _ _ _ _ _ ⟨y_place,y_notch,rfl,hB⟩ s2; exact ⟨_,_,rfl,hB⟩) (fun x3 xv6 st2 st' σ1 G M H N hm hj s1 ok hv hN=>?_) (fun σ1 G M H s1 ok hj=>?_)
   ·obtain ⟨y_place,y_notch,rfl,hB⟩:=hj
    have h_notches:=aa s1 _ h_notches
    have h_names:=aa s1 _ h_names
    have sl7:=Same.refl G
    refine gr2 hv ok.g (fun w8 w9 hw10 hw11=>?_)
    refine gn ?_
    have h_place:=hw10
    cases h_place
    refine gn ?_
    have h_notch:=hw11
    refine nrm (σ':=[some v_notches,some v_names,some (.int x3.1),some w9]) rfl ?_
    obtain ⟨t12,e_t12,hm⟩:=bs hm
    obtain ⟨t15,e_t15,hm⟩:=bs hm
    refine q_if (hL (c:=t15) (et_not (et_B (ai (res:=fun r=>DD K (Dat.bool r)) (a:=(x3.2,a.2)) e_t12 (ae (eVd K h_notch) (ae (eVd K h_names) ea_nil))))) (fun eb=>by have e1:=aJ eb e_t15; (obtain ⟨t14,e_t14,e1⟩:=bs e1); (have e1:=Option.some.inj e1); subst e1; exact (j7 (c:=t14) (et_test (gW (eVd K (.int _)) (ab (K:=K)))) (fun eb=>by have e1:=aK eb e_t14; (obtain ⟨t13,e_t13,e1⟩:=bs e1); (have e1:=Option.some.inj e1); subst e1; exact (et_test (xx (a:=(x3.2.1,x3.2.2.1)) (b:=(t13.1,t13.2.1)) (ev_is (kA (eVd K h_notch) eo_none (eo_some (ab (K:=K)))) rfl) (ev_is (kA (ck (e:=(eP3 Dat.str Dat.str Dat.int)) e_t13 (eVd K h_notches) (dE (eVd K (.int _)) (ab (K:=K)))) eo_none (eo_some (ab (K:=K)))) rfl)))) (fun eb=>by have e1:=aJ eb e_t14; cases e1; exact ⟨rfl,rfl⟩))) (fun eb=>by have e1:=aK eb e_t15; cases e1; exact ⟨rfl,rfl⟩)) ok (fun hb G H s1 ok=>?_) (fun hb G H s1 ok=>?_)
    ·have hm:=aK hb hm
     cases hm
    ·have hm:=aJ hb hm
     have sl7:=sl7.trans s1
     refine aV ?_
     refine bp ?_
     cases hm
     exact hN _ _ _ _ sl7 ok ⟨_,_,rfl,hB⟩
   ·obtain ⟨y_place,y_notch,rfl,hB⟩:=hj
    have sg:=sg.trans s1
    refine bp ?_
    cases hm
    exact q _ _ _ sg (ok.less hB) .non
theorem il : FnScope ["self","bells","notches","name","other","number","bell"] ["self","bells","notches"] (defScope fD):=fsc
def a_Y8 (K : Fg) (a : (List (Str×Int))×(List (Str×Str×Int))) : List V→Hp→Prop:=ak (DD K ((eT (eP2 Dat.str Dat.int)) a.1)) (ak (DD K ((eT (eP3 Dat.str Dat.str Dat.int)) a.2)) (az))
def pR (a : (List (Str×Int))×(List (Str×Str×Int))) : Option Qp:=
 (qr a.1).bind fun t1=>(lcO (fun x2 : (Str×Int)=>some x2.1) a.1).bind fun t8=>(mV (a.2,t8)).bind fun t9=>(fq a.1).bind fun t10=>(dcO (fun x11 : (Str×Str×Int)=>some ((x11.1,x11.2.1),x11.2.2)) a.2).bind fun t20=>some (a.1,a.2,t10,t20)
abbrev wj [Tb] (K : Fg) : Sp:=spI K (clsAt K "Peal") ["bells","notches","sizes","turning"] (fun r=>[(eT (eP2 Dat.str Dat.int)) r.1,(eT (eP3 Dat.str Dat.str Dat.int)) r.2.1,(eDS Dat.int) r.2.2.1,(eDP Dat.int) r.2.2.2]) (a_Y8 K) pR
theorem AW [Tb] (T : Txt K mg) (O_Yk : FnA P w base CX0 4 T.w_Yk (wJ K)) (O_Ya : FnA P w base CX0 4 T.w_Ya (wN K)) : FnOk P w K mg base CX0 (5) T.a_Y8 T.d_Y8 ["self","bells","notches"] (wj K):=by
 refine T.F_Y8.ex.ok il (fun vs H Q E h=>?_) (fun cdv A outer s0 H vs Q E hr h=>?_)
 ·obtain ⟨G,M0,x,dx,ws,a,r,rfl,ok,hx0,⟨v_bells,_,rfl,h_bells,v_notches,_,rfl,h_notches,rfl⟩,hm,q⟩:=h
  rfl
 ·obtain ⟨G,M0,x,dx,ws,a,r,rfl,ok,hx0,⟨v_bells,_,rfl,h_bells,v_notches,_,rfl,h_notches,rfl⟩,hm,q⟩:=h
  unfold pR at hm
  have sg:=Same.refl G
  refine ⟨_,(pss_cons (ps_expr (pcW T.w_Yk O_Yk (hr.mono (by decide)) (pa_cons (pv 1) pa_nil))) (pss_cons (ps_expr (pcW T.w_Ya O_Ya (hr.mono (by decide)) (pa_cons (pv 2) (pa_cons (pe_lc (own:=[("bell",6)]) (g:=(gName 6)) (tt:=tYes) rfl il.nd (bf (K:=K) (pv 1)) (blkOk_by (own:=[("bell",6)]) (N:=["self","bells","notches","name","other","number","bell"]) (sc:=defScope fD) (by decide +kernel)) (fun _ _ _ _ _=>(pg_name (i:=6) il.nd rfl (by first | exact .inl rfl | exact .inr rfl))) (fun _ _ _ _ _=>pts_nil) (fun _ _ _ _ _=>(pe_ix (ah (K:=K)) (pv 6) pe_int (fun _ _=>rfl)))) pa_nil)))) (pss_cons (ps_fld (pv 0) (pv 1) rfl) (pss_cons (ps_fld (pv 0) (pv 2) rfl) (pss_cons (ps_fld (pv 0) (pe_callTy (jA (K:=K) rfl) (by rfl) T.n_dict (by decide +kernel) (pa_cons (pv 1) pa_nil)) rfl) (pss_cons (ps_fld (pv 0) (xl true (own:=[("name",3),("other",4),("number",5)]) (g:=(gTup K 3 (gCons (gName 3) (gCons (gName 4) (gCons (gName 5) gNil))))) (tt:=tYes) (hu_of hr) rfl il.nd (bf (K:=K) (pv 2)) (blkOk_by (own:=[("name",3),("other",4),("number",5)]) (N:=["self","bells","notches","name","other","number","bell"]) (sc:=defScope fD) (by decide +kernel)) (fun _ _ _ _ _=>(pg_tup rfl (pgs_cons (pg_name (i:=3) il.nd rfl (by first | exact .inl rfl | exact .inr rfl)) (pgs_cons (pg_name (i:=4) il.nd rfl (by first | exact .inl rfl | exact .inr rfl)) (pgs_cons (pg_name (i:=5) il.nd rfl (by first | exact .inl rfl | exact .inr rfl)) pgs_nil))))) (fun _ _ _ _ _=>pts_nil) (fun _ _ _ _ _=>(pe_tup (pa_cons (pv 3) (pa_cons (pv 4) pa_nil)))) (fun _ _ _ _ _=>(pv 5))) rfl) pss_nil)))))),?_⟩
  refine nrm (σ':=[some (.ref x),some v_bells,some v_notches,none,none,none,none]) rfl ?_
  obtain ⟨t1,e_t1,hm⟩:=bs hm
  refine bX (ai (res:=fun r=>DD K (eN r)) (a:=a.1) e_t1 (ae (eVd K h_bells) ea_nil)) ok (fun G H s1 ok=>?_)
  have h_bells:=aa s1 _ h_bells
  have h_notches:=aa s1 _ h_notches
  have sg:=sg.trans s1
  obtain ⟨t8,e_t8,hm⟩:=bs hm
  obtain ⟨t9,e_t9,hm⟩:=bs hm
  refine bX (ai (res:=fun r=>DD K (eN r)) (a:=(a.2,t8)) e_t9 (ae (eVd K h_notches) (ae (EvL.ev (bj (ea:=(eP2 Dat.str Dat.int)) (eb:=Dat.str) (xs:=a.1) (ys:=t8) (hf:=e_t8) (be (eVd K h_bells)) (fun x2 _ Mx6 _ _ he7 sM5 sG4 hv3=>by cases he7; exact (ay ⟨rfl,(au (d:=Dat.str x2.1) rfl (eVd K hv3) ab)⟩)))) ea_nil))) ok (fun G H s1 ok=>?_)
  have h_bells:=aa s1 _ h_bells
  have h_notches:=aa s1 _ h_notches
  have sg:=sg.trans s1
  refine ot (K:=K) (ns:=[]) T.cl_Peal T.na_Peal_bells (eVd K h_bells) (aq rfl) rfl (by decide +kernel) (by decide) ok (fun vf_bells G H s1 ok hf_bells=>?_)
  have h_bells:=aa s1 _ h_bells
  have h_notches:=aa s1 _ h_notches
  have sg:=sg.trans s1
  refine ot (K:=K) (ns:=["bells"]) T.cl_Peal T.na_Peal_notches (eVd K h_notches) (aq rfl) rfl (by decide +kernel) (by decide) ok (fun vf_notches G H s1 ok hf_notches=>?_)
  have h_bells:=aa s1 _ h_bells
  have h_notches:=aa s1 _ h_notches
  have hf_bells:=aa s1 _ hf_bells
  have sg:=sg.trans s1
  obtain ⟨t10,e_t10,hm⟩:=bs hm
  refine ot (K:=K) (ns:=["bells","notches"]) T.cl_Peal T.na_Peal_sizes (sf (e:=Dat.int) e_t10 (ae (eVd K h_bells) ea_nil)) (aq rfl) rfl (by decide +kernel) (by decide) ok (fun vf_sizes G H s1 ok hf_sizes=>?_)
  have h_notches:=aa s1 _ h_notches
  have hf_bells:=aa s1 _ hf_bells
  have hf_notches:=aa s1 _ hf_notches
  have sg:=sg.trans s1
  obtain ⟨t20,e_t20,hm⟩:=bs hm
  refine ot (K:=K) (ns:=["bells","notches","sizes"]) T.cl_Peal T.na_Peal_turning (yG (e:=Dat.int) (ea:=(eP3 Dat.str Dat.str Dat.int)) (xs:=a.2) (hf:=e_t20) (be (eVd K h_notches)) (fun x11 _ Mx15 _ _ he16 sM14 sG13 hv12=>by cases he16; exact (wn hv12 fun _ _ _ h17 h18 h19=>(ay (ay (ay ⟨rfl,(c4 (ag (eVd K h17) (ag (eVd K h18) (aC (K:=K))))),(eVd K h19)⟩)))))) (aq rfl) rfl (by decide +kernel) (by decide) ok (fun vf_turning G H s1 ok hf_turning=>?_)
  have hf_bells:=aa s1 _ hf_bells
  have hf_notches:=aa s1 _ hf_notches
  have hf_sizes:=aa s1 _ hf_sizes
  have sg:=sg.trans s1
  refine bp ?_
  cases hm
  exact q _ _ _ sg ok rfl (.cons hf_bells (.cons hf_notches (.cons hf_sizes (.cons hf_turning .nil))))
theorem Bt : FnScope ["thing"] ["thing"] (defScope tL):=fsc
def Dg (K : Fg) (a : Qp) : List V→Hp→Prop:=ak (DD K (bc a)) (az)
def jf (a : Qp) : Option Unit:=
 cond (!true) (none) (some ())
abbrev mJ [Tb] (K : Fg) : Sp:=spP (Dg K) (jf) fun r=>DD K (eN r)
theorem AQ [Tb] (T : Txt K mg) : FnA P w base CX0 (1) T.w_Yx (mJ K):=by
 refine T.w_Yx.F.ok Bt (fun vs H Q E h=>?_) (fun cdv A outer s0 H vs Q E hr h=>?_)
 ·obtain ⟨G,M0,a,r,ok,⟨v_thing,_,rfl,h_thing,rfl⟩,hm,q⟩:=h
  rfl
 ·obtain ⟨G,M0,a,r,ok,⟨v_thing,_,rfl,h_thing,rfl⟩,hm,q⟩:=h
  unfold jf at hm
  have sg:=Same.refl G
  have hB:=Same.refl M0
  refine ⟨_,(pss_cons (ps_if (pt_not (pt_val (pe_callB (bq (K:=K)) (by rfl) T.n_isinstance (by decide +kernel) (pa_cons (pv 0) (pa_cons (pe_glob (v:=.ref (clsAt K "Peal")) (by rfl) T.mg_Peal rfl) pa_nil))))) (pss_cons ps_never pss_nil) pss_nil) pss_nil),?_⟩
  refine nrm (σ':=[some v_thing]) rfl ?_
  refine q_if (et_not (et_B (vC (b:=true) T.co_Peal T.ki_Peal (ae (eVd K h_thing) (ea_cons xk xc ea_nil))))) ok (fun hb G H s1 ok=>?_) (fun hb G H s1 ok=>?_)
  ·have hm:=aK hb hm
   cases hm
  ·have hm:=aJ hb hm
   have sg:=sg.trans s1
   refine aV ?_
   refine bp ?_
   cases hm
   exact q _ _ _ sg (ok.less hB) .non
theorem Bs : FnScope ["peal","name"] ["peal","name"] (defScope ug):=fsc
def CV (K : Fg) (a : Qp×Str) : List V→Hp→Prop:=ak (DD K (bc a.1)) (ak (DD K (Dat.str a.2)) (az))
def mM (a : Qp×Str) : Option Unit:=
 (fk a.2).bind fun t1=>cond ((!t1) || (!iK a.1.2.2.1 a.2)) (none) (some ())
abbrev rZ [Tb] (K : Fg) : Sp:=spP (CV K) (mM) fun r=>DD K (eN r)
theorem BR [Tb] (T : Txt K mg) (O_Y1o : FnA P w base CX0 1 T.w_Y1o (gx K)) : FnA P w base CX0 (2) T.w_Yw (rZ K):=by
 refine T.w_Yw.F.ok Bs (fun vs H Q E h=>?_) (fun cdv A outer s0 H vs Q E hr h=>?_)
 ·obtain ⟨G,M0,a,r,ok,⟨v_peal,_,rfl,h_peal,v_name,_,rfl,h_name,rfl⟩,hm,q⟩:=h
  rfl
 ·obtain ⟨G,M0,a,r,ok,⟨v_peal,_,rfl,h_peal,v_name,_,rfl,h_name,rfl⟩,hm,q⟩:=h
  unfold mM at hm
  have sg:=Same.refl G
  have hB:=Same.refl M0
  refine ⟨_,(pss_cons (ps_if (PW.pt (pw_or (pt_not (pt_val (pcW T.w_Y1o O_Y1o (hr.mono (by decide)) (pa_cons (pv 1) pa_nil)))) (pw_or1 (pt_cmp (pc_dnotin (hu_of hr) (pv 1) (cF (K:=K) (pv 0))))))) (pss_cons ps_never pss_nil) pss_nil) pss_nil),?_⟩
  refine nrm (σ':=[some v_peal,some v_name]) rfl ?_
  obtain ⟨t1,e_t1,hm⟩:=bs hm
  refine q_if (et_or (et_not (et_B (ai (res:=fun r=>DD K (Dat.bool r)) (a:=a.2) e_t1 (ae (eVd K h_name) ea_nil)))) fun _=>(et_B (lr (e:=Dat.int) (xs:=a.1.2.2.1) (eVd K h_name) (dD (d:=(eDS Dat.int) a.1.2.2.1) (i:=2) T.cl_Peal T.na_Peal_sizes (by decide +kernel) rfl (eVd K h_peal))))) ok (fun hb G H s1 ok=>?_) (fun hb G H s1 ok=>?_)
  ·have hm:=aK hb hm
   cases hm
  ·have hm:=aJ hb hm
   have sg:=sg.trans s1
   refine aV ?_
   refine bp ?_
   cases hm
   exact q _ _ _ sg (ok.less hB) .non
theorem yL : FnScope ["peal","name","other"] ["peal","name","other"] (defScope mq):=fsc
def Ap (K : Fg) (a : Qp×Str×Str) : List V→Hp→Prop:=ak (DD K (bc a.1)) (ak (DD K (Dat.str a.2.1)) (ak (DD K (Dat.str a.2.2)) (az)))
def jp (a : Qp×Str×Str) : Option Unit:=
 (mM (a.1,a.2.1)).bind fun t1=>(mM (a.1,a.2.2)).bind fun t2=>cond (decide (a.2.2 = a.2.1)) (none) (some ())
abbrev rg [Tb] (K : Fg) : Sp:=spP (Ap K) (jp) fun r=>DD K (eN r)
theorem yD [Tb] (T : Txt K mg) (O_Yw : FnA P w base CX0 2 T.w_Yw (rZ K)) : FnA P w base CX0 (3) T.w_Y18 (rg K):=by
 refine T.w_Y18.F.ok yL (fun vs H Q E h=>?_) (fun cdv A outer s0 H vs Q E hr h=>?_)
 ·obtain ⟨G,M0,a,r,ok,⟨v_peal,_,rfl,h_peal,v_name,_,rfl,h_name,v_other,_,rfl,h_other,rfl⟩,hm,q⟩:=h
  rfl
 ·obtain ⟨G,M0,a,r,ok,⟨v_peal,_,rfl,h_peal,v_name,_,rfl,h_name,v_other,_,rfl,h_other,rfl⟩,hm,q⟩:=h
  unfold jp at hm
  have sg:=Same.refl G
  have hB:=Same.refl M0
  refine ⟨_,(pss_cons (ps_expr (pcW T.w_Yw O_Yw (hr.mono (by decide)) (pa_cons (pv 0) (pa_cons (pv 1) pa_nil)))) (pss_cons (ps_expr (pcW T.w_Yw O_Yw (hr.mono (by decide)) (pa_cons (pv 0) (pa_cons (pv 2) pa_nil)))) (pss_cons (ps_if (pt_cmpR op_eq (pv 2) (pv 1) (nomark _)) (pss_cons ps_never pss_nil) pss_nil) pss_nil))),?_⟩
  refine nrm (σ':=[some v_peal,some v_name,some v_other]) rfl ?_
  obtain ⟨t1,e_t1,hm⟩:=bs hm
  refine bX (ai (res:=fun r=>DD K (eN r)) (a:=(a.1,a.2.1)) e_t1 (ae (eVd K h_peal) (ae (eVd K h_name) ea_nil))) ok (fun G H s1 ok=>?_)
  have h_peal:=aa s1 _ h_peal
  have h_name:=aa s1 _ h_name
  have h_other:=aa s1 _ h_other
  have sg:=sg.trans s1
  obtain ⟨t2,e_t2,hm⟩:=bs hm
  refine bX (ai (res:=fun r=>DD K (eN r)) (a:=(a.1,a.2.2)) e_t2 (ae (eVd K h_peal) (ae (eVd K h_other) ea_nil))) ok (fun G H s1 ok=>?_)
  have h_name:=aa s1 _ h_name
  have h_other:=aa s1 _ h_other
  have sg:=sg.trans s1
  refine q_if (et_test (xg (eVd K h_other) (eVd K h_name))) ok (fun hb G H s1 ok=>?_) (fun hb G H s1 ok=>?_)
  ·have hm:=aK hb hm
   cases hm
  ·have hm:=aJ hb hm
   have sg:=sg.trans s1
   refine aV ?_
   refine bp ?_
   cases hm
   exact q _ _ _ sg (ok.less hB) .non
theorem sQ : FnScope ["self","bell"] ["self"] (defScope pG):=fsc
def xR (K : Fg) (a : Qp) : List V→Hp→Prop:=ak (DD K (bc a)) (az)
def lY (a : Qp) : Option (List Str):=
 (lcO (fun x1 : (Str×Int)=>some x1.1) a.1).bind fun t7=>some t7
abbrev qZ [Tb] (K : Fg) : Sp:=spP (xR K) (lY) fun r=>DD K ((eT Dat.str) r)
theorem zJ [Tb] (T : Txt K mg) : FnB P w base CX0 (1) mg T.w_Yn (qZ K):=by
 refine T.w_Yn.F.ok sQ (fun vs H Q E h=>?_) (fun cdv A outer s0 H vs Q E hr h=>?_)
 ·obtain ⟨G,M0,a,r,ok,⟨v_self,_,rfl,h_self,rfl⟩,hm,q⟩:=h
  rfl
 ·obtain ⟨G,M0,a,r,ok,⟨v_self,_,rfl,h_self,rfl⟩,hm,q⟩:=h
  unfold lY at hm
  have sg:=Same.refl G
  have hB:=Same.refl M0
  refine ⟨_,(pss_cons (ps_ret (pe_callTy (bu (K:=K)) (by rfl) T.n_tuple (by decide +kernel) (pa_cons (pe_lc (own:=[("bell",1)]) (g:=(gName 1)) (tt:=tYes) rfl sQ.nd (bf (K:=K) (cF (K:=K) (pv 0))) (blkOk_by (own:=[("bell",1)]) (N:=["self","bell"]) (sc:=defScope pG) (by decide +kernel)) (fun _ _ _ _ _=>(pg_name (i:=1) sQ.nd rfl (by first | exact .inl rfl | exact .inr rfl))) (fun _ _ _ _ _=>pts_nil) (fun _ _ _ _ _=>(pe_ix (ah (K:=K)) (pv 1) pe_int (fun _ _=>rfl)))) pa_nil))) pss_nil),?_⟩
  refine nrm (σ':=[some v_self,none]) rfl ?_
  obtain ⟨t7,e_t7,hm⟩:=bs hm
  refine aM (cx (ae (EvL.ev (bj (ea:=(eP2 Dat.str Dat.int)) (eb:=Dat.str) (xs:=a.1) (ys:=t7) (hf:=e_t7) (be (dD (d:=(eT (eP2 Dat.str Dat.int)) a.1) (i:=0) T.cl_Peal T.na_Peal_bells (by decide +kernel) rfl (eVd K h_self))) (fun x1 _ Mx5 _ _ he6 sM4 sG3 hv2=>by cases he6; exact (ay ⟨rfl,(au (d:=Dat.str x1.1) rfl (eVd K hv2) ab)⟩)))) ea_nil)) ok (fun v G H s1 ok hv=>?_)
  have sg:=sg.trans s1
  cases hm
  exact q v G H sg (ok.less hB) hv
theorem Af : FnScope ["self","name","other"] ["self","name","other"] (defScope se):=fsc
def qV (K : Fg) (a : Qp×Str×Str) : List V→Hp→Prop:=ak (DD K (bc a.1)) (ak (DD K (Dat.str a.2.1)) (ak (DD K (Dat.str a.2.2)) (az)))
def mC (a : Qp×Str×Str) : Option Int:=
 (mM (a.1,a.2.1)).bind fun t1=>(mM (a.1,a.2.2)).bind fun t2=>some (bt a.1.2.2.2 (a.2.1,a.2.2) (0 : Int))
abbrev oR [Tb] (K : Fg) : Sp:=spP (qV K) (mC) fun r=>DD K (Dat.int r)
theorem Aw [Tb] (T : Txt K mg) (O_Yw : FnA P w base CX0 2 T.w_Yw (rZ K)) : FnB P w base CX0 (3) mg T.w_Yo (oR K):=by
 refine T.w_Yo.F.ok Af (fun vs H Q E h=>?_) (fun cdv A outer s0 H vs Q E hr h=>?_)
 ·obtain ⟨G,M0,a,r,ok,⟨v_self,_,rfl,h_self,v_name,_,rfl,h_name,v_other,_,rfl,h_other,rfl⟩,hm,q⟩:=h
  rfl
 ·obtain ⟨G,M0,a,r,ok,⟨v_self,_,rfl,h_self,v_name,_,rfl,h_name,v_other,_,rfl,h_other,rfl⟩,hm,q⟩:=h
  unfold mC at hm
  have sg:=Same.refl G
  have hB:=Same.refl M0
  refine ⟨_,(pss_cons (ps_expr (pcW T.w_Yw O_Yw (hr.mono (by decide)) (pa_cons (pv 0) (pa_cons (pv 1) pa_nil)))) (pss_cons (ps_expr (pcW T.w_Yw O_Yw (hr.mono (by decide)) (pa_cons (pv 0) (pa_cons (pv 2) pa_nil)))) (pss_cons (ps_ret (pe_dget2 (hu_of hr) (cF (K:=K) (pv 0)) (pe_tup (pa_cons (pv 1) (pa_cons (pv 2) pa_nil))) pe_int ⟨rfl,rfl,rfl,rfl⟩)) pss_nil))),?_⟩
  refine nrm (σ':=[some v_self,some v_name,some v_other]) rfl ?_
  obtain ⟨t1,e_t1,hm⟩:=bs hm
  refine bX (ai (res:=fun r=>DD K (eN r)) (a:=(a.1,a.2.1)) e_t1 (ae (eVd K h_self) (ae (eVd K h_name) ea_nil))) ok (fun G H s1 ok=>?_)
  have h_self:=aa s1 _ h_self
  have h_name:=aa s1 _ h_name
  have h_other:=aa s1 _ h_other
  have sg:=sg.trans s1
  obtain ⟨t2,e_t2,hm⟩:=bs hm
  refine bX (ai (res:=fun r=>DD K (eN r)) (a:=(a.1,a.2.2)) e_t2 (ae (eVd K h_self) (ae (eVd K h_other) ea_nil))) ok (fun G H s1 ok=>?_)
  have h_self:=aa s1 _ h_self
  have h_name:=aa s1 _ h_name
  have h_other:=aa s1 _ h_other
  have sg:=sg.trans s1
  refine aM (fb (e:=Dat.int) (xs:=a.1.2.2.2) (k:=(a.2.1,a.2.2)) (z:=(0 : Int)) (dD (d:=(eDP Dat.int) a.1.2.2.2) (i:=3) T.cl_Peal T.na_Peal_turning (by decide +kernel) rfl (eVd K h_self)) (c4 (ag (eVd K h_name) (ag (eVd K h_other) (aC (K:=K))))) (ab (K:=K))) ok (fun v G H s1 ok hv=>?_)
  have sg:=sg.trans s1
  cases hm
  exact q v G H sg (ok.less hB) hv
theorem ny : FnScope ["peal","thing","part"] ["peal","thing"] (defScope jt):=fsc
def Bb (K : Fg) (a : Qp×(List Str)) : List V→Hp→Prop:=ak (DD K (bc a.1)) (ak (DD K ((eT Dat.str) a.2)) (az))
def gz (a : Qp×(List Str)) : Option Bool:=
 cond ((!true) || (!decide ((a.2.length : Int) = (a.1.1.length : Int)))) (some false) ((lcO (fun x1 : Str=>(fk x1).bind fun t7=>some t7) a.2).bind fun t8=>(cond (t8.all id) ((jN a.2).bind fun t9=>(lY a.1).bind fun t10=>some (decide (t9 = t10))) (some false)).bind fun t11=>some t11)
abbrev oe [Tb] (K : Fg) : Sp:=spP (Bb K) (gz) fun r=>DD K (Dat.bool r)
theorem yb [Tb] (T : Txt K mg) (O_Y1o : FnA P w base CX0 1 T.w_Y1o (gx K)) (O_Yn : FnB P w base CX0 1 mg T.w_Yn (qZ K)) : FnA P w base CX0 (2) T.w_Y1f (oe K):=by
 refine T.w_Y1f.F.ok ny (fun vs H Q E h=>?_) (fun cdv A outer s0 H vs Q E hr h=>?_)
 ·obtain ⟨G,M0,a,r,ok,⟨v_peal,_,rfl,h_peal,v_thing,_,rfl,h_thing,rfl⟩,hm,q⟩:=h
  rfl
 ·obtain ⟨G,M0,a,r,ok,⟨v_peal,_,rfl,h_peal,v_thing,_,rfl,h_thing,rfl⟩,hm,q⟩:=h
  unfold gz at hm
  have sg:=Same.refl G
  have hB:=Same.refl M0
  refine ⟨_,(pss_cons (ps_if (PW.pt (pw_or (pt_not (pt_val (pe_callB (bq (K:=K)) (by rfl) T.n_isinstance (by decide +kernel) (pa_cons (pv 1) (pa_cons (pe_bltn (v:=.ty "tuple") (by rfl) T.n_tuple (by decide +kernel) rfl) pa_nil))))) (pw_or1 (pt_cmpR op_ne (pe_callB (aR (K:=K)) (by rfl) T.n_len (by decide +kernel) (pa_cons (pv 1) pa_nil)) (pe_callB (aR (K:=K)) (by rfl) T.n_len (by decide +kernel) (pa_cons (cF (K:=K) (pv 0)) pa_nil)) (nomark _))))) (pss_cons (ps_ret pe_bl) pss_nil) pss_nil) (pss_cons (ps_ret (pe_and (pe_callB (fQ (K:=K) rfl) (by rfl) T.n_all (by decide +kernel) (pa_cons (pe_lc (own:=[("part",2)]) (g:=(gName 2)) (tt:=tYes) rfl ny.nd (bf (K:=K) (pv 1)) (blkOk_by (own:=[("part",2)]) (N:=["peal","thing","part"]) (sc:=defScope jt) (by decide +kernel)) (fun _ _ _ _ _=>(pg_name (i:=2) ny.nd rfl (by first | exact .inl rfl | exact .inr rfl))) (fun _ _ _ _ _=>pts_nil) (fun _ _ _ _ _=>(pcW T.w_Y1o O_Y1o (hr.mono (by decide)) (pa_cons (pv 2) pa_nil)))) pa_nil)) (pe_one (pe_cmpR (o5 (K:=K) hr.units) (pe_callTy (bu (K:=K)) (by rfl) T.n_tuple (by decide +kernel) (pa_cons (pe_callB (lZ (K:=K)) (by rfl) T.n_sorted (by decide +kernel) (pa_cons (pv 1) pa_nil)) pa_nil)) (pe_meth0 (pv 0) T.cl_Peal T.w_Yn.e O_Yn (hr.mono (by decide)) T.w_Yn.b .nil pass0) (nomark _))))) pss_nil)),?_⟩
  refine nrm (σ':=[some v_peal,some v_thing,none]) rfl ?_
  refine q_if (et_or (et_not (et_B (cU (d:=(eT Dat.str) a.2) (n:="tuple") (b:=true) rfl (show kitB "tuple" "tuple" = some true by decide +kernel) (ae (eVd K h_thing) (ea_cons cY cO ea_nil))))) fun _=>(et_test (g9 (bG (e:=Dat.str) (ae (eVd K h_thing) ea_nil)) (bG (e:=(eP2 Dat.str Dat.int)) (ae (dD (d:=(eT (eP2 Dat.str Dat.int)) a.1.1) (i:=0) T.cl_Peal T.na_Peal_bells (by decide +kernel) rfl (eVd K h_peal)) ea_nil))))) ok (fun hb G H s1 ok=>?_) (fun hb G H s1 ok=>?_)
  ·have hm:=aK hb hm
   have sg:=sg.trans s1
   refine aM (dJ (K:=K)) ok (fun v G H s1 ok hv=>?_)
   have sg:=sg.trans s1
   cases hm
   exact q v G H sg (ok.less hB) hv
  ·have hm:=aJ hb hm
   have h_peal:=aa s1 _ h_peal
   have h_thing:=aa s1 _ h_thing
   have sg:=sg.trans s1
   refine aV ?_
   obtain ⟨t8,e_t8,hm⟩:=bs hm
   obtain ⟨t11,e_t11,hm⟩:=bs hm
   refine aM (fH (c:=t11) (fK (ae (EvL.ev (bj (ea:=Dat.str) (eb:=Dat.bool) (xs:=a.2) (ys:=t8) (hf:=e_t8) (be (eVd K h_thing)) (fun x1 _ Mx5 _ _ he6 sM4 sG3 hv2=>by (obtain ⟨t7,e_t7,he6⟩:=bs he6); (have he6:=Option.some.inj he6); subst he6; exact (ay ⟨rfl,(ai (res:=fun r=>DD K (Dat.bool r)) (a:=x1) e_t7 (ae (eVd K hv2) ea_nil))⟩)))) ea_nil)) (fun eb=>by have e1:=aK eb e_t11; (obtain ⟨t9,e_t9,e1⟩:=bs e1); (obtain ⟨t10,e_t10,e1⟩:=bs e1); (have e1:=Option.some.inj e1); subst e1; exact (rd (e:=(eT Dat.str)) (x:=t9) (y:=t10) (kR fT) (by decide) (cx (ae (EvL.ev (lG e_t9 (ae (eVd K h_thing) ea_nil))) ea_nil)) (eY (args:=xR K) (a:=a.1) (by decide +kernel) rfl e_t10 (eVd K h_peal) ea_nil))) (fun eb=>by have e1:=aJ eb e_t11; cases e1; exact ⟨rfl,rfl⟩)) ok (fun v G H s1 ok hv=>?_)
   have sg:=sg.trans s1
   cases hm
   exact q v G H sg (ok.less hB) hv
theorem lm : FnScope ["peal","thing","dial","name","marks"] ["peal","thing"] (defScope pD):=fsc
def C4 (K : Fg) (a : Qp×(List Int)) : List V→Hp→Prop:=ak (DD K (bc a.1)) (ak (DD K ((eT Dat.int) a.2)) (az))
def qp (a : Qp×(List Int)) : Option Bool:=
 cond ((!true) || (!decide ((a.2.length : Int) = (a.1.1.length : Int)))) (some false) ((lcO (fun x1 : (Int×(Str×Int))=>(ip (x1.1,(0 : Int),(x1.2.2 - (1 : Int)))).bind fun t11=>some t11) (a.2.zip a.1.1)).bind fun t12=>some (t12.all id))
abbrev wo [Tb] (K : Fg) : Sp:=spP (C4 K) (qp) fun r=>DD K (Dat.bool r)
theorem BF [Tb] (T : Txt K mg) (O_Y19 : FnA P w base CX0 2 T.w_Y19 (j0 K)) : FnA P w base CX0 (3) T.w_Yy (wo K):=by
 refine T.w_Yy.F.ok lm (fun vs H Q E h=>?_) (fun cdv A outer s0 H vs Q E hr h=>?_)
 ·obtain ⟨G,M0,a,r,ok,⟨v_peal,_,rfl,h_peal,v_thing,_,rfl,h_thing,rfl⟩,hm,q⟩:=h
  rfl
 ·obtain ⟨G,M0,a,r,ok,⟨v_peal,_,rfl,h_peal,v_thing,_,rfl,h_thing,rfl⟩,hm,q⟩:=h
  unfold qp at hm
  have sg:=Same.refl G
  have hB:=Same.refl M0
  refine ⟨_,(pss_cons (ps_if (PW.pt (pw_or (pt_not (pt_val (pe_callB (bq (K:=K)) (by rfl) T.n_isinstance (by decide +kernel) (pa_cons (pv 1) (pa_cons (pe_bltn (v:=.ty "tuple") (by rfl) T.n_tuple (by decide +kernel) rfl) pa_nil))))) (pw_or1 (pt_cmpR op_ne (pe_callB (aR (K:=K)) (by rfl) T.n_len (by decide +kernel) (pa_cons (pv 1) pa_nil)) (pe_callB (aR (K:=K)) (by rfl) T.n_len (by decide +kernel) (pa_cons (cF (K:=K) (pv 0)) pa_nil)) (nomark _))))) (pss_cons (ps_ret pe_bl) pss_nil) pss_nil) (pss_cons (ps_ret (pe_callB (fQ (K:=K) rfl) (by rfl) T.n_all (by decide +kernel) (pa_cons (pe_lc (own:=[("dial",2),("name",3),("marks",4)]) (g:=(gTup K 2 (gCons (gName 2) (gCons (gTup K 2 (gCons (gName 3) (gCons (gName 4) gNil))) gNil)))) (tt:=tYes) rfl lm.nd (lw (K:=K) true true (by rfl) T.n_zip (pa_cons (pv 1) (pa_cons (cF (K:=K) (pv 0)) pa_nil))) (blkOk_by (own:=[("dial",2),("name",3),("marks",4)]) (N:=["peal","thing","dial","name","marks"]) (sc:=defScope pD) (by decide +kernel)) (fun _ _ _ _ _=>(pg_tup rfl (pgs_cons (pg_name (i:=2) lm.nd rfl (by first | exact .inl rfl | exact .inr rfl)) (pgs_cons (pg_tup rfl (pgs_cons (pg_name (i:=3) lm.nd rfl (by first | exact .inl rfl | exact .inr rfl)) (pgs_cons (pg_name (i:=4) lm.nd rfl (by first | exact .inl rfl | exact .inr rfl)) pgs_nil))) pgs_nil)))) (fun _ _ _ _ _=>pts_nil) (fun _ _ _ _ _=>(pcW T.w_Y19 O_Y19 (hr.mono (by decide)) (pa_cons (pv 2) (pa_cons pe_int (pa_cons (pe_op op_sub (pv 4) pe_int) pa_nil)))))) pa_nil))) pss_nil)),?_⟩
  refine nrm (σ':=[some v_peal,some v_thing,none,none,none]) rfl ?_
  refine q_if (et_or (et_not (et_B (cU (d:=(eT Dat.int) a.2) (n:="tuple") (b:=true) rfl (show kitB "tuple" "tuple" = some true by decide +kernel) (ae (eVd K h_thing) (ea_cons cY cO ea_nil))))) fun _=>(et_test (g9 (bG (e:=Dat.int) (ae (eVd K h_thing) ea_nil)) (bG (e:=(eP2 Dat.str Dat.int)) (ae (dD (d:=(eT (eP2 Dat.str Dat.int)) a.1.1) (i:=0) T.cl_Peal T.na_Peal_bells (by decide +kernel) rfl (eVd K h_peal)) ea_nil))))) ok (fun hb G H s1 ok=>?_) (fun hb G H s1 ok=>?_)
  ·have hm:=aK hb hm
   have sg:=sg.trans s1
   refine aM (dJ (K:=K)) ok (fun v G H s1 ok hv=>?_)
   have sg:=sg.trans s1
   cases hm
   exact q v G H sg (ok.less hB) hv
  ·have hm:=aJ hb hm
   have h_peal:=aa s1 _ h_peal
   have h_thing:=aa s1 _ h_thing
   have sg:=sg.trans s1
   refine aV ?_
   obtain ⟨t12,e_t12,hm⟩:=bs hm
   refine aM (fK (ae (EvL.ev (bj (ea:=(eR2 Dat.int (eP2 Dat.str Dat.int))) (eb:=Dat.bool) (xs:=(a.2.zip a.1.1)) (ys:=t12) (hf:=e_t12) (Src.is (mP (ka:=true) (kb:=true) (ae (eVd K h_thing) (ae (dD (d:=(eT (eP2 Dat.str Dat.int)) a.1.1) (i:=0) T.cl_Peal T.na_Peal_bells (by decide +kernel) rfl (eVd K h_peal)) ea_nil))) mH) (fun x1 _ Mx5 _ _ he6 sM4 sG3 hv2=>by (obtain ⟨t11,e_t11,he6⟩:=bs he6); (have he6:=Option.some.inj he6); subst he6; exact (mz hv2 fun _ _ h7 h8=>(ay (ua h8 fun _ _ h9 h10=>(ay (ay ⟨rfl,(ai (res:=fun r=>DD K (Dat.bool r)) (a:=(x1.1,(0 : Int),(x1.2.2 - (1 : Int)))) e_t11 (ae (eVd K h7) (ae (ab (K:=K)) (ae (dE (eVd K h10) (ab (K:=K))) ea_nil))))⟩)))))))) ea_nil)) ok (fun v G H s1 ok hv=>?_)
   have sg:=sg.trans s1
   cases hm
   exact q v G H sg (ok.less hB) hv
theorem Ck : FnScope ["peal","thing"] ["peal","thing"] (defScope rF):=fsc
def C8 (K : Fg) (a : Qp×Qs) : List V→Hp→Prop:=ak (DD K (bc a.1)) (ak (DD K ((eP2 (eT Dat.str) (eT Dat.int)) a.2)) (az))
def vc (a : Qp×Qs) : Option Bool:=
 cond ((!true) || (!decide ((2 : Int) = (2 : Int)))) (some false) ((gz (a.1,a.2.1)).bind fun t1=>(cond t1 ((qp (a.1,a.2.2)).bind fun t2=>some t2) (some false)).bind fun t3=>some t3)
abbrev wr [Tb] (K : Fg) : Sp:=spP (C8 K) (vc) fun r=>DD K (Dat.bool r)
theorem AO [Tb] (T : Txt K mg) (O_Y1f : FnA P w base CX0 2 T.w_Y1f (oe K)) (O_Yy : FnA P w base CX0 3 T.w_Yy (wo K)) : FnA P w base CX0 (4) T.w_Yb (wr K):=by
 refine T.w_Yb.F.ok Ck (fun vs H Q E h=>?_) (fun cdv A outer s0 H vs Q E hr h=>?_)
 ·obtain ⟨G,M0,a,r,ok,⟨v_peal,_,rfl,h_peal,v_thing,_,rfl,h_thing,rfl⟩,hm,q⟩:=h
  rfl
 ·obtain ⟨G,M0,a,r,ok,⟨v_peal,_,rfl,h_peal,v_thing,_,rfl,h_thing,rfl⟩,hm,q⟩:=h
  unfold vc at hm
  have sg:=Same.refl G
  have hB:=Same.refl M0
  refine ⟨_,(pss_cons (ps_if (PW.pt (pw_or (pt_not (pt_val (pe_callB (bq (K:=K)) (by rfl) T.n_isinstance (by decide +kernel) (pa_cons (pv 1) (pa_cons (pe_bltn (v:=.ty "tuple") (by rfl) T.n_tuple (by decide +kernel) rfl) pa_nil))))) (pw_or1 (pt_cmpR op_ne (pe_callB (aR (K:=K)) (by rfl) T.n_len (by decide +kernel) (pa_cons (pv 1) pa_nil)) pe_int (nomark _))))) (pss_cons (ps_ret pe_bl) pss_nil) pss_nil) (pss_cons (ps_ret (pe_and (pcW T.w_Y1f O_Y1f (hr.mono (by decide)) (pa_cons (pv 0) (pa_cons (pe_ix (ah (K:=K)) (pv 1) pe_int (fun _ _=>rfl)) pa_nil))) (pe_one (pcW T.w_Yy O_Yy (hr.mono (by decide)) (pa_cons (pv 0) (pa_cons (pe_ix (ah (K:=K)) (pv 1) pe_int (fun _ _=>rfl)) pa_nil)))))) pss_nil)),?_⟩
  refine nrm (σ':=[some v_peal,some v_thing]) rfl ?_
  refine q_if (et_or (et_not (et_B (cU (d:=(eP2 (eT Dat.str) (eT Dat.int)) a.2) (n:="tuple") (b:=true) rfl (show kitB "tuple" "tuple" = some true by decide +kernel) (ae (eVd K h_thing) (ea_cons cY cO ea_nil))))) fun _=>(et_test (g9 (gJ (ae (eVd K h_thing) ea_nil)) (ab (K:=K))))) ok (fun hb G H s1 ok=>?_) (fun hb G H s1 ok=>?_)
  ·have hm:=aK hb hm
   have sg:=sg.trans s1
   refine aM (dJ (K:=K)) ok (fun v G H s1 ok hv=>?_)
   have sg:=sg.trans s1
   cases hm
   exact q v G H sg (ok.less hB) hv
  ·have hm:=aJ hb hm
   have h_peal:=aa s1 _ h_peal
   have h_thing:=aa s1 _ h_thing
   have sg:=sg.trans s1
   refine aV ?_
   obtain ⟨t1,e_t1,hm⟩:=bs hm
   obtain ⟨t3,e_t3,hm⟩:=bs hm
   refine aM (fH (c:=t3) (ai (res:=fun r=>DD K (Dat.bool r)) (a:=(a.1,a.2.1)) e_t1 (ae (eVd K h_peal) (ae (au (d:=(eT Dat.str) a.2.1) rfl (eVd K h_thing) ab) ea_nil))) (fun eb=>by have e1:=aK eb e_t3; (obtain ⟨t2,e_t2,e1⟩:=bs e1); (have e1:=Option.some.inj e1); subst e1; exact (ai (res:=fun r=>DD K (Dat.bool r)) (a:=(a.1,a.2.2)) e_t2 (ae (eVd K h_peal) (ae (au (d:=(eT Dat.int) a.2.2) rfl (eVd K h_thing) ab) ea_nil)))) (fun eb=>by have e1:=aJ eb e_t3; cases e1; exact ⟨rfl,rfl⟩)) ok (fun v G H s1 ok hv=>?_)
   have sg:=sg.trans s1
   cases hm
   exact q v G H sg (ok.less hB) hv
theorem zH : FnScope ["peal","thing"] ["peal","thing"] (defScope rL):=fsc
def Dh (K : Fg) (a : Qp×Qs) : List V→Hp→Prop:=ak (DD K (bc a.1)) (ak (DD K ((eP2 (eT Dat.str) (eT Dat.int)) a.2)) (az))
def rQ (a : Qp×Qs) : Option Unit:=
 (vc (a.1,a.2)).bind fun t1=>cond (!t1) (none) (some ())
abbrev wD [Tb] (K : Fg) : Sp:=spP (Dh K) (rQ) fun r=>DD K (eN r)
theorem yZ [Tb] (T : Txt K mg) (O_Yb : FnA P w base CX0 4 T.w_Yb (wr K)) : FnA P w base CX0 (5) T.w_Y7 (wD K):=by
 refine T.w_Y7.F.ok zH (fun vs H Q E h=>?_) (fun cdv A outer s0 H vs Q E hr h=>?_)
 ·obtain ⟨G,M0,a,r,ok,⟨v_peal,_,rfl,h_peal,v_thing,_,rfl,h_thing,rfl⟩,hm,q⟩:=h
  rfl
 ·obtain ⟨G,M0,a,r,ok,⟨v_peal,_,rfl,h_peal,v_thing,_,rfl,h_thing,rfl⟩,hm,q⟩:=h
  unfold rQ at hm
  have sg:=Same.refl G
  have hB:=Same.refl M0
  refine ⟨_,(pss_cons (ps_if (pt_not (pt_val (pcW T.w_Yb O_Yb (hr.mono (by decide)) (pa_cons (pv 0) (pa_cons (pv 1) pa_nil))))) (pss_cons ps_never pss_nil) pss_nil) pss_nil),?_⟩
  refine nrm (σ':=[some v_peal,some v_thing]) rfl ?_
  obtain ⟨t1,e_t1,hm⟩:=bs hm
  refine q_if (et_not (et_B (ai (res:=fun r=>DD K (Dat.bool r)) (a:=(a.1,a.2)) e_t1 (ae (eVd K h_peal) (ae (eVd K h_thing) ea_nil))))) ok (fun hb G H s1 ok=>?_) (fun hb G H s1 ok=>?_)
  ·have hm:=aK hb hm
   cases hm
  ·have hm:=aJ hb hm
   have sg:=sg.trans s1
   refine aV ?_
   refine bp ?_
   cases hm
   exact q _ _ _ sg (ok.less hB) .non
theorem ya : FnScope ["peal","thing"] ["peal","thing"] (defScope lA):=fsc
def yX (K : Fg) (a : Qp×(List Str)) : List V→Hp→Prop:=ak (DD K (bc a.1)) (ak (DD K ((eT Dat.str) a.2)) (az))
def fj (a : Qp×(List Str)) : Option Unit:=
 (gz (a.1,a.2)).bind fun t1=>cond (!t1) (none) (some ())
abbrev mR [Tb] (K : Fg) : Sp:=spP (yX K) (fj) fun r=>DD K (eN r)
theorem yh [Tb] (T : Txt K mg) (O_Y1f : FnA P w base CX0 2 T.w_Y1f (oe K)) : FnA P w base CX0 (3) T.w_Y17 (mR K):=by
 refine T.w_Y17.F.ok ya (fun vs H Q E h=>?_) (fun cdv A outer s0 H vs Q E hr h=>?_)
 ·obtain ⟨G,M0,a,r,ok,⟨v_peal,_,rfl,h_peal,v_thing,_,rfl,h_thing,rfl⟩,hm,q⟩:=h
  rfl
 ·obtain ⟨G,M0,a,r,ok,⟨v_peal,_,rfl,h_peal,v_thing,_,rfl,h_thing,rfl⟩,hm,q⟩:=h
  unfold fj at hm
  have sg:=Same.refl G
  have hB:=Same.refl M0
  refine ⟨_,(pss_cons (ps_if (pt_not (pt_val (pcW T.w_Y1f O_Y1f (hr.mono (by decide)) (pa_cons (pv 0) (pa_cons (pv 1) pa_nil))))) (pss_cons ps_never pss_nil) pss_nil) pss_nil),?_⟩
  refine nrm (σ':=[some v_peal,some v_thing]) rfl ?_
  obtain ⟨t1,e_t1,hm⟩:=bs hm
  refine q_if (et_not (et_B (ai (res:=fun r=>DD K (Dat.bool r)) (a:=(a.1,a.2)) e_t1 (ae (eVd K h_peal) (ae (eVd K h_thing) ea_nil))))) ok (fun hb G H s1 ok=>?_) (fun hb G H s1 ok=>?_)
  ·have hm:=aK hb hm
   cases hm
  ·have hm:=aJ hb hm
   have sg:=sg.trans s1
   refine aV ?_
   refine bp ?_
   cases hm
   exact q _ _ _ sg (ok.less hB) .non
theorem rJ : FnScope ["peal","thing","place","name"] ["peal","thing"] (defScope sL):=fsc
def CU (K : Fg) (a : Qp×(List Str)) : List V→Hp→Prop:=ak (DD K (bc a.1)) (ak (DD K ((eT Dat.str) a.2)) (az))
def nP (a : Qp×(List Str)) : Option Unit:=
 cond ((!true) || (decide ((400 : Int) < (a.2.length : Int)))) (none) ((cC (fun (st2 : Unit) (x3 : (Int×Str))=>(fk x3.2).bind fun t12=>cond ((!t12) || (!iK a.1.2.2.1 x3.2)) (none) (some ())) (dO a.2) ()).bind fun fin1=>some ())
abbrev rk [Tb] (K : Fg) : Sp:=spP (CU K) (nP) fun r=>DD K (eN r)
theorem AM [Tb] (T : Txt K mg) (O_Y1o : FnA P w base CX0 1 T.w_Y1o (gx K)) : FnA P w base CX0 (2) T.w_Yl (rk K):=by
 refine T.w_Yl.F.ok rJ (fun vs H Q E h=>?_) (fun cdv A outer s0 H vs Q E hr h=>?_)
 ·obtain ⟨G,M0,a,r,ok,⟨v_peal,_,rfl,h_peal,v_thing,_,rfl,h_thing,rfl⟩,hm,q⟩:=h
  rfl
 ·obtain ⟨G,M0,a,r,ok,⟨v_peal,_,rfl,h_peal,v_thing,_,rfl,h_thing,rfl⟩,hm,q⟩:=h
  unfold nP at hm
  have sg:=Same.refl G
  have hB:=Same.refl M0
  refine ⟨_,(pss_cons (ps_if (PW.pt (pw_or (pt_not (pt_val (pe_callB (bq (K:=K)) (by rfl) T.n_isinstance (by decide +kernel) (pa_cons (pv 1) (pa_cons (pe_bltn (v:=.ty "tuple") (by rfl) T.n_tuple (by decide +kernel) rfl) pa_nil))))) (pw_or1 (pt_cmpR op_gt (pe_callB (aR (K:=K)) (by rfl) T.n_len (by decide +kernel) (pa_cons (pv 1) pa_nil)) (pe_glob (v:=.int 400) (by rfl) T.c_MOST_RINGS ⟨_,rfl⟩) (nomark _))))) (pss_cons ps_never pss_nil) pss_nil) (pss_cons (ps_for PassesOwn.never rfl (dn (K:=K) (by rfl) T.n_enumerate (pa_cons (pv 1) pa_nil)) (pg_tup rfl (pgs_cons (pg_name (i:=2) rJ.nd rfl (.inl rfl)) (pgs_cons (pg_name (i:=3) rJ.nd rfl (.inl rfl)) pgs_nil))) (pss_cons (ps_if (PW.pt (pw_or (pt_not (pt_val (pcW T.w_Y1o O_Y1o (hr.mono (by decide)) (pa_cons (pv 3) pa_nil)))) (pw_or1 (pt_cmp (pc_dnotin (hu_of hr) (pv 3) (cF (K:=K) (pv 0))))))) (pss_cons ps_never pss_nil) pss_nil) pss_nil)) pss_nil)),?_⟩
  refine nrm (σ':=[some v_peal,some v_thing,none,none]) rfl ?_
  refine q_if (et_or (et_not (et_B (cU (d:=(eT Dat.str) a.2) (n:="tuple") (b:=true) rfl (show kitB "tuple" "tuple" = some true by decide +kernel) (ae (eVd K h_thing) (ea_cons cY cO ea_nil))))) fun _=>(et_test (gW (bG (e:=Dat.str) (ae (eVd K h_thing) ea_nil)) (ab (K:=K))))) ok (fun hb G H s1 ok=>?_) (fun hb G H s1 ok=>?_)
  ·have hm:=aK hb hm
   cases hm
  ·have hm:=aJ hb hm
   have h_peal:=aa s1 _ h_peal
   have h_thing:=aa s1 _ h_thing
   have sg:=sg.trans s1
   refine aV ?_
   obtain ⟨fin1,e_fin1,hm⟩:=bs hm
   refine bP (ea:=(eR2 Dat.int Dat.str)) (Src.is (dm (ae (eVd K h_thing) ea_nil)) dv) ok (fun (st2 : Unit) σ1 G1 M1=>∃ (y_place : Option V) (y_name : Option V),σ1 = [some v_peal,some v_thing,y_place,y_name]∧(Same M0 M1)) e_fin1 (fun G1 s1=>⟨_,_,rfl,hB⟩) (by rintro _ _ _ _ _ ⟨y_place,y_name,rfl,hB⟩ s2; exact ⟨_,_,rfl,hB⟩) (fun x3 xv6 st2 st' σ1 G M H N hm hj s1 ok hv hN=>?_) (fun σ1 G M H s1 ok hj=>?_)
   ·obtain ⟨y_place,y_name,rfl,hB⟩:=hj
    have h_peal:=aa s1 _ h_peal
    have sl7:=Same.refl G
    refine gr2 hv ok.g (fun w8 w9 hw10 hw11=>?_)
    refine gn ?_
    have h_place:=hw10
    cases h_place
    refine gn ?_
    have h_name:=hw11
    refine nrm (σ':=[some v_peal,some v_thing,some (.int x3.1),some w9]) rfl ?_
    obtain ⟨t12,e_t12,hm⟩:=bs hm
    refine q_if (et_or (et_not (et_B (ai (res:=fun r=>DD K (Dat.bool r)) (a:=x3.2) e_t12 (ae (eVd K h_name) ea_nil)))) fun _=>(et_B (lr (e:=Dat.int) (xs:=a.1.2.2.1) (eVd K h_name) (dD (d:=(eDS Dat.int) a.1.2.2.1) (i:=2) T.cl_Peal T.na_Peal_sizes (by decide +kernel) rfl (eVd K h_peal))))) ok (fun hb G H s1 ok=>?_) (fun hb G H s1 ok=>?_)
    ·have hm:=aK hb hm
     cases hm
    ·have hm:=aJ hb hm
     have sl7:=sl7.trans s1
     refine aV ?_
     refine bp ?_
     cases hm
     exact hN _ _ _ _ sl7 ok ⟨_,_,rfl,hB⟩
   ·obtain ⟨y_place,y_name,rfl,hB⟩:=hj
    have sg:=sg.trans s1
    refine bp ?_
    cases hm
    exact q _ _ _ sg (ok.less hB) .non
theorem wv : FnScope ["row","name","at"] ["row","name"] (defScope uk):=fsc
def De (K : Fg) (a : (List Str)×Str) : List V→Hp→Prop:=ak (DD K ((eT Dat.str) a.1)) (ak (DD K (Dat.str a.2)) (az))
def nN (a : (List Str)×Str) : Option ((List Str)×(List Str)):=
 (c8 a.2 a.1).bind fun t1=>(gH ([a.2] : (List Str)) (cut a.1 none (some (t1 : Int)))).bind fun t2=>(gH t2 (cut a.1 (some ((t1 : Int) + (1 : Int))) none)).bind fun t3=>some (t3,(cut a.1 none (some (t1 : Int))))
abbrev uu [Tb] (K : Fg) : Sp:=spP (De K) (nN) fun r=>DD K ((eP2 (eT Dat.str) (eT Dat.str)) r)
theorem Cd [Tb] (T : Txt K mg) : FnA P w base CX0 (1) T.w_Yz (uu K):=by
 refine T.w_Yz.F.ok wv (fun vs H Q E h=>?_) (fun cdv A outer s0 H vs Q E hr h=>?_)
 ·obtain ⟨G,M0,a,r,ok,⟨v_row,_,rfl,h_row,v_name,_,rfl,h_name,rfl⟩,hm,q⟩:=h
  rfl
 ·obtain ⟨G,M0,a,r,ok,⟨v_row,_,rfl,h_row,v_name,_,rfl,h_name,rfl⟩,hm,q⟩:=h
  unfold nN at hm
  have sg:=Same.refl G
  have hB:=Same.refl M0
  refine ⟨_,(pss_cons (ps_set (i:=2) wv.nd rfl (.inl rfl) (mZ (K:=K) PySem.F.plainAttrs_tuple PySem.F.slot_tuple_index PySem.F.type_tuple_index (iP (K:=K)) (pv 0) (pa_cons (pv 1) pa_nil))) (pss_cons (ps_ret (bE (pa_cons (pe_op (gS (K:=K)) (pe_op (gS (K:=K)) (bE (pa_cons (pv 1) pa_nil)) (pe_slice (cG (K:=K)) (pv 0) po_none (po_some (pv 2)))) (pe_slice (cG (K:=K)) (pv 0) (po_some (pe_op op_add (pv 2) pe_int)) po_none)) (pa_cons (pe_slice (cG (K:=K)) (pv 0) po_none (po_some (pv 2))) pa_nil)))) pss_nil)),?_⟩
  refine nrm (σ':=[some v_row,some v_name,none]) rfl ?_
  obtain ⟨t1,e_t1,hm⟩:=bs hm
  refine bT (σ':=fun v=>[some v_row,some v_name,some v]) (kO e_t1 (eVd K h_row) (ae (eVd K h_name) ea_nil)) ok (fun _=>rfl) (fun v_at_ G H s1 ok h_at_=>?_)
  have h_row:=aa s1 _ h_row
  have h_name:=aa s1 _ h_name
  have sg:=sg.trans s1
  cases h_at_
  obtain ⟨t2,e_t2,hm⟩:=bs hm
  obtain ⟨t3,e_t3,hm⟩:=bs hm
  refine aM (bV (ag (hZ (e:=Dat.str) e_t3 (hZ (e:=Dat.str) e_t2 (bV (ag (eVd K h_name) (aC (K:=K)))) (eJ (e:=Dat.str) (eVd K h_row) eo_none (eo_some (eVd K (.int _))))) (eJ (e:=Dat.str) (eVd K h_row) (eo_some (bh (eVd K (.int _)) (ab (K:=K)))) eo_none)) (ag (eJ (e:=Dat.str) (eVd K h_row) eo_none (eo_some (eVd K (.int _)))) (aC (K:=K))))) ok (fun v G H s1 ok hv=>?_)
  have sg:=sg.trans s1
  cases hm
  exact q v G H sg (ok.less hB) hv
theorem fB : FnScope ["peal","standing","name","row","ahead","found","dial","other","marks"] ["peal","standing","name"] (defScope mL):=fsc
def BX (K : Fg) (a : Qp×Qs×Str) : List V→Hp→Prop:=ak (DD K (bc a.1)) (ak (DD K ((eP2 (eT Dat.str) (eT Dat.int)) a.2.1)) (ak (DD K (Dat.str a.2.2)) (az)))
def jB (a : Qp×Qs×Str) : Option Qs:=
 (nN (a.2.1.1,a.2.2)).bind fun t1=>(cC (fun (st7 : (List Int)) (x8 : (Int×(Str×Int)))=>(cond (gI x8.2.1 t1.2) ((mC (a.1,a.2.2,x8.2.1)).bind fun t21=>(dr (x8.1 + t21) x8.2.2).bind fun t22=>some t22) (some x8.1)).bind fun t23=>(pU st7 t23).bind fun t24=>some t24) (a.2.1.2.zip a.1.1) ([] : (List Int))).bind fun fin6=>some (t1.1,fin6)
abbrev ue [Tb] (K : Fg) : Sp:=spP (BX K) (jB) fun r=>DD K ((eP2 (eT Dat.str) (eT Dat.int)) r)
theorem xP [Tb] (T : Txt K mg) (O_Yz : FnA P w base CX0 1 T.w_Yz (uu K)) (O_Yo : FnB P w base CX0 3 mg T.w_Yo (oR K)) : FnA P w base CX0 (4) T.w_Y1p (ue K):=by
 refine T.w_Y1p.F.ok fB (fun vs H Q E h=>?_) (fun cdv A outer s0 H vs Q E hr h=>?_)
 ·obtain ⟨G,M0,a,r,ok,⟨v_peal,_,rfl,h_peal,v_standing,_,rfl,h_standing,v_name,_,rfl,h_name,rfl⟩,hm,q⟩:=h
  rfl
 ·obtain ⟨G,M0,a,r,ok,⟨v_peal,_,rfl,h_peal,v_standing,_,rfl,h_standing,v_name,_,rfl,h_name,rfl⟩,hm,q⟩:=h
  unfold jB at hm
  have sg:=Same.refl G
  have hB:=Same.refl M0
  refine ⟨_,(pss_cons (ps_asg (pcW T.w_Yz O_Yz (hr.mono (by decide)) (pa_cons (pe_ix (ah (K:=K)) (pv 1) pe_int (fun _ _=>rfl)) (pa_cons (pv 2) pa_nil))) (pg_tup rfl (pgs_cons (pg_name (i:=3) fB.nd rfl (.inl rfl)) (pgs_cons (pg_name (i:=4) fB.nd rfl (.inl rfl)) pgs_nil)))) (pss_cons (ps_set (i:=5) fB.nd rfl (.inl rfl) (pe_lst pa_nil)) (pss_cons (ps_for PassesOwn.never rfl (lw (K:=K) true true (by rfl) T.n_zip (pa_cons (pe_ix (ah (K:=K)) (pv 1) pe_int (fun _ _=>rfl)) (pa_cons (cF (K:=K) (pv 0)) pa_nil))) (pg_tup rfl (pgs_cons (pg_name (i:=6) fB.nd rfl (.inl rfl)) (pgs_cons (pg_tup rfl (pgs_cons (pg_name (i:=7) fB.nd rfl (.inl rfl)) (pgs_cons (pg_name (i:=8) fB.nd rfl (.inl rfl)) pgs_nil))) pgs_nil))) (pss_cons (ps_expr (pe_bm PySem.F.plainAttrs_list PySem.F.slot_list_append PySem.F.type_list_append mt_append (pv 5) (pa_cons (pe_ifExp (pt_cmpR (oy (K:=K)) (pv 7) (pv 4) (by rfl)) (pe_op op_modN (pe_op op_add (pv 6) (pe_meth (pv 0) T.cl_Peal T.w_Yo.e O_Yo (hr.mono (by decide)) T.w_Yo.b .nil pass0 (pa_cons (pv 2) (pa_cons (pv 7) pa_nil)))) (pv 8)) (pv 6)) pa_nil))) pss_nil)) (pss_cons (ps_ret (bE (pa_cons (pv 3) (pa_cons (pe_callTy (bu (K:=K)) (by rfl) T.n_tuple (by decide +kernel) (pa_cons (pv 5) pa_nil)) pa_nil)))) pss_nil)))),?_⟩
  refine nrm (σ':=[some v_peal,some v_standing,some v_name,none,none,none,none,none,none]) rfl ?_
  obtain ⟨t1,e_t1,hm⟩:=bs hm
  refine og (ai (res:=fun r=>DD K ((eP2 (eT Dat.str) (eT Dat.str)) r)) (a:=(a.2.1.1,a.2.2)) e_t1 (ae (au (d:=(eT Dat.str) a.2.1.1) rfl (eVd K h_standing) ab) (ae (eVd K h_name) ea_nil))) ok (fun v G H s1 ok hv=>?_)
  have h_peal:=aa s1 _ h_peal
  have h_standing:=aa s1 _ h_standing
  have h_name:=aa s1 _ h_name
  have sg:=sg.trans s1
  refine gt2 hv ok.g (fun w2 w3 hw4 hw5=>?_)
  refine gn ?_
  have h_row:=hw4
  refine gn ?_
  have h_ahead:=hw5
  refine nrm (σ':=[some v_peal,some v_standing,some v_name,some w2,some w3,none,none,none,none]) rfl ?_
  refine q_setL (σ':=fun v=>[some v_peal,some v_standing,some v_name,some w2,some w3,some v,none,none,none]) (el_lst (aC (K:=K))) ok (fun _=>rfl) (fun p_found vs_found G H s1 ok hn hd_found=>?_)
  have h_peal:=aa s1 _ h_peal
  have h_standing:=aa s1 _ h_standing
  have h_name:=aa s1 _ h_name
  have h_row:=aa s1 _ h_row
  have h_ahead:=aa s1 _ h_ahead
  have sg:=sg.trans s1
  have h0_found : M0 p_found = none:=dG (M:=M0) hB hn
  have hd_found : ap K G vs_found (([] : (List Int)).map Dat.int):=hd_found
  have ok : Ok _ (upd M0 p_found (.lst vs_found)) _:=ok
  have hB : Same M0 (upd M0 p_found (.lst vs_found)):=(b9 hB h0_found)
  have hp_found : (upd M0 p_found (.lst vs_found)) p_found = some (.lst vs_found):=upd_same
  obtain ⟨M,eM⟩ : ∃ m,m = (upd M0 p_found (.lst vs_found)):=⟨_,rfl⟩
  rw [← eM] at ok hB hp_found
  clear eM
  obtain ⟨fin6,e_fin6,hm⟩:=bs hm
  refine bP (ea:=(eR2 Dat.int (eP2 Dat.str Dat.int))) (Src.is (mP (ka:=true) (kb:=true) (ae (au (d:=(eT Dat.int) a.2.1.2) rfl (eVd K h_standing) ab) (ae (dD (d:=(eT (eP2 Dat.str Dat.int)) a.1.1) (i:=0) T.cl_Peal T.na_Peal_bells (by decide +kernel) rfl (eVd K h_peal)) ea_nil))) mH) ok (fun (st7 : (List Int)) σ1 G1 M1=>∃ (y_dial : Option V) (y_other : Option V) (y_marks : Option V) (vs_found : List V),σ1 = [some v_peal,some v_standing,some v_name,some w2,some w3,some (.ref p_found),y_dial,y_other,y_marks]∧(ap K G1 vs_found (st7.map Dat.int))∧(M1 p_found = some (.lst vs_found))∧(Same M0 M1)) e_fin6 (fun G1 s1=>⟨_,_,_,_,rfl,aj s1 _ hd_found,hp_found,hB⟩) (by rintro _ _ _ _ _ ⟨y_dial,y_other,y_marks,vs_found,rfl,hd_found,hp_found,hB⟩ s2; exact ⟨_,_,_,_,rfl,aj s2 _ hd_found,hp_found,hB⟩) (fun x8 xv11 st7 st' σ1 G M H N hm hj s1 ok hv hN=>?_) (fun σ1 G M H s1 ok hj=>?_)
  ·obtain ⟨y_dial,y_other,y_marks,vs_found,rfl,hd_found,hp_found,hB⟩:=hj
   have h_peal:=aa s1 _ h_peal
   have h_name:=aa s1 _ h_name
   have h_ahead:=aa s1 _ h_ahead
   have sl12:=Same.refl G
   refine gr2 hv ok.g (fun w13 w14 hw15 hw16=>?_)
   refine gn ?_
   have h_dial:=hw15
   cases h_dial
   refine gt2 hw16 ok.g (fun w17 w18 hw19 hw20=>?_)
   refine gn ?_
   have h_other:=hw19
   refine gn ?_
   have h_marks:=hw20
   cases h_marks
   refine nrm (σ':=[some v_peal,some v_standing,some v_name,some w2,some w3,some (.ref p_found),some (.int x8.1),some w17,some (.int x8.2.2)]) rfl ?_
   obtain ⟨t23,e_t23,hm⟩:=bs hm
   obtain ⟨t24,e_t24,hm⟩:=bs hm
   obtain ⟨hl_t24,ea_t24⟩:=gM e_t24
   refine fG (aq rfl) (ae (ev_if (P:=DD K (Dat.int t23)) (et_test (qU (k:=true) (xs:=t1.2) (eVd K h_other) (eVd K h_ahead))) (fun eb=>by have e1:=aK eb e_t23; (obtain ⟨t21,e_t21,e1⟩:=bs e1); (obtain ⟨t22,e_t22,e1⟩:=bs e1); cases e1; exact (b0 e_t22 (bh (eVd K (.int _)) (eY (args:=qV K) (a:=(a.1,a.2.2,x8.2.1)) (by decide +kernel) rfl e_t21 (eVd K h_peal) (ae (eVd K h_name) (ae (eVd K h_other) ea_nil)))) (eVd K (.int _)))) (fun eb=>by have e1:=aJ eb e_t23; cases e1; exact (eVd K (.int _)))) ea_nil) hp_found hp_found (by rw [aw hd_found,List.length_map]; exact vp hl_t24) ok (fun v G H s1 ok hv=>?_)
   have hd_found:=aj s1 _ hd_found
   have sl12:=sl12.trans s1
   have hd_found : ap K G (vs_found ++ [v]) (t24.map Dat.int):=by rw [ea_t24,List.map_append]; exact bJ hd_found (.cons hv .nil)
   have ok : Ok _ (upd M p_found (.lst (vs_found ++ [v]))) _:=ok
   have hB : Same M0 (upd M p_found (.lst (vs_found ++ [v]))):=(b9 hB h0_found)
   have hp_found : (upd M p_found (.lst (vs_found ++ [v]))) p_found = some (.lst (vs_found ++ [v])):=upd_same
   obtain ⟨M,eM⟩ : ∃ m,m = (upd M p_found (.lst (vs_found ++ [v]))):=⟨_,rfl⟩
   rw [← eM] at ok hB hp_found
   clear eM
   obtain ⟨vs_found,e_vs⟩ : ∃ m,m = (vs_found ++ [v]):=⟨_,rfl⟩
   rw [← e_vs] at hp_found hd_found
   clear e_vs
   refine bp ?_
   cases hm
   exact hN _ _ _ _ sl12 ok ⟨_,_,_,_,rfl,hd_found,hp_found,hB⟩
  ·obtain ⟨y_dial,y_other,y_marks,vs_found,rfl,hd_found,hp_found,hB⟩:=hj
   have h_row:=aa s1 _ h_row
   have sg:=sg.trans s1
   refine aM (bV (ag (eVd K h_row) (ag (ki hp_found hd_found (ea_cons bo (aq rfl) ea_nil)) (aC (K:=K))))) ok (fun v G H s1 ok hv=>?_)
   have sg:=sg.trans s1
   cases hm
   exact q v G H sg (ok.less hB) hv
theorem nG : FnScope ["peal","standing","rings","name"] ["peal","standing","rings"] (defScope me):=fsc
def y8 (K : Fg) (a : Qp×Qs×(List Str)) : List V→Hp→Prop:=ak (DD K (bc a.1)) (ak (DD K ((eP2 (eT Dat.str) (eT Dat.int)) a.2.1)) (ak (DD K ((eT Dat.str) a.2.2)) (az)))
def mh (a : Qp×Qs×(List Str)) : Option Qs:=
 (cC (fun (st2 : Qs) (x3 : Str)=>(jB (a.1,st2,x3)).bind fun t8=>some t8) a.2.2 a.2.1).bind fun fin1=>some fin1
abbrev sZ [Tb] (K : Fg) : Sp:=spP (y8 K) (mh) fun r=>DD K ((eP2 (eT Dat.str) (eT Dat.int)) r)
theorem xX [Tb] (T : Txt K mg) (O_Y1p : FnA P w base CX0 4 T.w_Y1p (ue K)) : FnA P w base CX0 (5) T.w_Y1m (sZ K):=by
 refine T.w_Y1m.F.ok nG (fun vs H Q E h=>?_) (fun cdv A outer s0 H vs Q E hr h=>?_)
 ·obtain ⟨G,M0,a,r,ok,⟨v_peal,_,rfl,h_peal,v_standing,_,rfl,h_standing,v_rings,_,rfl,h_rings,rfl⟩,hm,q⟩:=h
  rfl
 ·obtain ⟨G,M0,a,r,ok,⟨v_peal,_,rfl,h_peal,v_standing,_,rfl,h_standing,v_rings,_,rfl,h_rings,rfl⟩,hm,q⟩:=h
  unfold mh at hm
  have sg:=Same.refl G
  have hB:=Same.refl M0
  refine ⟨_,(pss_cons (ps_for PassesOwn.never rfl (bf (K:=K) (pv 2)) (pg_name (i:=3) nG.nd rfl (.inl rfl)) (pss_cons (ps_set (i:=1) nG.nd rfl (.inl rfl) (pcW T.w_Y1p O_Y1p (hr.mono (by decide)) (pa_cons (pv 0) (pa_cons (pv 1) (pa_cons (pv 3) pa_nil))))) pss_nil)) (pss_cons (ps_ret (pv 1)) pss_nil)),?_⟩
  refine nrm (σ':=[some v_peal,some v_standing,some v_rings,none]) rfl ?_
  obtain ⟨fin1,e_fin1,hm⟩:=bs hm
  refine bP (ea:=Dat.str) (be (eVd K h_rings)) ok (fun (st2 : Qs) σ1 G1 M1=>∃ (y_name : Option V) (v_standing : V),σ1 = [some v_peal,some v_standing,some v_rings,y_name]∧(Dq K G1 v_standing ((eP2 (eT Dat.str) (eT Dat.int)) st2))∧(Same M0 M1)) e_fin1 (fun G1 s1=>⟨_,_,rfl,aa s1 _ h_standing,hB⟩) (by rintro _ _ _ _ _ ⟨y_name,v_standing,rfl,h_standing,hB⟩ s2; exact ⟨_,_,rfl,aa s2 _ h_standing,hB⟩) (fun x3 xv6 st2 st' σ1 G M H N hm hj s1 ok hv hN=>?_) (fun σ1 G M H s1 ok hj=>?_)
  ·obtain ⟨y_name,v_standing,rfl,h_standing,hB⟩:=hj
   have h_peal:=aa s1 _ h_peal
   have sl7:=Same.refl G
   refine gn ?_
   have h_name:=hv
   refine nrm (σ':=[some v_peal,some v_standing,some v_rings,some xv6]) rfl ?_
   obtain ⟨t8,e_t8,hm⟩:=bs hm
   refine bT (σ':=fun v=>[some v_peal,some v,some v_rings,some xv6]) (ai (res:=fun r=>DD K ((eP2 (eT Dat.str) (eT Dat.int)) r)) (a:=(a.1,st2,x3)) e_t8 (ae (eVd K h_peal) (ae (eVd K h_standing) (ae (eVd K h_name) ea_nil)))) ok (fun _=>rfl) (fun v_standing G H s1 ok h_standing=>?_)
   have sl7:=sl7.trans s1
   refine bp ?_
   cases hm
   exact hN _ _ _ _ sl7 ok ⟨_,_,rfl,h_standing,hB⟩
  ·obtain ⟨y_name,v_standing,rfl,h_standing,hB⟩:=hj
   have sg:=sg.trans s1
   refine aM (eVd K h_standing) ok (fun v G H s1 ok hv=>?_)
   have sg:=sg.trans s1
   cases hm
   exact q v G H sg (ok.less hB) hv
theorem vD : FnScope ["peal","standing","rings"] ["peal","standing","rings"] (defScope hU):=fsc
def yA (K : Fg) (a : Qp×Qs×(List Str)) : List V→Hp→Prop:=ak (DD K (bc a.1)) (ak (DD K ((eP2 (eT Dat.str) (eT Dat.int)) a.2.1)) (ak (DD K ((eT Dat.str) a.2.2)) (az)))
def gY (a : Qp×Qs×(List Str)) : Option Qs:=
 (jf a.1).bind fun t1=>(rQ (a.1,a.2.1)).bind fun t2=>(nP (a.1,a.2.2)).bind fun t3=>(mh (a.1,a.2.1,a.2.2)).bind fun t4=>some t4
abbrev oW [Tb] (K : Fg) : Sp:=spP (yA K) (gY) fun r=>DD K ((eP2 (eT Dat.str) (eT Dat.int)) r)
theorem vZ [Tb] (T : Txt K mg) (O_Yx : FnA P w base CX0 1 T.w_Yx (mJ K)) (O_Y7 : FnA P w base CX0 5 T.w_Y7 (wD K)) (O_Yl : FnA P w base CX0 2 T.w_Yl (rk K)) (O_Y1m : FnA P w base CX0 5 T.w_Y1m (sZ K)) : FnA P w base CX0 (6) T.w_gone (oW K):=by
 refine T.w_gone.F.ok vD (fun vs H Q E h=>?_) (fun cdv A outer s0 H vs Q E hr h=>?_)
 ·obtain ⟨G,M0,a,r,ok,⟨v_peal,_,rfl,h_peal,v_standing,_,rfl,h_standing,v_rings,_,rfl,h_rings,rfl⟩,hm,q⟩:=h
  rfl
 ·obtain ⟨G,M0,a,r,ok,⟨v_peal,_,rfl,h_peal,v_standing,_,rfl,h_standing,v_rings,_,rfl,h_rings,rfl⟩,hm,q⟩:=h
  unfold gY at hm
  have sg:=Same.refl G
  have hB:=Same.refl M0
  refine ⟨_,(pss_cons (ps_expr (pcW T.w_Yx O_Yx (hr.mono (by decide)) (pa_cons (pv 0) pa_nil))) (pss_cons (ps_expr (pcW T.w_Y7 O_Y7 (hr.mono (by decide)) (pa_cons (pv 0) (pa_cons (pv 1) pa_nil)))) (pss_cons (ps_expr (pcW T.w_Yl O_Yl (hr.mono (by decide)) (pa_cons (pv 0) (pa_cons (pv 2) pa_nil)))) (pss_cons (ps_ret (pcW T.w_Y1m O_Y1m (hr.mono (by decide)) (pa_cons (pv 0) (pa_cons (pv 1) (pa_cons (pv 2) pa_nil))))) pss_nil)))),?_⟩
  refine nrm (σ':=[some v_peal,some v_standing,some v_rings]) rfl ?_
  obtain ⟨t1,e_t1,hm⟩:=bs hm
  refine bX (ai (res:=fun r=>DD K (eN r)) (a:=a.1) e_t1 (ae (eVd K h_peal) ea_nil)) ok (fun G H s1 ok=>?_)
  have h_peal:=aa s1 _ h_peal
  have h_standing:=aa s1 _ h_standing
  have h_rings:=aa s1 _ h_rings
  have sg:=sg.trans s1
  obtain ⟨t2,e_t2,hm⟩:=bs hm
  refine bX (ai (res:=fun r=>DD K (eN r)) (a:=(a.1,a.2.1)) e_t2 (ae (eVd K h_peal) (ae (eVd K h_standing) ea_nil))) ok (fun G H s1 ok=>?_)
  have h_peal:=aa s1 _ h_peal
  have h_standing:=aa s1 _ h_standing
  have h_rings:=aa s1 _ h_rings
  have sg:=sg.trans s1
  obtain ⟨t3,e_t3,hm⟩:=bs hm
  refine bX (ai (res:=fun r=>DD K (eN r)) (a:=(a.1,a.2.2)) e_t3 (ae (eVd K h_peal) (ae (eVd K h_rings) ea_nil))) ok (fun G H s1 ok=>?_)
  have h_peal:=aa s1 _ h_peal
  have h_standing:=aa s1 _ h_standing
  have h_rings:=aa s1 _ h_rings
  have sg:=sg.trans s1
  obtain ⟨t4,e_t4,hm⟩:=bs hm
  refine aM (ai (res:=fun r=>DD K ((eP2 (eT Dat.str) (eT Dat.int)) r)) (a:=(a.1,a.2.1,a.2.2)) e_t4 (ae (eVd K h_peal) (ae (eVd K h_standing) (ae (eVd K h_rings) ea_nil)))) ok (fun v G H s1 ok hv=>?_)
  have sg:=sg.trans s1
  cases hm
  exact q v G H sg (ok.less hB) hv
theorem cg : FnScope ["peal","row","rings","names","found","name","ahead","other","at","one","two","many"] ["peal","row","rings"] (defScope gZ):=fsc
def Bo (K : Fg) (a : Qp×(List Str)×(List Str)) : List V→Hp→Prop:=ak (DD K (bc a.1)) (ak (DD K ((eT Dat.str) a.2.1)) (ak (DD K ((eT Dat.str) a.2.2)) (az)))
def lx (a : Qp×(List Str)×(List Str)) : Option (List (Str×Str×Int)):=
 (jf a.1).bind fun t1=>(fj (a.1,a.2.1)).bind fun t2=>(nP (a.1,a.2.2)).bind fun t3=>(lY a.1).bind fun t4=>(vN (fun x5 : (Int×Str)=>some (cut t4 (some (x5.1 + (1 : Int))) none)) (fun (x5 : (Int×Str)) (y13 : Str)=>some ((x5.2,y13),(0 : Int))) (dO t4)).bind fun t19=>(cC (fun (st21 : (List Str)×(List ((Str×Str)×Int))) (x22 : Str)=>(nN (st21.1,x22)).bind fun t27=>(cC (fun (st33 : (List ((Str×Str)×Int))) (x34 : Str)=>(bS st33 ((iS x22 x34),(iX x22 x34))).bind fun t39=>(fN st33 ((iS x22 x34),(iX x22 x34)) (t39 + (1 : Int))).bind fun t40=>some t40) t27.2 st21.2).bind fun fin32=>some (t27.1,fin32)) a.2.2 (a.2.1,t19)).bind fun fin20=>(lcO (fun x41 : ((Str×Str)×Int)=>some (x41.1.1,x41.1.2,x41.2)) fin20.2).bind fun t51=>some t51
abbrev qY [Tb] (K : Fg) : Sp:=spP (Bo K) (lx) fun r=>DD K ((eT (eP3 Dat.str Dat.str Dat.int)) r)
theorem xm [Tb] (T : Txt K mg) (O_Yx : FnA P w base CX0 1 T.w_Yx (mJ K)) (O_Y17 : FnA P w base CX0 3 T.w_Y17 (mR K)) (O_Yl : FnA P w base CX0 2 T.w_Yl (rk K)) (O_Yn : FnB P w base CX0 1 mg T.w_Yn (qZ K)) (O_Yz : FnA P w base CX0 1 T.w_Yz (uu K)) : FnA P w base CX0 (4) T.w_Y1u (qY K):=by
 refine T.w_Y1u.F.ok cg (fun vs H Q E h=>?_) (fun cdv A outer s0 H vs Q E hr h=>?_)
 ·obtain ⟨G,M0,a,r,ok,⟨v_peal,_,rfl,h_peal,v_row,_,rfl,h_row,v_rings,_,rfl,h_rings,rfl⟩,hm,q⟩:=h
  rfl
 ·obtain ⟨G,M0,a,r,ok,⟨v_peal,_,rfl,h_peal,v_row,_,rfl,h_row,v_rings,_,rfl,h_rings,rfl⟩,hm,q⟩:=h
  unfold lx at hm
  have sg:=Same.refl G
  have hB:=Same.refl M0
  refine ⟨_,(pss_cons (ps_expr (pcW T.w_Yx O_Yx (hr.mono (by decide)) (pa_cons (pv 0) pa_nil))) (pss_cons (ps_expr (pcW T.w_Y17 O_Y17 (hr.mono (by decide)) (pa_cons (pv 0) (pa_cons (pv 1) pa_nil)))) (pss_cons (ps_expr (pcW T.w_Yl O_Yl (hr.mono (by decide)) (pa_cons (pv 0) (pa_cons (pv 2) pa_nil)))) (pss_cons (ps_set (i:=3) cg.nd rfl (.inr rfl) (pe_meth0 (pv 0) T.cl_Peal T.w_Yn.e O_Yn (hr.mono (by decide)) T.w_Yn.b .nil pass0)) (pss_cons (pB (i:=4) (own:=[("at",8),("one",9),("two",10)]) (vs1:=[10]) (g:=(gTup K 2 (gCons (gName 8) (gCons (gName 9) gNil)))) (g1:=(gName 10)) (hu_of hr) rfl cg.nd rfl rfl (qW rfl rfl rfl (by decide +kernel)) (dn (K:=K) (by rfl) T.n_enumerate (pa_cons (pv 3) pa_nil)) (blkOk_by (own:=[("at",8),("one",9),("two",10)]) (N:=["peal","row","rings","names","found","name","ahead","other","at","one","two","many"]) (sc:=defScope gZ) (by decide +kernel)) (by decide) (fun _ _ _ _ _=>(pg_tup rfl (pgs_cons (pg_name (i:=8) cg.nd rfl (by first | exact .inl rfl | exact .inr rfl)) (pgs_cons (pg_name (i:=9) cg.nd rfl (by first | exact .inl rfl | exact .inr rfl)) pgs_nil)))) (fun _ _ _ _ _=>(bf (K:=K) (pe_slice (cG (K:=K)) (pv 3) (po_some (pe_op op_add (pv 8) pe_int)) po_none))) (fun _ _ _ _ _=>(pg_name (i:=10) cg.nd rfl (by first | exact .inl rfl | exact .inr rfl))) (fun _ _ _ _ _=>(pe_tup (pa_cons (pv 9) (pa_cons (pv 10) pa_nil)))) (fun _ _ _ _ _=>pe_int)) (pss_cons (ps_for PassesOwn.never rfl (bf (K:=K) (pv 2)) (pg_name (i:=5) cg.nd rfl (.inl rfl)) (pss_cons (ps_asg (pcW T.w_Yz O_Yz (hr.mono (by decide)) (pa_cons (pv 1) (pa_cons (pv 5) pa_nil))) (pg_tup rfl (pgs_cons (pg_name (i:=1) cg.nd rfl (.inl rfl)) (pgs_cons (pg_name (i:=6) cg.nd rfl (.inl rfl)) pgs_nil)))) (pss_cons (ps_for PassesOwn.never rfl (bf (K:=K) (pv 6)) (pg_name (i:=7) cg.nd rfl (.inl rfl)) (pss_cons (ps_daug (hu_of hr) (pv 4) (pe_tup (pa_cons (pe_callB (wd rfl) (by rfl) T.n_min (by decide +kernel) (pa_cons (pv 5) (pa_cons (pv 7) pa_nil))) (pa_cons (pe_callB (uV rfl) (by rfl) T.n_max (by decide +kernel) (pa_cons (pv 5) (pa_cons (pv 7) pa_nil))) pa_nil))) pe_int in_add (fun _ _ _=>rfl)) pss_nil)) pss_nil))) (pss_cons (ps_ret (pe_callTy (bu (K:=K)) (by rfl) T.n_tuple (by decide +kernel) (pa_cons (pe_lock (pe_lc (own:=[("one",9),("two",10),("many",11)]) (g:=(gTup K 2 (gCons (gTup K 2 (gCons (gName 9) (gCons (gName 10) gNil))) (gCons (gName 11) gNil)))) (tt:=tYes) rfl cg.nd (qb (pv 4)) (blkOk_by (own:=[("one",9),("two",10),("many",11)]) (N:=["peal","row","rings","names","found","name","ahead","other","at","one","two","many"]) (sc:=defScope gZ) (by decide +kernel)) (fun _ _ _ _ _=>(pg_tup rfl (pgs_cons (pg_tup rfl (pgs_cons (pg_name (i:=9) cg.nd rfl (by first | exact .inl rfl | exact .inr rfl)) (pgs_cons (pg_name (i:=10) cg.nd rfl (by first | exact .inl rfl | exact .inr rfl)) pgs_nil))) (pgs_cons (pg_name (i:=11) cg.nd rfl (by first | exact .inl rfl | exact .inr rfl)) pgs_nil)))) (fun _ _ _ _ _=>pts_nil) (fun _ _ _ _ _=>(bE (pa_cons (pv 9) (pa_cons (pv 10) (pa_cons (pv 11) pa_nil))))))) pa_nil))) pss_nil))))))),?_⟩
  refine nrm (σ':=[some v_peal,some v_row,some v_rings,none,none,none,none,none,none,none,none,none]) rfl ?_
  obtain ⟨t1,e_t1,hm⟩:=bs hm
  refine bX (ai (res:=fun r=>DD K (eN r)) (a:=a.1) e_t1 (ae (eVd K h_peal) ea_nil)) ok (fun G H s1 ok=>?_)
  have h_peal:=aa s1 _ h_peal
  have h_row:=aa s1 _ h_row
  have h_rings:=aa s1 _ h_rings
  have sg:=sg.trans s1
  obtain ⟨t2,e_t2,hm⟩:=bs hm
  refine bX (ai (res:=fun r=>DD K (eN r)) (a:=(a.1,a.2.1)) e_t2 (ae (eVd K h_peal) (ae (eVd K h_row) ea_nil))) ok (fun G H s1 ok=>?_)
  have h_peal:=aa s1 _ h_peal
  have h_row:=aa s1 _ h_row
  have h_rings:=aa s1 _ h_rings
  have sg:=sg.trans s1
  obtain ⟨t3,e_t3,hm⟩:=bs hm
  refine bX (ai (res:=fun r=>DD K (eN r)) (a:=(a.1,a.2.2)) e_t3 (ae (eVd K h_peal) (ae (eVd K h_rings) ea_nil))) ok (fun G H s1 ok=>?_)
  have h_peal:=aa s1 _ h_peal
  have h_row:=aa s1 _ h_row
  have h_rings:=aa s1 _ h_rings
  have sg:=sg.trans s1
  obtain ⟨t4,e_t4,hm⟩:=bs hm
  refine bT (σ':=fun v=>[some v_peal,some v_row,some v_rings,some v,none,none,none,none,none,none,none,none]) (eY (args:=xR K) (a:=a.1) (by decide +kernel) rfl e_t4 (eVd K h_peal) ea_nil) ok (fun _=>rfl) (fun v_names G H s1 ok h_names=>?_)
  have h_row:=aa s1 _ h_row
  have h_rings:=aa s1 _ h_rings
  have sg:=sg.trans s1
  obtain ⟨t19,e_t19,hm⟩:=bs hm
  refine xf (σ':=fun v=>[some v_peal,some v_row,some v_rings,some v_names,some v,none,none,none,none,none,none,none]) (yt (e:=Dat.int) (ea:=(eR2 Dat.int Dat.str)) (ec:=Dat.str) (xs:=(dO t4)) (hf:=e_t19) (Src.is (dm (ae (eVd K h_names) ea_nil)) dv) (fun x5 _ Mx9 _ _ he10 sM8 sG7 hv6=>by cases he10; exact (mz hv6 fun _ _ h11 h12=>(ay (ay ⟨rfl,(be (eJ (e:=Dat.str) (eVd K (aa sG7 _ h_names)) (eo_some (bh (eVd K h11) (ab (K:=K)))) eo_none)),(fun y13 _ Mx17 _ _ he18 sM16 sG15 hv14=>by cases he18; exact (ay ⟨rfl,(c4 (ag (eVd K (aa sG15 _ h12)) (ag (eVd K hv14) (aC (K:=K))))),(ab (K:=K))⟩))⟩))))) ok (fun _=>rfl) (fun p_found vs_found G H s1 ok hn hd_found=>?_)
  have h_row:=aa s1 _ h_row
  have h_rings:=aa s1 _ h_rings
  have sg:=sg.trans s1
  have h0_found : M0 p_found = none:=dG (M:=M0) hB hn
  have hd_found : c9 K G Dat.int vs_found t19:=hd_found
  have ok : Ok _ (upd M0 p_found (.dT vs_found)) _:=ok
  have hB : Same M0 (upd M0 p_found (.dT vs_found)):=(b9 hB h0_found)
  have hp_found : (upd M0 p_found (.dT vs_found)) p_found = some (.dT vs_found):=upd_same
  obtain ⟨M,eM⟩ : ∃ m,m = (upd M0 p_found (.dT vs_found)):=⟨_,rfl⟩
  rw [← eM] at ok hB hp_found
  clear eM
  obtain ⟨fin20,e_fin20,hm⟩:=bs hm
  refine bP (ea:=Dat.str) (be (eVd K h_rings)) ok (fun (st21 : (List Str)×(List ((Str×Str)×Int))) σ1 G1 M1=>∃ (y_ahead : Option V) (y_other : Option V) (y_name : Option V) (v_row : V) (vs_found : List (List Key×V)),σ1 = [some v_peal,some v_row,some v_rings,some v_names,some (.ref p_found),y_name,y_ahead,y_other,none,none,none,none]∧(Dq K G1 v_row ((eT Dat.str) st21.1))∧(c9 K G1 Dat.int vs_found st21.2)∧(M1 p_found = some (.dT vs_found))∧(Same M0 M1)) e_fin20 (fun G1 s1=>⟨_,_,_,_,_,rfl,aa s1 _ h_row,c9.up s1 hd_found,hp_found,hB⟩) (by rintro _ _ _ _ _ ⟨y_ahead,y_other,y_name,v_row,vs_found,rfl,h_row,hd_found,hp_found,hB⟩ s2; exact ⟨_,_,_,_,_,rfl,aa s2 _ h_row,c9.up s2 hd_found,hp_found,hB⟩) (fun x22 xv25 st21 st' σ1 G M H N hm hj s1 ok hv hN=>?_) (fun σ1 G M H s1 ok hj=>?_)
  ·obtain ⟨y_ahead,y_other,y_name,v_row,vs_found,rfl,h_row,hd_found,hp_found,hB⟩:=hj
   have sl26:=Same.refl G
   refine gn ?_
   have h_name:=hv
   refine nrm (σ':=[some v_peal,some v_row,some v_rings,some v_names,some (.ref p_found),some xv25,y_ahead,y_other,none,none,none,none]) rfl ?_
   obtain ⟨t27,e_t27,hm⟩:=bs hm
   refine og (ai (res:=fun r=>DD K ((eP2 (eT Dat.str) (eT Dat.str)) r)) (a:=(st21.1,x22)) e_t27 (ae (eVd K h_row) (ae (eVd K h_name) ea_nil))) ok (fun v G H s1 ok hv=>?_)
   have h_row:=aa s1 _ h_row
   have hd_found:=c9.up s1 hd_found
   have h_name:=aa s1 _ h_name
   have sl26:=sl26.trans s1
   refine gt2 hv ok.g (fun w28 w29 hw30 hw31=>?_)
   refine gn ?_
   have h_row:=hw30
   refine gn ?_
   have h_ahead:=hw31
   refine nrm (σ':=[some v_peal,some w28,some v_rings,some v_names,some (.ref p_found),some xv25,some w29,y_other,none,none,none,none]) rfl ?_
   obtain ⟨fin32,e_fin32,hm⟩:=bs hm
   refine bP (ea:=Dat.str) (be (eVd K h_ahead)) ok (fun (st33 : (List ((Str×Str)×Int))) σ1 G1 M1=>∃ (y_other : Option V) (vs_found : List (List Key×V)),σ1 = [some v_peal,some w28,some v_rings,some v_names,some (.ref p_found),some xv25,some w29,y_other,none,none,none,none]∧(c9 K G1 Dat.int vs_found st33)∧(M1 p_found = some (.dT vs_found))∧(Same M0 M1)) e_fin32 (fun G1 s1=>⟨_,_,rfl,c9.up s1 hd_found,hp_found,hB⟩) (by rintro _ _ _ _ _ ⟨y_other,vs_found,rfl,hd_found,hp_found,hB⟩ s2; exact ⟨_,_,rfl,c9.up s2 hd_found,hp_found,hB⟩) (fun x34 xv37 st33 st' σ1 G M H N hm hj s1 ok hv hN=>?_) (fun σ1 G M H s1 ok hj=>?_)
   ·obtain ⟨y_other,vs_found,rfl,hd_found,hp_found,hB⟩:=hj
    have h_name:=aa s1 _ h_name
    have sl38:=Same.refl G
    refine gn ?_
    have h_other:=hv
    refine nrm (σ':=[some v_peal,some w28,some v_rings,some v_names,some (.ref p_found),some xv25,some w29,some xv37,none,none,none,none]) rfl ?_
    obtain ⟨t39,e_t39,hm⟩:=bs hm
    obtain ⟨t40,e_t40,hm⟩:=bs hm
    refine wg e_t39 e_t40 (aq rfl) (c4 (ag (vL (ae (eVd K h_name) (ae (eVd K h_other) ea_nil))) (ag (vK (ae (eVd K h_name) (ae (eVd K h_other) ea_nil))) (aC (K:=K))))) hp_found (ab (K:=K)) hp_found hd_found ok (fun vs_found G H s1 ok hd=>?_)
    have hd_found:=hd
    have sl38:=sl38.trans s1
    have ok : Ok _ (upd M p_found (.dT vs_found)) _:=ok
    have hB : Same M0 (upd M p_found (.dT vs_found)):=(b9 hB h0_found)
    have hp_found : (upd M p_found (.dT vs_found)) p_found = some (.dT vs_found):=upd_same
    obtain ⟨M,eM⟩ : ∃ m,m = (upd M p_found (.dT vs_found)):=⟨_,rfl⟩
    rw [← eM] at ok hB hp_found
    clear eM
    refine bp ?_
    cases hm
    exact hN _ _ _ _ sl38 ok ⟨_,_,rfl,hd_found,hp_found,hB⟩
   ·obtain ⟨y_other,vs_found,rfl,hd_found,hp_found,hB⟩:=hj
    have h_row:=aa s1 _ h_row
    have sl26:=sl26.trans s1
    refine bp ?_
    cases hm
    exact hN _ _ _ _ sl26 ok ⟨_,_,_,_,_,rfl,h_row,hd_found,hp_found,hB⟩
  ·obtain ⟨y_ahead,y_other,y_name,v_row,vs_found,rfl,h_row,hd_found,hp_found,hB⟩:=hj
   have sg:=sg.trans s1
   refine wU ok hp_found h0_found hB (fun G s1 hg ok=>?_)
   have hd_found:=c9.up s1 hd_found
   have sg:=sg.trans s1
   have hG_found:=hg
   have kr_found:=hd_found.1
   have okk_found:=hd_found.2
   have hB : Same M0 M0:=Same.refl _
   obtain ⟨t51,e_t51,hm⟩:=bs hm
   refine aM (cx (ae (EvL.ev (vd hG_found (.inr (.inl ⟨_,rfl⟩)) (fun od=>(bj (ea:=(eR2 (eR2 Dat.str Dat.str) Dat.int)) (eb:=(eP3 Dat.str Dat.str Dat.int)) (xs:=fin20.2) (ys:=t51) (hf:=e_t51) (nE upd_same (aY.sw (v7 (o:=od) (.inr (.inl ⟨_,rfl⟩)) hG_found) kr_found) okk_found (aq rfl)) (fun x41 _ Mx45 _ _ he46 sM44 sG43 hv42=>by cases he46; exact (mz hv42 fun _ _ h47 h48=>(mz h47 fun _ _ h49 h50=>(ay (ay (ay ⟨rfl,(bV (ag (eVd K h49) (ag (eVd K h50) (ag (eVd K h48) (aC (K:=K))))))⟩)))))))))) ea_nil)) ok (fun v G H s1 ok hv=>?_)
   have sg:=sg.trans s1
   cases hm
   exact q v G H sg (ok.less hB) hv
theorem iU : FnScope ["row","at","name","other"] ["row"] (defScope jx):=fsc
def Bm (K : Fg) (a : (List Str)) : List V→Hp→Prop:=ak (DD K ((eT Dat.str) a)) (az)
def jD (a : (List Str)) : Option (List (Str×Str)):=
 (sY (fun x1 : (Int×Str)=>some (cut a (some (x1.1 + (1 : Int))) none)) (fun (x1 : (Int×Str)) (y9 : Str)=>some (x1.2,y9)) (dO a)).bind fun t15=>some t15
abbrev tu [Tb] (K : Fg) : Sp:=spP (Bm K) (jD) fun r=>DD K ((eL (eP2 Dat.str Dat.str)) r)
theorem xo [Tb] (T : Txt K mg) : FnA P w base CX0 (1) T.w_Y1d (tu K):=by
 refine T.w_Y1d.F.ok iU (fun vs H Q E h=>?_) (fun cdv A outer s0 H vs Q E hr h=>?_)
 ·obtain ⟨G,M0,a,r,ok,⟨v_row,_,rfl,h_row,rfl⟩,hm,q⟩:=h
  rfl
 ·obtain ⟨G,M0,a,r,ok,⟨v_row,_,rfl,h_row,rfl⟩,hm,q⟩:=h
  unfold jD at hm
  have sg:=Same.refl G
  have hB:=Same.refl M0
  refine ⟨_,(pss_cons (ps_ret (pe_lc2 (own:=[("at",1),("name",2),("other",3)]) (vs1:=[3]) (g:=(gTup K 2 (gCons (gName 1) (gCons (gName 2) gNil)))) (g1:=(gName 3)) (tt:=tYes) (tt1:=tYes) rfl iU.nd (dn (K:=K) (by rfl) T.n_enumerate (pa_cons (pv 0) pa_nil)) (blkOk_by (own:=[("at",1),("name",2),("other",3)]) (N:=["row","at","name","other"]) (sc:=defScope jx) (by decide +kernel)) (by decide) (fun _ _ _ _ _=>(pg_tup rfl (pgs_cons (pg_name (i:=1) iU.nd rfl (by first | exact .inl rfl | exact .inr rfl)) (pgs_cons (pg_name (i:=2) iU.nd rfl (by first | exact .inl rfl | exact .inr rfl)) pgs_nil)))) (fun _ _ _ _ _=>pts_nil) (fun _ _ _ _ _=>(bf (K:=K) (pe_slice (cG (K:=K)) (pv 0) (po_some (pe_op op_add (pv 1) pe_int)) po_none))) (fun _ _ _ _ _=>(pg_name (i:=3) iU.nd rfl (by first | exact .inl rfl | exact .inr rfl))) (fun _ _ _ _ _=>pts_nil) (fun _ _ _ _ _=>(bE (pa_cons (pv 2) (pa_cons (pv 3) pa_nil)))))) pss_nil),?_⟩
  refine nrm (σ':=[some v_row,none,none,none]) rfl ?_
  obtain ⟨t15,e_t15,hm⟩:=bs hm
  refine aM (EvL.ev (uX (ea:=(eR2 Dat.int Dat.str)) (ec:=Dat.str) (eb:=(eP2 Dat.str Dat.str)) (xs:=(dO a)) (hf:=e_t15) (Src.is (dm (ae (eVd K h_row) ea_nil)) dv) (fun x1 _ Mx5 _ _ he6 sM4 sG3 hv2=>by cases he6; exact (mz hv2 fun _ _ h7 h8=>(ay (ay ⟨rfl,(be (eJ (e:=Dat.str) (eVd K (aa sG3 _ h_row)) (eo_some (bh (eVd K h7) (ab (K:=K)))) eo_none)),(fun y9 _ Mx13 _ _ he14 sM12 sG11 hv10=>by cases he14; exact (ay ⟨rfl,(bV (ag (eVd K (aa sG11 _ h8)) (ag (eVd K hv10) (aC (K:=K)))))⟩))⟩)))))) ok (fun v G H s1 ok hv=>?_)
  have sg:=sg.trans s1
  cases hm
  exact q v G H sg (ok.less hB) hv
theorem kM : FnScope ["peal","turned","name","marks"] ["peal","turned"] (defScope jn):=fsc
def zz (K : Fg) (a : Qp×(List (Str×Int))) : List V→Hp→Prop:=ak (DD K (bc a.1)) (ak (DD K ((eDS Dat.int) a.2)) (az))
def jm (a : Qp×(List (Str×Int))) : Option (List Int):=
 (lcO (fun x1 : (Str×Int)=>(dr (bt a.2 x1.1 (0 : Int)) x1.2).bind fun t9=>some t9) a.1.1).bind fun t10=>some t10
abbrev nB [Tb] (K : Fg) : Sp:=spP (zz K) (jm) fun r=>DD K ((eT Dat.int) r)
theorem yS [Tb] (T : Txt K mg) : FnA P w base CX0 (1) T.w_Y1e (nB K):=by
 refine T.w_Y1e.F.ok kM (fun vs H Q E h=>?_) (fun cdv A outer s0 H vs Q E hr h=>?_)
 ·obtain ⟨G,M0,a,r,ok,⟨v_peal,_,rfl,h_peal,v_turned,_,rfl,h_turned,rfl⟩,hm,q⟩:=h
  rfl
 ·obtain ⟨G,M0,a,r,ok,⟨v_peal,_,rfl,h_peal,v_turned,_,rfl,h_turned,rfl⟩,hm,q⟩:=h
  unfold jm at hm
  have sg:=Same.refl G
  have hB:=Same.refl M0
  refine ⟨_,(pss_cons (ps_ret (pe_callTy (bu (K:=K)) (by rfl) T.n_tuple (by decide +kernel) (pa_cons (pe_lc (own:=[("name",2),("marks",3)]) (g:=(gTup K 2 (gCons (gName 2) (gCons (gName 3) gNil)))) (tt:=tYes) rfl kM.nd (bf (K:=K) (cF (K:=K) (pv 0))) (blkOk_by (own:=[("name",2),("marks",3)]) (N:=["peal","turned","name","marks"]) (sc:=defScope jn) (by decide +kernel)) (fun _ _ _ _ _=>(pg_tup rfl (pgs_cons (pg_name (i:=2) kM.nd rfl (by first | exact .inl rfl | exact .inr rfl)) (pgs_cons (pg_name (i:=3) kM.nd rfl (by first | exact .inl rfl | exact .inr rfl)) pgs_nil)))) (fun _ _ _ _ _=>pts_nil) (fun _ _ _ _ _=>(pe_op op_modN (pe_dget2 (hu_of hr) (pv 1) (pv 2) pe_int ⟨rfl,rfl,rfl,rfl⟩) (pv 3)))) pa_nil))) pss_nil),?_⟩
  refine nrm (σ':=[some v_peal,some v_turned,none,none]) rfl ?_
  obtain ⟨t10,e_t10,hm⟩:=bs hm
  refine aM (cx (ae (EvL.ev (bj (ea:=(eP2 Dat.str Dat.int)) (eb:=Dat.int) (xs:=a.1.1) (ys:=t10) (hf:=e_t10) (be (dD (d:=(eT (eP2 Dat.str Dat.int)) a.1.1) (i:=0) T.cl_Peal T.na_Peal_bells (by decide +kernel) rfl (eVd K h_peal))) (fun x1 _ Mx5 _ _ he6 sM4 sG3 hv2=>by (obtain ⟨t9,e_t9,he6⟩:=bs he6); (have he6:=Option.some.inj he6); subst he6; exact (ua hv2 fun _ _ h7 h8=>(ay (ay ⟨rfl,(b0 e_t9 (pp (e:=Dat.int) (xs:=a.2) (k:=x1.1) (z:=(0 : Int)) (eVd K (aa sG3 _ h_turned)) (eVd K h7) (ab (K:=K))) (eVd K h8))⟩)))))) ea_nil)) ok (fun v G H s1 ok hv=>?_)
  have sg:=sg.trans s1
  cases hm
  exact q v G H sg (ok.less hB) hv
theorem ko : FnScope ["peal","row","other","turned","stood","name","last"] ["peal","row","other"] (defScope ly):=fsc
def Ba (K : Fg) (a : Qp×(List Str)×(List Str)) : List V→Hp→Prop:=ak (DD K (bc a.1)) (ak (DD K ((eT Dat.str) a.2.1)) (ak (DD K ((eT Dat.str) a.2.2)) (az)))
def gU (a : Qp×(List Str)×(List Str)) : Option (List Int):=
 (jD a.2.1).bind fun t1=>(jD a.2.2).bind fun t2=>(cC (fun (st4 : (List (Str×Int))) (x5 : (Str×Str))=>cond (!gI (x5.1,x5.2) t1) ((mC (a.1,x5.1,x5.2)).bind fun t14=>(fN st4 x5.2 ((bt st4 x5.2 (0 : Int)) + t14)).bind fun t15=>some t15) (some st4)) t2 ([] : List (Str×Int))).bind fun fin3=>(jm (a.1,fin3)).bind fun t16=>some t16
abbrev rN [Tb] (K : Fg) : Sp:=spP (Ba K) (gU) fun r=>DD K ((eT Dat.int) r)
theorem yQ [Tb] (T : Txt K mg) (O_Y1d : FnA P w base CX0 1 T.w_Y1d (tu K)) (O_Yo : FnB P w base CX0 3 mg T.w_Yo (oR K)) (O_Y1e : FnA P w base CX0 1 T.w_Y1e (nB K)) : FnA P w base CX0 (4) T.w_Y16 (rN K):=by
 refine T.w_Y16.F.ok ko (fun vs H Q E h=>?_) (fun cdv A outer s0 H vs Q E hr h=>?_)
 ·obtain ⟨G,M0,a,r,ok,⟨v_peal,_,rfl,h_peal,v_row,_,rfl,h_row,v_other,_,rfl,h_other,rfl⟩,hm,q⟩:=h
  rfl
 ·obtain ⟨G,M0,a,r,ok,⟨v_peal,_,rfl,h_peal,v_row,_,rfl,h_row,v_other,_,rfl,h_other,rfl⟩,hm,q⟩:=h
  unfold gU at hm
  have sg:=Same.refl G
  have hB:=Same.refl M0
  refine ⟨_,(pss_cons (ps_par (i:=3) (j:=4) rfl ko.nd rfl rfl (by decide) rfl rfl (pa_cons pe_dnewK (pa_cons (pcW T.w_Y1d O_Y1d (hr.mono (by decide)) (pa_cons (pv 1) pa_nil)) pa_nil)) (by rfl)) (pss_cons (ps_for PassesOwn.never rfl (cR (K:=K) (pcW T.w_Y1d O_Y1d (hr.mono (by decide)) (pa_cons (pv 2) pa_nil))) (pg_tup rfl (pgs_cons (pg_name (i:=5) ko.nd rfl (.inl rfl)) (pgs_cons (pg_name (i:=6) ko.nd rfl (.inl rfl)) pgs_nil))) (pss_cons (ps_if (pt_cmpR (nS (K:=K) hr.un65) (bE (pa_cons (pv 5) (pa_cons (pv 6) pa_nil))) (pv 4) (by rfl)) (pss_cons (ps_dput (hu_of hr) (pv 3) (pv 6) (pe_op op_add (pe_dget2 (hu_of hr) (pv 3) (pv 6) pe_int ⟨rfl,rfl,rfl,rfl⟩) (pe_meth (pv 0) T.cl_Peal T.w_Yo.e O_Yo (hr.mono (by decide)) T.w_Yo.b .nil pass0 (pa_cons (pv 5) (pa_cons (pv 6) pa_nil)))) rfl) pss_nil) pss_nil) pss_nil)) (pss_cons (ps_ret (pcW T.w_Y1e O_Y1e (hr.mono (by decide)) (pa_cons (pv 0) (pa_cons (pv 3) pa_nil)))) pss_nil))),?_⟩
  refine nrm (σ':=[some v_peal,some v_row,some v_other,none,none,none,none]) rfl ?_
  obtain ⟨t1,e_t1,hm⟩:=bs hm
  refine tU (C5 (xp (K:=K) (e:=Dat.int)) fun p_turned vs_turned hn_turned=>(ng aQ (ai (res:=fun r=>DD K ((eL (eP2 Dat.str Dat.str)) r)) (a:=a.2.1) e_t1 (ae (eVd K h_row) ea_nil)) j6)) ok (fun vs G Mq H s1 okN hx=>?_)
  obtain ⟨p_turned,vs_turned,_,rfl,hn_turned,hd_turned,v_stood,_,rfl,h_stood,rfl,eMq⟩:=hx
  have eMq:=eMq.symm
  subst eMq
  have ok:=okN
  refine ⟨_,_,rfl,?_⟩
  have h_peal:=aa s1 _ h_peal
  have h_other:=aa s1 _ h_other
  have sg:=sg.trans s1
  have h0_turned : M0 p_turned = none:=dG (M:=M0) hB hn_turned
  have hd_turned : KOk K G Dat.int vs_turned ([] : List (Str×Int)):=hd_turned
  refine nrm (σ':=[some v_peal,some v_row,some v_other,some (.ref p_turned),some v_stood,none,none]) rfl ?_
  have ok : Ok _ (upd M0 p_turned (.dK vs_turned)) _:=ok
  have hB : Same M0 (upd M0 p_turned (.dK vs_turned)):=(b9 hB h0_turned)
  have hp_turned : (upd M0 p_turned (.dK vs_turned)) p_turned = some (.dK vs_turned):=upd_same
  obtain ⟨M,eM⟩ : ∃ m,m = (upd M0 p_turned (.dK vs_turned)):=⟨_,rfl⟩
  rw [← eM] at ok hB hp_turned
  clear eM
  obtain ⟨t2,e_t2,hm⟩:=bs hm
  obtain ⟨fin3,e_fin3,hm⟩:=bs hm
  refine bP (ea:=(eP2 Dat.str Dat.str)) (src_list (ai (res:=fun r=>DD K ((eL (eP2 Dat.str Dat.str)) r)) (a:=a.2.2) e_t2 (ae (eVd K h_other) ea_nil))) ok (fun (st4 : (List (Str×Int))) σ1 G1 M1=>∃ (y_name : Option V) (y_last : Option V) (vs_turned : List (Key×V)),σ1 = [some v_peal,some v_row,some v_other,some (.ref p_turned),some v_stood,y_name,y_last]∧(KOk K G1 Dat.int vs_turned st4)∧(M1 p_turned = some (.dK vs_turned))∧(Same M0 M1)) e_fin3 (fun G1 s1=>⟨_,_,_,rfl,KOk.up s1 hd_turned,hp_turned,hB⟩) (by rintro _ _ _ _ _ ⟨y_name,y_last,vs_turned,rfl,hd_turned,hp_turned,hB⟩ s2; exact ⟨_,_,_,rfl,KOk.up s2 hd_turned,hp_turned,hB⟩) (fun x5 xv8 st4 st' σ1 G M H N hm hj s1 ok hv hN=>?_) (fun σ1 G M H s1 ok hj=>?_)
  ·obtain ⟨y_name,y_last,vs_turned,rfl,hd_turned,hp_turned,hB⟩:=hj
   have h_peal:=aa s1 _ h_peal
   have h_stood:=aa s1 _ h_stood
   have sl9:=Same.refl G
   refine gt2 hv ok.g (fun w10 w11 hw12 hw13=>?_)
   refine gn ?_
   have h_name:=hw12
   refine gn ?_
   have h_last:=hw13
   refine nrm (σ':=[some v_peal,some v_row,some v_other,some (.ref p_turned),some v_stood,some w10,some w11]) rfl ?_
   refine q_if (et_test (pV (e:=(eP2 Dat.str Dat.str)) (x:=(x5.1,x5.2)) (xs:=t1) (yP fT fT) (by decide) (bV (ag (eVd K h_name) (ag (eVd K h_last) (aC (K:=K))))) (eVd K h_stood))) ok (fun hb G H s1 ok=>?_) (fun hb G H s1 ok=>?_)
   ·have hm:=aK hb hm
    have h_peal:=aa s1 _ h_peal
    have hd_turned:=KOk.up s1 hd_turned
    have h_name:=aa s1 _ h_name
    have h_last:=aa s1 _ h_last
    have sl9:=sl9.trans s1
    obtain ⟨t14,e_t14,hm⟩:=bs hm
    obtain ⟨t15,e_t15,hm⟩:=bs hm
    refine sT (e:=Dat.int) e_t15 (bh (qf (e:=Dat.int) (xs:=st4) (z:=(0 : Int)) hp_turned hp_turned hd_turned (aq rfl) (eVd K h_last) (ab (K:=K))) (eY (args:=qV K) (a:=(a.1,x5.1,x5.2)) (by decide +kernel) rfl e_t14 (eVd K h_peal) (ae (eVd K h_name) (ae (eVd K h_last) ea_nil)))) (aq rfl) (eVd K h_last) hp_turned hd_turned ok (fun vs_turned G H s1 ok hd=>?_)
    have hd_turned:=hd
    have sl9:=sl9.trans s1
    have ok : Ok _ (upd M p_turned (.dK vs_turned)) _:=ok
    have hB : Same M0 (upd M p_turned (.dK vs_turned)):=(b9 hB h0_turned)
    have hp_turned : (upd M p_turned (.dK vs_turned)) p_turned = some (.dK vs_turned):=upd_same
    obtain ⟨M,eM⟩ : ∃ m,m = (upd M p_turned (.dK vs_turned)):=⟨_,rfl⟩
    rw [← eM] at ok hB hp_turned
    clear eM
    refine aV ?_
    refine bp ?_
    cases hm
    exact hN _ _ _ _ sl9 ok ⟨_,_,_,rfl,hd_turned,hp_turned,hB⟩
   ·have hm:=aJ hb hm
    have hd_turned:=KOk.up s1 hd_turned
    have sl9:=sl9.trans s1
    refine aV ?_
    refine bp ?_
    cases hm
    exact hN _ _ _ _ sl9 ok ⟨_,_,_,rfl,hd_turned,hp_turned,hB⟩
  ·obtain ⟨y_name,y_last,vs_turned,rfl,hd_turned,hp_turned,hB⟩:=hj
   have h_peal:=aa s1 _ h_peal
   have sg:=sg.trans s1
   refine wU ok hp_turned h0_turned hB (fun G s1 hg ok=>?_)
   have h_peal:=aa s1 _ h_peal
   have hd_turned:=KOk.up s1 hd_turned
   have sg:=sg.trans s1
   have h_turned : Dq K G (.ref p_turned) ((eDS Dat.int) fin3):=m5 hg hd_turned.1 hd_turned.2
   have hB : Same M0 M0:=Same.refl _
   obtain ⟨t16,e_t16,hm⟩:=bs hm
   refine aM (ai (res:=fun r=>DD K ((eT Dat.int) r)) (a:=(a.1,fin3)) e_t16 (ae (eVd K h_peal) (ae (eVd K h_turned) ea_nil))) ok (fun v G H s1 ok hv=>?_)
   have sg:=sg.trans s1
   cases hm
   exact q v G H sg (ok.less hB) hv
theorem xq : FnScope ["peal","name","other"] ["peal","name","other"] (defScope lJ):=fsc
def A9 (K : Fg) (a : Qp×Str×Str) : List V→Hp→Prop:=ak (DD K (bc a.1)) (ak (DD K (Dat.str a.2.1)) (ak (DD K (Dat.str a.2.2)) (az)))
def oK (a : Qp×Str×Str) : Option (List Int):=
 (mC (a.1,a.2.1,a.2.2)).bind fun t1=>(mC (a.1,a.2.2,a.2.1)).bind fun t2=>(jm (a.1,(aU [] [(a.2.2,t1),(a.2.1,t2)]))).bind fun t3=>some t3
abbrev sW [Tb] (K : Fg) : Sp:=spP (A9 K) (oK) fun r=>DD K ((eT Dat.int) r)
theorem yj [Tb] (T : Txt K mg) (O_Y1e : FnA P w base CX0 1 T.w_Y1e (nB K)) (O_Yo : FnB P w base CX0 3 mg T.w_Yo (oR K)) : FnA P w base CX0 (4) T.w_Y1i (sW K):=by
 refine T.w_Y1i.F.ok xq (fun vs H Q E h=>?_) (fun cdv A outer s0 H vs Q E hr h=>?_)
 ·obtain ⟨G,M0,a,r,ok,⟨v_peal,_,rfl,h_peal,v_name,_,rfl,h_name,v_other,_,rfl,h_other,rfl⟩,hm,q⟩:=h
  rfl
 ·obtain ⟨G,M0,a,r,ok,⟨v_peal,_,rfl,h_peal,v_name,_,rfl,h_name,v_other,_,rfl,h_other,rfl⟩,hm,q⟩:=h
  unfold oK at hm
  have sg:=Same.refl G
  have hB:=Same.refl M0
  refine ⟨_,(pss_cons (ps_ret (pcW T.w_Y1e O_Y1e (hr.mono (by decide)) (pa_cons (pv 0) (pa_cons (pe_disp (pps_cons (pv 2) (pe_meth (pv 0) T.cl_Peal T.w_Yo.e O_Yo (hr.mono (by decide)) T.w_Yo.b .nil pass0 (pa_cons (pv 1) (pa_cons (pv 2) pa_nil))) (pps_cons (pv 1) (pe_meth (pv 0) T.cl_Peal T.w_Yo.e O_Yo (hr.mono (by decide)) T.w_Yo.b .nil pass0 (pa_cons (pv 2) (pa_cons (pv 1) pa_nil))) pps_nil)) rfl rfl (by simp) (by decide)) pa_nil)))) pss_nil),?_⟩
  refine nrm (σ':=[some v_peal,some v_name,some v_other]) rfl ?_
  obtain ⟨t1,e_t1,hm⟩:=bs hm
  obtain ⟨t2,e_t2,hm⟩:=bs hm
  obtain ⟨t3,e_t3,hm⟩:=bs hm
  refine aM (ai (res:=fun r=>DD K ((eT Dat.int) r)) (a:=(a.1,(aU [] [(a.2.2,t1),(a.2.1,t2)]))) e_t3 (ae (eVd K h_peal) (ae (sK (e:=Dat.int) (fun _ _=>(eVd K h_other)) (fun _ _=>(eY (args:=qV K) (a:=(a.1,a.2.1,a.2.2)) (by decide +kernel) rfl e_t1 (eVd K h_peal) (ae (eVd K h_name) (ae (eVd K h_other) ea_nil)))) (fun _ _=>(eVd K h_name)) (fun _ _=>(eY (args:=qV K) (a:=(a.1,a.2.2,a.2.1)) (by decide +kernel) rfl e_t2 (eVd K h_peal) (ae (eVd K h_other) (ae (eVd K h_name) ea_nil))))) ea_nil))) ok (fun v G H s1 ok hv=>?_)
  have sg:=sg.trans s1
  cases hm
  exact q v G H sg (ok.less hB) hv
theorem xM : FnScope ["peal","row","other"] ["peal","row","other"] (defScope kZ):=fsc
def Cp (K : Fg) (a : Qp×(List Str)×(List Str)) : List V→Hp→Prop:=ak (DD K (bc a.1)) (ak (DD K ((eT Dat.str) a.2.1)) (ak (DD K ((eT Dat.str) a.2.2)) (az)))
def mr (a : Qp×(List Str)×(List Str)) : Option (List Int):=
 (jf a.1).bind fun t1=>(fj (a.1,a.2.1)).bind fun t2=>(fj (a.1,a.2.2)).bind fun t3=>(gU (a.1,a.2.1,a.2.2)).bind fun t4=>some t4
abbrev q7 [Tb] (K : Fg) : Sp:=spP (Cp K) (mr) fun r=>DD K ((eT Dat.int) r)
theorem yF [Tb] (T : Txt K mg) (O_Yx : FnA P w base CX0 1 T.w_Yx (mJ K)) (O_Y17 : FnA P w base CX0 3 T.w_Y17 (mR K)) (O_Y16 : FnA P w base CX0 4 T.w_Y16 (rN K)) : FnA P w base CX0 (5) T.w_Y1s (q7 K):=by
 refine T.w_Y1s.F.ok xM (fun vs H Q E h=>?_) (fun cdv A outer s0 H vs Q E hr h=>?_)
 ·obtain ⟨G,M0,a,r,ok,⟨v_peal,_,rfl,h_peal,v_row,_,rfl,h_row,v_other,_,rfl,h_other,rfl⟩,hm,q⟩:=h
  rfl
 ·obtain ⟨G,M0,a,r,ok,⟨v_peal,_,rfl,h_peal,v_row,_,rfl,h_row,v_other,_,rfl,h_other,rfl⟩,hm,q⟩:=h
  unfold mr at hm
  have sg:=Same.refl G
  have hB:=Same.refl M0
  refine ⟨_,(pss_cons (ps_expr (pcW T.w_Yx O_Yx (hr.mono (by decide)) (pa_cons (pv 0) pa_nil))) (pss_cons (ps_expr (pcW T.w_Y17 O_Y17 (hr.mono (by decide)) (pa_cons (pv 0) (pa_cons (pv 1) pa_nil)))) (pss_cons (ps_expr (pcW T.w_Y17 O_Y17 (hr.mono (by decide)) (pa_cons (pv 0) (pa_cons (pv 2) pa_nil)))) (pss_cons (ps_ret (pcW T.w_Y16 O_Y16 (hr.mono (by decide)) (pa_cons (pv 0) (pa_cons (pv 1) (pa_cons (pv 2) pa_nil))))) pss_nil)))),?_⟩
  refine nrm (σ':=[some v_peal,some v_row,some v_other]) rfl ?_
  obtain ⟨t1,e_t1,hm⟩:=bs hm
  refine bX (ai (res:=fun r=>DD K (eN r)) (a:=a.1) e_t1 (ae (eVd K h_peal) ea_nil)) ok (fun G H s1 ok=>?_)
  have h_peal:=aa s1 _ h_peal
  have h_row:=aa s1 _ h_row
  have h_other:=aa s1 _ h_other
  have sg:=sg.trans s1
  obtain ⟨t2,e_t2,hm⟩:=bs hm
  refine bX (ai (res:=fun r=>DD K (eN r)) (a:=(a.1,a.2.1)) e_t2 (ae (eVd K h_peal) (ae (eVd K h_row) ea_nil))) ok (fun G H s1 ok=>?_)
  have h_peal:=aa s1 _ h_peal
  have h_row:=aa s1 _ h_row
  have h_other:=aa s1 _ h_other
  have sg:=sg.trans s1
  obtain ⟨t3,e_t3,hm⟩:=bs hm
  refine bX (ai (res:=fun r=>DD K (eN r)) (a:=(a.1,a.2.2)) e_t3 (ae (eVd K h_peal) (ae (eVd K h_other) ea_nil))) ok (fun G H s1 ok=>?_)
  have h_peal:=aa s1 _ h_peal
  have h_row:=aa s1 _ h_row
  have h_other:=aa s1 _ h_other
  have sg:=sg.trans s1
  obtain ⟨t4,e_t4,hm⟩:=bs hm
  refine aM (ai (res:=fun r=>DD K ((eT Dat.int) r)) (a:=(a.1,a.2.1,a.2.2)) e_t4 (ae (eVd K h_peal) (ae (eVd K h_row) (ae (eVd K h_other) ea_nil)))) ok (fun v G H s1 ok hv=>?_)
  have sg:=sg.trans s1
  cases hm
  exact q v G H sg (ok.less hB) hv
theorem xt : FnScope ["peal","name","other"] ["peal","name","other"] (defScope lQ):=fsc
def B6 (K : Fg) (a : Qp×Str×Str) : List V→Hp→Prop:=ak (DD K (bc a.1)) (ak (DD K (Dat.str a.2.1)) (ak (DD K (Dat.str a.2.2)) (az)))
def ii (a : Qp×Str×Str) : Option (List Int):=
 (jf a.1).bind fun t1=>(jp (a.1,a.2.1,a.2.2)).bind fun t2=>(oK (a.1,a.2.1,a.2.2)).bind fun t3=>some t3
abbrev tT [Tb] (K : Fg) : Sp:=spP (B6 K) (ii) fun r=>DD K ((eT Dat.int) r)
theorem yK [Tb] (T : Txt K mg) (O_Yx : FnA P w base CX0 1 T.w_Yx (mJ K)) (O_Y18 : FnA P w base CX0 3 T.w_Y18 (rg K)) (O_Y1i : FnA P w base CX0 4 T.w_Y1i (sW K)) : FnA P w base CX0 (5) T.w_Y1y (tT K):=by
 refine T.w_Y1y.F.ok xt (fun vs H Q E h=>?_) (fun cdv A outer s0 H vs Q E hr h=>?_)
 ·obtain ⟨G,M0,a,r,ok,⟨v_peal,_,rfl,h_peal,v_name,_,rfl,h_name,v_other,_,rfl,h_other,rfl⟩,hm,q⟩:=h
  rfl
 ·obtain ⟨G,M0,a,r,ok,⟨v_peal,_,rfl,h_peal,v_name,_,rfl,h_name,v_other,_,rfl,h_other,rfl⟩,hm,q⟩:=h
  unfold ii at hm
  have sg:=Same.refl G
  have hB:=Same.refl M0
  refine ⟨_,(pss_cons (ps_expr (pcW T.w_Yx O_Yx (hr.mono (by decide)) (pa_cons (pv 0) pa_nil))) (pss_cons (ps_expr (pcW T.w_Y18 O_Y18 (hr.mono (by decide)) (pa_cons (pv 0) (pa_cons (pv 1) (pa_cons (pv 2) pa_nil))))) (pss_cons (ps_ret (pcW T.w_Y1i O_Y1i (hr.mono (by decide)) (pa_cons (pv 0) (pa_cons (pv 1) (pa_cons (pv 2) pa_nil))))) pss_nil))),?_⟩
  refine nrm (σ':=[some v_peal,some v_name,some v_other]) rfl ?_
  obtain ⟨t1,e_t1,hm⟩:=bs hm
  refine bX (ai (res:=fun r=>DD K (eN r)) (a:=a.1) e_t1 (ae (eVd K h_peal) ea_nil)) ok (fun G H s1 ok=>?_)
  have h_peal:=aa s1 _ h_peal
  have h_name:=aa s1 _ h_name
  have h_other:=aa s1 _ h_other
  have sg:=sg.trans s1
  obtain ⟨t2,e_t2,hm⟩:=bs hm
  refine bX (ai (res:=fun r=>DD K (eN r)) (a:=(a.1,a.2.1,a.2.2)) e_t2 (ae (eVd K h_peal) (ae (eVd K h_name) (ae (eVd K h_other) ea_nil)))) ok (fun G H s1 ok=>?_)
  have h_peal:=aa s1 _ h_peal
  have h_name:=aa s1 _ h_name
  have h_other:=aa s1 _ h_other
  have sg:=sg.trans s1
  obtain ⟨t3,e_t3,hm⟩:=bs hm
  refine aM (ai (res:=fun r=>DD K ((eT Dat.int) r)) (a:=(a.1,a.2.1,a.2.2)) e_t3 (ae (eVd K h_peal) (ae (eVd K h_name) (ae (eVd K h_other) ea_nil)))) ok (fun v G H s1 ok hv=>?_)
  have sg:=sg.trans s1
  cases hm
  exact q v G H sg (ok.less hB) hv
theorem oq : FnScope ["_law_script","_law_k","_law_cell","_law_great"] ["_law_script","_law_k"] (defScope qC):=fsc
def C6 (K : Fg) (a : (List Int)×Int) : List V→Hp→Prop:=ak (SCP K a.1) (ak (DD K (Dat.int a.2)) (az))
def ri (a : (List Int)×Int) : Option Sto:=
 (fc (90901 : Int) a.2).bind fun t1=>(cond (decide (a.2 < (a.1.length : Int))) ((atI a.1 a.2).bind fun t4=>some t4) (some (t1 + (433 : Int)))).bind fun j2=>(cond (decide (j2 < (0 : Int))) (some true) ((uI (10 : Int) (17 : Int)).bind fun t6=>some (decide (t6 < j2)))).bind fun t7=>(fc (if j2 < 0 then -j2 else j2) (if t7 then 1 else 0 : Int)).bind fun t8=>(fc (2 : Int) (if j2 < 0 then -j2 else j2)).bind fun t9=>(fc (7919 : Int) a.2).bind fun t10=>(dr (((t9 + (if t7 then 1 else 0 : Int)) + t10) + (13 : Int)) (998244353 : Int)).bind fun t11=>some (t8,(t11 + (1 : Int)),(0 : Int))
abbrev wW [Tb] (K : Fg) : Sp:=spO (C6 K) ri
theorem yY [Tb] (T : Txt K mg) : FnA P w base CX0 (1) T.w_Yj (wW K):=by
 refine T.w_Yj.F.ok oq (fun vs H Q E h=>?_) (fun cdv A outer s0 H vs Q E hr h=>?_)
 ·obtain ⟨G,M0,a,r,ok,⟨v_Zg,_,rfl,h_Zg,v_Z1w,_,rfl,h_Z1w,rfl⟩,hm,q⟩:=h
  rfl
 ·obtain ⟨G,M0,a,r,ok,⟨v_Zg,_,rfl,h_Zg,v_Z1w,_,rfl,h_Z1w,rfl⟩,hm,q⟩:=h
  unfold ri at hm
  have sg:=Same.refl G
  have hB:=Same.refl M0
  refine ⟨_,(pss_cons (ps_set (i:=2) oq.nd rfl (.inl rfl) (pe_op op_add (pe_op co pe_int (pv 1)) pe_int)) (pss_cons (ps_if (pt_cmpR op_lt (pv 1) (pe_callB (aR (K:=K)) (by rfl) T.n_len (by decide +kernel) (pa_cons (pv 0) pa_nil)) (nomark _)) (pss_cons (ps_set (i:=2) oq.nd rfl (.inl rfl) (pe_ix (aH (K:=K)) (pv 0) (pv 1) (fun _ _=>rfl))) pss_nil) pss_nil) (pss_cons (ps_set (i:=3) oq.nd rfl (.inl rfl) (pe_callTy qS (by rfl) T.n_int (by decide +kernel) (pa_cons (pe_or (pe_cmpR op_lt (pv 2) pe_int (nomark _)) (pe_one (pe_cmpR op_gt (pv 2) (pe_op op_pow pe_int pe_int) (nomark _)))) pa_nil))) (pss_cons (ps_ret (pe_lst (pa_cons (pe_op co (pe_callB qN (by rfl) T.n_abs (by decide +kernel) (pa_cons (pv 2) pa_nil)) (pv 3)) (pa_cons (pe_op op_add (pe_op op_modN (pe_op op_add (pe_op op_add (pe_op op_add (pe_op co pe_int (pe_callB qN (by rfl) T.n_abs (by decide +kernel) (pa_cons (pv 2) pa_nil))) (pv 3)) (pe_op co pe_int (pv 1))) pe_int) pe_int) pe_int) (pa_cons pe_int pa_nil))))) pss_nil)))),?_⟩
  cases h_Z1w
  refine nrm (σ':=[some v_Zg,some (.int a.2),none,none]) rfl ?_
  obtain ⟨t1,e_t1,hm⟩:=bs hm
  refine bT (σ':=fun v=>[some v_Zg,some (.int a.2),some v,none]) (bh (cj e_t1 (ab (K:=K)) (eVd K (.int _))) (ab (K:=K))) ok (fun _=>rfl) (fun v_Z17 G H s1 ok h_Z17=>?_)
  have h_Zg:=cX _ _ _ s1 h_Zg
  have sg:=sg.trans s1
  cases h_Z17
  obtain ⟨j2,e_j2,hm⟩:=bs hm
  refine AR (fun σ1 G1 M1=>σ1 = [some v_Zg,some (.int a.2),some (.int j2),none]∧(Same M0 M1)) (et_test (uy (eVd K (.int _)) (jT (ea_cons cX (ev_var rfl cX h_Zg) ea_nil)))) ok (fun hb G H D1 s1 ok _ _ _ kD=>?_) (fun hb G H D1 s1 ok _ _ _ kD=>?_) (fun σ1 G M H s1 ok hj=>?_)
  ·have hm:=aK hb e_j2
   have h_Zg:=cX _ _ _ s1 h_Zg
   have sl3:=Same.refl G
   obtain ⟨t4,e_t4,hm⟩:=bs hm
   refine bT (σ':=fun v=>[some v_Zg,some (.int a.2),some v,none]) (tq e_t4 (ev_var rfl cX h_Zg) (eVd K (.int _))) ok (fun _=>rfl) (fun v_Z17 G H s1 ok h_Z17=>?_)
   have sl3:=sl3.trans s1
   cases h_Z17
   refine bp ?_
   cases hm
   exact kD _ _ _ _ sl3 ok ⟨rfl,hB⟩
  ·have hm:=aJ hb e_j2
   have sl5:=Same.refl G
   refine bp ?_
   cases hm
   exact kD _ _ _ _ sl5 ok ⟨rfl,hB⟩
  ·obtain ⟨rfl,hB⟩:=hj
   have sg:=sg.trans s1
   obtain ⟨t7,e_t7,hm⟩:=bs hm
   refine bT (σ':=fun v=>[some v_Zg,some (.int a.2),some (.int j2),some v]) (oQ (ae (xE (c:=t7) (uy (eVd K (.int _)) (ab (K:=K))) (fun eb=>by have e1:=aJ eb e_t7; (obtain ⟨t6,e_t6,e1⟩:=bs e1); (have e1:=Option.some.inj e1); subst e1; exact (gW (eVd K (.int _)) (va e_t6 (ab (K:=K)) (ab (K:=K))))) (fun eb=>by have e1:=aK eb e_t7; cases e1; exact ⟨rfl,rfl⟩)) ea_nil)) ok (fun _=>rfl) (fun v_Zn G H s1 ok h_Zn=>?_)
   have sg:=sg.trans s1
   cases h_Zn
   obtain ⟨t8,e_t8,hm⟩:=bs hm
   obtain ⟨t9,e_t9,hm⟩:=bs hm
   obtain ⟨t10,e_t10,hm⟩:=bs hm
   obtain ⟨t11,e_t11,hm⟩:=bs hm
   cases hm
   refine w7 (el_lst (ag (cj e_t8 (rR (ae (eVd K (.int _)) ea_nil)) (eVd K (.int _))) (ag (bh (b0 e_t11 (bh (bh (bh (cj e_t9 (ab (K:=K)) (rR (ae (eVd K (.int _)) ea_nil))) (eVd K (.int _))) (cj e_t10 (ab (K:=K)) (eVd K (.int _)))) (ab (K:=K))) (ab (K:=K))) (ab (K:=K))) (ag (ab (K:=K)) (aC (K:=K)))))) ok (fun p vs G H s1 ok hp hd=>?_)
   have sg:=sg.trans s1
   cases xY hd
   exact q _ _ _ sg (ok.less (pE hB)) (hB.free hp)
theorem nM : FnScope ["_law_store","_law_many","_law_found","_law_state"] ["_law_store","_law_many"] (defScope lS):=fsc
def zR (K : Fg) (a : Int) : List V→Hp→Prop:=ak (DD K (Dat.int a)) (az)
def bR (a : Int) (z : Sto) : Option (Int×Sto):=uh a z
abbrev ee [Tb] (K : Fg) : Sp:=spD (zR K) bR fun r=>DD K (Dat.int r)
theorem yz [Tb] (T : Txt K mg) : FnA P w base CX0 1 T.w_Y14 (ee K):=by
 refine T.w_Y14.F.ok nM (fun vs H Q E h=>?_) (fun cdv A outer s0 H vs Q E hr h=>?_)
 ·obtain ⟨G,M0,s,z,z1,a,r,ws,rfl,ok,hs,⟨v_m,_,rfl,h_m,rfl⟩,hm,q⟩:=h
  rfl
 ·obtain ⟨G,M0,s,z,z1,a,r,ws,rfl,ok,hs,⟨v_m,_,rfl,h_m,rfl⟩,hm,q⟩:=h
  cases h_m
  unfold bR uh at hm
  refine ⟨_,(pss_cons (ps_asg (pe_op op_add (pe_ix (aH (K:=K)) (pv 0) pe_int (fun _ _=>rfl)) pe_int) (pg_sub (pv 0) pe_int set_list))
   (pss_cons (ps_if (pt_cmpR op_gt (pe_ix (aH (K:=K)) (pv 0) pe_int (fun _ _=>rfl)) pe_int (nomark _))
    (pss_cons (ps_asg (pe_callB qd (by rfl) T.n_divmod (by decide +kernel) (pa_cons (pe_ix (aH (K:=K)) (pv 0) pe_int (fun _ _=>rfl)) (pa_cons (pv 1) pa_nil))) (pg_tup rfl (pgs_cons (pg_sub (pv 0) pe_int set_list) (pgs_cons (pg_name (i:=2) nM.nd rfl (.inl rfl)) pgs_nil))))
     (pss_cons (ps_ret (pv 2)) pss_nil)) pss_nil)
   (pss_cons (ps_set (i:=3) nM.nd rfl (.inl rfl) (pe_ix (aH (K:=K)) (pv 0) pe_int (fun _ _=>rfl)))
   (pss_cons (ps_asg (pe_op op_modN (pe_op op_add (pe_op op_add (pe_op co (pv 3) (pe_op op_add (pe_op op_modN (pv 3) pe_int) pe_int)) (pe_op co pe_int (pe_ix (aH (K:=K)) (pv 0) pe_int (fun _ _=>rfl)))) pe_int) pe_int) (pg_sub (pv 0) pe_int set_list))
   (pss_cons (ps_ret (pe_op op_modN (pe_op dU (pe_ix (aH (K:=K)) (pv 0) pe_int (fun _ _=>rfl)) pe_int) (pv 1))) pss_nil))))),?_⟩
  refine nrm (σ':=[some (.ref s),some (.int a),none,none]) rfl ?_
  have d3 : ∀ (x y z : Int) (G : Hp),ap K G [.int x,.int y,.int z] [.int x,.int y,.int z]:=fun x y z G=>.cons (.int x) (.cons (.int y) (.cons (.int z) .nil))
  refine eP (K:=K) (d:=.int (z.2.2 + 1)) (bh (fA (ds:=[.int z.1,.int z.2.1,.int z.2.2]) (d:=.int z.2.2) (aq rfl) (ab (K:=K)) hs (d3 _ _ _ _) rfl) (ab (K:=K))) (aq rfl) (ab (K:=K)) hs rfl ok (fun v G H s1 ok hv=>?_)
  cases hv
  have sg:=s1
  have hs1 : (upd M0 s (.lst [.int z.1,.int z.2.1,.int (z.2.2 + 1)])) s = some (.lst [.int z.1,.int z.2.1,.int (z.2.2 + 1)]):=upd_same
  refine q_if (et_test (gW (fA (ds:=[.int z.1,.int z.2.1,.int (z.2.2 + 1)]) (d:=.int z.1) (aq rfl) (ab (K:=K)) hs1 (d3 _ _ _ _) rfl) (ab (K:=K)))) ok (fun hb G H s1 ok=>?_) (fun hb G H s1 ok=>?_)
  ·have hm:=aK hb hm
   have sg:=sg.trans s1
   obtain ⟨t1,e_t1,hm⟩:=bs hm
   refine og (xw e_t1 (ae (fA (ds:=[.int z.1,.int z.2.1,.int (z.2.2 + 1)]) (d:=.int z.1) (aq rfl) (ab (K:=K)) hs1 (d3 _ _ _ _) rfl) (ae (eVd K (.int _)) ea_nil))) ok (fun v G H s1 ok hv=>?_)
   have sg:=sg.trans s1
   refine gr2 hv ok.g (fun w1 w2 hw1 hw2=>?_)
   cases hw1
   refine vS (K:=K) (aq rfl) (ab (K:=K)) hs1 rfl ok (fun G H s1 ok=>?_)
   have sg:=sg.trans s1
   cases hw2
   refine gn ?_
   refine nrm (σ':=[some (.ref s),some (.int a),some (.int t1.2),none]) rfl ?_
   refine aM (eVd K (.int _)) ok (fun v G H s1 ok hv=>?_)
   cases hm
   rw [upd_upd] at ok
   exact q v G H (sg.trans s1) ok hv
  ·have hm:=aJ hb hm
   have sg:=sg.trans s1
   refine aV ?_
   refine bT (σ':=fun v=>[some (.ref s),some (.int a),none,some v]) (fA (K:=K) (ds:=[.int z.1,.int z.2.1,.int (z.2.2 + 1)]) (d:=.int z.2.1) (aq rfl) (ab (K:=K)) hs1 (d3 _ _ _ _) rfl) ok (fun _=>rfl) (fun v G H s1 ok hv=>?_)
   cases hv
   have sg:=sg.trans s1
   obtain ⟨t1,e_t1,hm⟩:=bs hm
   obtain ⟨t2,e_t2,hm⟩:=bs hm
   obtain ⟨t3,e_t3,hm⟩:=bs hm
   obtain ⟨t4,e_t4,hm⟩:=bs hm
   obtain ⟨t5,e_t5,hm⟩:=bs hm
   obtain ⟨t6,e_t6,hm⟩:=bs hm
   refine eP (K:=K) (b0 e_t4 (bh (bh (cj e_t2 (eVd K (.int _)) (bh (b0 e_t1 (eVd K (.int _)) (ab (K:=K))) (ab (K:=K)))) (cj e_t3 (ab (K:=K)) (fA (ds:=[.int z.1,.int z.2.1,.int (z.2.2 + 1)]) (d:=.int (z.2.2 + 1)) (aq rfl) (ab (K:=K)) hs1 (d3 _ _ _ _) rfl))) (ab (K:=K))) (ab (K:=K))) (aq rfl) (ab (K:=K)) hs1 rfl ok (fun v G H s1 ok hv=>?_)
   cases hv
   have sg:=sg.trans s1
   rw [upd_upd] at ok
   have hs2 : (upd M0 s (.lst [.int z.1,.int t4,.int (z.2.2 + 1)])) s = some (.lst [.int z.1,.int t4,.int (z.2.2 + 1)]):=upd_same
   refine aM (b0 e_t6 (eG e_t5 (fA (K:=K) (ds:=[.int z.1,.int t4,.int (z.2.2 + 1)]) (d:=.int t4) (aq rfl) (ab (K:=K)) hs2 (d3 _ _ _ _) rfl) (ab (K:=K))) (eVd K (.int _))) ok (fun v G H s1 ok hv=>?_)
   cases hm
   exact q v G H (sg.trans s1) ok hv
theorem lE : FnScope ["_law_figure_here","_law_wide","_law_word","_law_turn"] ["_law_figure_here","_law_wide"] (defScope rD):=fsc
def CH (K : Fg) (a : Int×Int) : List V→Hp→Prop:=ak (DD K (Dat.int a.1)) (ak (DD K (Dat.int a.2)) (az))
def sx (a : Int×Int) : Option Str:=
 (cE a.2).bind fun t1=>(cC (fun (st3 : Str×Int) (x4 : Int)=>(dr st3.2 (26 : Int)).bind fun t9=>(atS (Str.ofString "abcdefghijklmnopqrstuvwxyz") t9).bind fun t10=>(xj t10 st3.1).bind fun t11=>(dL st3.2 (26 : Int)).bind fun t12=>some (t11,t12)) t1 ((Str.ofString ""),a.1)).bind fun fin2=>some fin2.1
abbrev wI [Tb] (K : Fg) : Sp:=spP (CH K) (sx) fun r=>DD K (Dat.str r)
theorem Ac [Tb] (T : Txt K mg) : FnA P w base CX0 (1) T.w_Ys (wI K):=by
 refine T.w_Ys.F.ok lE (fun vs H Q E h=>?_) (fun cdv A outer s0 H vs Q E hr h=>?_)
 ·obtain ⟨G,M0,a,r,ok,⟨v_Z2,_,rfl,h_Z2,v_Z1p,_,rfl,h_Z1p,rfl⟩,hm,q⟩:=h
  rfl
 ·obtain ⟨G,M0,a,r,ok,⟨v_Z2,_,rfl,h_Z2,v_Z1p,_,rfl,h_Z1p,rfl⟩,hm,q⟩:=h
  unfold sx at hm
  have sg:=Same.refl G
  have hB:=Same.refl M0
  refine ⟨_,(pss_cons (ps_set (i:=2) lE.nd rfl (.inl rfl) pe_str) (pss_cons (ps_for PassesOwn.never rfl (pi_range1 (by rfl) T.n_range (pa_cons (pv 1) pa_nil)) (pg_name (i:=3) lE.nd rfl (.inl rfl)) (pss_cons (ps_set (i:=2) lE.nd rfl (.inl rfl) (pe_op op_add_str (pe_ix ix_str pe_str (pe_op op_modN (pv 0) pe_int) (fun _ _=>rfl)) (pv 2))) (pss_cons (ps_set (i:=0) lE.nd rfl (.inl rfl) (pe_op dU (pv 0) pe_int)) pss_nil))) (pss_cons (ps_ret (pv 2)) pss_nil))),?_⟩
  cases h_Z2
  cases h_Z1p
  refine nrm (σ':=[some (.int a.1),some (.int a.2),none,none]) rfl ?_
  refine bT (σ':=fun v=>[some (.int a.1),some (.int a.2),some v,none]) (ca (K:=K) (by decide +kernel)) ok (fun _=>rfl) (fun v_Z1q G H s1 ok h_Z1q=>?_)
  have sg:=sg.trans s1
  obtain ⟨t1,e_t1,hm⟩:=bs hm
  obtain ⟨fin2,e_fin2,hm⟩:=bs hm
  refine bP (ea:=Dat.int) (aX e_t1 (ae (eVd K (.int _)) ea_nil)) ok (fun (st3 : Str×Int) σ1 G1 M1=>∃ (y_Z1m : Option V) (v_Z1q : V),σ1 = [some (.int st3.2),some (.int a.2),some v_Z1q,y_Z1m]∧(Dq K G1 v_Z1q (Dat.str st3.1))∧(Same M0 M1)) e_fin2 (fun G1 s1=>⟨_,_,rfl,aa s1 _ h_Z1q,hB⟩) (by rintro _ _ _ _ _ ⟨y_Z1m,v_Z1q,rfl,h_Z1q,hB⟩ s2; exact ⟨_,_,rfl,aa s2 _ h_Z1q,hB⟩) (fun x4 xv7 st3 st' σ1 G M H N hm hj s1 ok hv hN=>?_) (fun σ1 G M H s1 ok hj=>?_)
  ·obtain ⟨y_Z1m,v_Z1q,rfl,h_Z1q,hB⟩:=hj
   have sl8:=Same.refl G
   refine gn ?_
   have h_Z1m:=hv
   cases h_Z1m
   refine nrm (σ':=[some (.int st3.2),some (.int a.2),some v_Z1q,some (.int x4)]) rfl ?_
   obtain ⟨t9,e_t9,hm⟩:=bs hm
   obtain ⟨t10,e_t10,hm⟩:=bs hm
   obtain ⟨t11,e_t11,hm⟩:=bs hm
   refine bT (σ':=fun v=>[some (.int st3.2),some (.int a.2),some v,some (.int x4)]) (uN e_t11 (xD e_t10 (ca (K:=K) (by decide +kernel)) (b0 e_t9 (eVd K (.int _)) (ab (K:=K)))) (eVd K h_Z1q)) ok (fun _=>rfl) (fun v_Z1q G H s1 ok h_Z1q=>?_)
   have sl8:=sl8.trans s1
   obtain ⟨t12,e_t12,hm⟩:=bs hm
   refine bT (σ':=fun v=>[some v,some (.int a.2),some v_Z1q,some (.int x4)]) (eG e_t12 (eVd K (.int _)) (ab (K:=K))) ok (fun _=>rfl) (fun v_Z2 G H s1 ok h_Z2=>?_)
   have h_Z1q:=aa s1 _ h_Z1q
   have sl8:=sl8.trans s1
   cases h_Z2
   refine bp ?_
   cases hm
   exact hN _ _ _ _ sl8 ok ⟨_,_,rfl,h_Z1q,hB⟩
  ·obtain ⟨y_Z1m,v_Z1q,rfl,h_Z1q,hB⟩:=hj
   have sg:=sg.trans s1
   refine aM (eVd K h_Z1q) ok (fun v G H s1 ok hv=>?_)
   have sg:=sg.trans s1
   cases hm
   exact q v G H sg (ok.less hB) hv
theorem dM : FnScope ["_law_store","_law_many","_law_words","_law_first","_law_leap","_law_wide","_law_most","_law_k"] ["_law_store","_law_many"] (defScope mT):=fsc
def CS (K : Fg) (a : Int) : List V→Hp→Prop:=ak (DD K (Dat.int a)) (az)
def rj (a : Int) (z : Sto) : Option ((List Str)×Sto):=
 (bR (5 : Int) z).bind fun t1=>cond (decide (t1.1 = (1 : Int))) ((bR (12 : Int) t1.2).bind fun t2=>(bR (4 : Int) t2.2).bind fun t3=>(atI ([(1 : Int),(5 : Int),(7 : Int),(11 : Int)] : (List Int)) t3.1).bind fun t4=>(cE a).bind fun t5=>(lcO (fun x6 : Int=>(fc t4 x6).bind fun t12=>(dr (t2.1 + t12) (12 : Int)).bind fun t13=>(atI ([(Str.ofString "bell"),(Str.ofString "turns"),(Str.ofString "ring"),(Str.ofString "go"),(Str.ofString "tell"),(Str.ofString "hang"),(Str.ofString "down"),(Str.ofString "put"),(Str.ofString "strike"),(Str.ofString "back"),(Str.ofString "lots"),(Str.ofString "home")] : (List Str)) t13).bind fun t14=>some t14) t5).bind fun t15=>(jN t15).bind fun t16=>some (t16,t3.2)) ((bR (6 : Int) t1.2).bind fun t17=>(bR (4 : Int) t17.2).bind fun t18=>(atI ([(1 : Int),(3 : Int),(7 : Int),(25 : Int)] : (List Int)) t18.1).bind fun t19=>(atI ([(26 : Int),(676 : Int),(17576 : Int),(456976 : Int),(11881376 : Int),(308915776 : Int)] : (List Int)) (((1 : Int) + t17.1) - (1 : Int))).bind fun t20=>(bR t20 t18.2).bind fun t21=>(cE a).bind fun t22=>(lcO (fun x23 : Int=>(fc t19 x23).bind fun t29=>(dr (t21.1 + t29) t20).bind fun t30=>(sx (t30,((1 : Int) + t17.1))).bind fun t31=>some t31) t22).bind fun t32=>(jN t32).bind fun t33=>some (t33,t21.2))
abbrev wO [Tb] (K : Fg) : Sp:=spD (CS K) (rj) fun r=>DD K ((eL Dat.str) r)
theorem An [Tb] (T : Txt K mg) (O_Y14 : FnA P w base CX0 1 T.w_Y14 (ee K)) (O_Ys : FnA P w base CX0 1 T.w_Ys (wI K)) : FnA P w base CX0 (2) T.w_Yp (wO K):=by
 refine T.w_Yp.F.ok dM (fun vs H Q E h=>?_) (fun cdv A outer s0 H vs Q E hr h=>?_)
 ·obtain ⟨G,M0,s,z,z1,a,r,ws,rfl,ok,hs,⟨v_Z1d,_,rfl,h_Z1d,rfl⟩,hm,q⟩:=h
  rfl
 ·obtain ⟨G,M0,s,z,z1,a,r,ws,rfl,ok,hs,⟨v_Z1d,_,rfl,h_Z1d,rfl⟩,hm,q⟩:=h
  unfold rj at hm
  have sg:=Same.refl G
  have hB : ∀ a u,a ≠ s→M0 a = some u→M0 a = some u:=fun _ _ _ h=>h
  refine ⟨_,(pss_cons (ps_set (i:=2) dM.nd rfl (.inr rfl) (pe_lst (pa_cons pe_str (pa_cons pe_str (pa_cons pe_str (pa_cons pe_str (pa_cons pe_str (pa_cons pe_str (pa_cons pe_str (pa_cons pe_str (pa_cons pe_str (pa_cons pe_str (pa_cons pe_str (pa_cons pe_str pa_nil)))))))))))))) (pss_cons (ps_if (pt_cmpR op_eq (pcW T.w_Y14 O_Y14 (hr.mono (by decide)) (pa_cons (pv 0) (pa_cons pe_int pa_nil))) pe_int (nomark _)) (pss_cons (ps_asg (pe_tup (pa_cons (pcW T.w_Y14 O_Y14 (hr.mono (by decide)) (pa_cons (pv 0) (pa_cons pe_int pa_nil))) (pa_cons (pe_ix (aH (K:=K)) (pe_lst (pa_cons pe_int (pa_cons pe_int (pa_cons pe_int (pa_cons pe_int pa_nil))))) (pcW T.w_Y14 O_Y14 (hr.mono (by decide)) (pa_cons (pv 0) (pa_cons pe_int pa_nil))) (fun _ _=>rfl)) pa_nil))) (pg_tup rfl (pgs_cons (pg_name (i:=3) dM.nd rfl (.inr rfl)) (pgs_cons (pg_name (i:=4) dM.nd rfl (.inr rfl)) pgs_nil)))) (pss_cons (ps_ret (pe_callB (gD (K:=K)) (by rfl) T.n_sorted (by decide +kernel) (pa_cons (pe_lc (own:=[("_law_k",7)]) (g:=(gName 7)) (tt:=tYes) rfl dM.nd (pi_range1 (by rfl) T.n_range (pa_cons (pv 1) pa_nil)) (blkOk_by (own:=[("_law_k",7)]) (N:=["_law_store","_law_many","_law_words","_law_first","_law_leap","_law_wide","_law_most","_law_k"]) (sc:=defScope mT) (by decide +kernel)) (fun _ _ _ _ _=>(pg_name (i:=7) dM.nd rfl (by first | exact .inl rfl | exact .inr rfl))) (fun _ _ _ _ _=>pts_nil) (fun _ _ _ _ _=>(pe_ix (aH (K:=K)) (pv 2) (pe_op op_modN (pe_op op_add (pv 3) (pe_op co (pv 4) (pv 7))) pe_int) (fun _ _=>rfl)))) pa_nil))) pss_nil)) pss_nil) (pss_cons (ps_asg (pe_tup (pa_cons (pe_op op_add pe_int (pcW T.w_Y14 O_Y14 (hr.mono (by decide)) (pa_cons (pv 0) (pa_cons pe_int pa_nil)))) (pa_cons (pe_ix (aH (K:=K)) (pe_lst (pa_cons pe_int (pa_cons pe_int (pa_cons pe_int (pa_cons pe_int pa_nil))))) (pcW T.w_Y14 O_Y14 (hr.mono (by decide)) (pa_cons (pv 0) (pa_cons pe_int pa_nil))) (fun _ _=>rfl)) pa_nil))) (pg_tup rfl (pgs_cons (pg_name (i:=5) dM.nd rfl (.inr rfl)) (pgs_cons (pg_name (i:=4) dM.nd rfl (.inr rfl)) pgs_nil)))) (pss_cons (ps_set (i:=6) dM.nd rfl (.inr rfl) (pe_ix (aH (K:=K)) (pe_lst (pa_cons pe_int (pa_cons pe_int (pa_cons pe_int (pa_cons pe_int (pa_cons pe_int (pa_cons pe_int pa_nil))))))) (pe_op op_sub (pv 5) pe_int) (fun _ _=>rfl))) (pss_cons (ps_set (i:=3) dM.nd rfl (.inr rfl) (pcW T.w_Y14 O_Y14 (hr.mono (by decide)) (pa_cons (pv 0) (pa_cons (pv 6) pa_nil)))) (pss_cons (ps_ret (pe_callB (gD (K:=K)) (by rfl) T.n_sorted (by decide +kernel) (pa_cons (pe_lc (own:=[("_law_k",7)]) (g:=(gName 7)) (tt:=tYes) rfl dM.nd (pi_range1 (by rfl) T.n_range (pa_cons (pv 1) pa_nil)) (blkOk_by (own:=[("_law_k",7)]) (N:=["_law_store","_law_many","_law_words","_law_first","_law_leap","_law_wide","_law_most","_law_k"]) (sc:=defScope mT) (by decide +kernel)) (fun _ _ _ _ _=>(pg_name (i:=7) dM.nd rfl (by first | exact .inl rfl | exact .inr rfl))) (fun _ _ _ _ _=>pts_nil) (fun _ _ _ _ _=>(pcW T.w_Ys O_Ys (hr.mono (by decide)) (pa_cons (pe_op op_modN (pe_op op_add (pv 3) (pe_op co (pv 4) (pv 7))) (pv 6)) (pa_cons (pv 5) pa_nil))))) pa_nil))) pss_nil)))))),?_⟩
  cases h_Z1d
  refine nrm (σ':=[some (.ref s),some (.int a),none,none,none,none,none,none]) rfl ?_
  refine bT (σ':=fun v=>[some (.ref s),some (.int a),some v,none,none,none,none,none]) (EvL.ev (el_lst (ag (ca (K:=K) (by decide +kernel)) (ag (ca (K:=K) (by decide +kernel)) (ag (ca (K:=K) (by decide +kernel)) (ag (ca (K:=K) (by decide +kernel)) (ag (ca (K:=K) (by decide +kernel)) (ag (ca (K:=K) (by decide +kernel)) (ag (ca (K:=K) (by decide +kernel)) (ag (ca (K:=K) (by decide +kernel)) (ag (ca (K:=K) (by decide +kernel)) (ag (ca (K:=K) (by decide +kernel)) (ag (ca (K:=K) (by decide +kernel)) (ag (ca (K:=K) (by decide +kernel)) (aC (K:=K)))))))))))))))) ok (fun _=>rfl) (fun v_Z13 G H s1 ok h_Z13=>?_)
  have sg:=sg.trans s1
  obtain ⟨t1,e_t1,hm⟩:=bs hm
  refine q_if (et_test (nW (aL (a:=(5 : Int)) (r:=t1.1) (z':=t1.2) hs e_t1 (ea_cons bo (aq rfl) (ae (ab (K:=K)) ea_nil))) (ab (K:=K)))) ok (fun hb G H s1 ok=>?_) (fun hb G H s1 ok=>?_)
  ·have hm:=aK hb hm
   have h_Z13:=aa s1 _ h_Z13
   have sg:=sg.trans s1
   have ok : Ok _ (upd M0 s (sto t1.2)) _:=ok
   have hs : (upd M0 s (sto t1.2)) s = some (sto t1.2):=upd_same
   have hB : ∀ a u,a ≠ s→M0 a = some u→(upd M0 s (sto t1.2)) a = some u:=(aG hB)
   obtain ⟨M,eM⟩ : ∃ m,m = (upd M0 s (sto t1.2)):=⟨_,rfl⟩
   rw [← eM] at ok hs hB
   clear eM
   obtain ⟨t2,e_t2,hm⟩:=bs hm
   obtain ⟨t3,e_t3,hm⟩:=bs hm
   obtain ⟨t4,e_t4,hm⟩:=bs hm
   refine gL (σ':=fun v w=>[some (.ref s),some (.int a),some v_Z13,some v,some w,none,none,none]) (aL (a:=(12 : Int)) (r:=t2.1) (z':=t2.2) hs e_t2 (ea_cons bo (aq rfl) (ae (ab (K:=K)) ea_nil))) aQ (br (e:=Dat.int) e_t4 (EvL.ev (el_lst (ag (ab (K:=K)) (ag (ab (K:=K)) (ag (ab (K:=K)) (ag (ab (K:=K)) (aC (K:=K)))))))) (aL (a:=(4 : Int)) (r:=t3.1) (z':=t3.2) upd_same e_t3 (ea_cons bo (aq rfl) (ae (ab (K:=K)) ea_nil)))) aQ ok (fun _ _=>rfl) (fun v_Zl v_Z1a G H s1 ok h_Zl h_Z1a=>?_)
   have h_Z13:=aa s1 _ h_Z13
   have sg:=sg.trans s1
   cases h_Zl
   cases h_Z1a
   have ok : Ok _ (upd (upd M s (sto t2.2)) s (sto t3.2)) _:=ok
   have hs : (upd (upd M s (sto t2.2)) s (sto t3.2)) s = some (sto t3.2):=upd_same
   have hB : ∀ a u,a ≠ s→M0 a = some u→(upd (upd M s (sto t2.2)) s (sto t3.2)) a = some u:=(aG (aG hB))
   obtain ⟨M,eM⟩ : ∃ m,m = (upd (upd M s (sto t2.2)) s (sto t3.2)):=⟨_,rfl⟩
   rw [← eM] at ok hs hB
   clear eM
   obtain ⟨t5,e_t5,hm⟩:=bs hm
   obtain ⟨t15,e_t15,hm⟩:=bs hm
   obtain ⟨t16,e_t16,hm⟩:=bs hm
   refine aM (EvL.ev (iO e_t16 (ae (EvL.ev (bj (ea:=Dat.int) (eb:=Dat.str) (xs:=t5) (ys:=t15) (hf:=e_t15) (aX e_t5 (ae (eVd K (.int _)) ea_nil)) (fun x6 _ Mx10 _ _ he11 sM9 sG8 hv7=>by (obtain ⟨t12,e_t12,he11⟩:=bs he11); (obtain ⟨t13,e_t13,he11⟩:=bs he11); (obtain ⟨t14,e_t14,he11⟩:=bs he11); (have he11:=Option.some.inj he11); subst he11; exact (ay ⟨rfl,(br (e:=Dat.str) e_t14 (eVd K (aa sG8 _ h_Z13)) (b0 e_t13 (bh (eVd K (.int _)) (cj e_t12 (eVd K (.int _)) (eVd K hv7))) (ab (K:=K))))⟩)))) ea_nil))) ok (fun v G H s1 ok hv=>?_)
   have sg:=sg.trans s1
   cases hm
   exact q v G H sg (ok.less (bU hB hs)) hv
  ·have hm:=aJ hb hm
   have sg:=sg.trans s1
   have ok : Ok _ (upd M0 s (sto t1.2)) _:=ok
   have hs : (upd M0 s (sto t1.2)) s = some (sto t1.2):=upd_same
   have hB : ∀ a u,a ≠ s→M0 a = some u→(upd M0 s (sto t1.2)) a = some u:=(aG hB)
   obtain ⟨M,eM⟩ : ∃ m,m = (upd M0 s (sto t1.2)):=⟨_,rfl⟩
   rw [← eM] at ok hs hB
   clear eM
   refine aV ?_
   obtain ⟨t17,e_t17,hm⟩:=bs hm
   obtain ⟨t18,e_t18,hm⟩:=bs hm
   obtain ⟨t19,e_t19,hm⟩:=bs hm
   refine gL (σ':=fun v w=>[some (.ref s),some (.int a),some v_Z13,none,some w,some v,none,none]) (bh (ab (K:=K)) (aL (a:=(6 : Int)) (r:=t17.1) (z':=t17.2) hs e_t17 (ea_cons bo (aq rfl) (ae (ab (K:=K)) ea_nil)))) aQ (br (e:=Dat.int) e_t19 (EvL.ev (el_lst (ag (ab (K:=K)) (ag (ab (K:=K)) (ag (ab (K:=K)) (ag (ab (K:=K)) (aC (K:=K)))))))) (aL (a:=(4 : Int)) (r:=t18.1) (z':=t18.2) upd_same e_t18 (ea_cons bo (aq rfl) (ae (ab (K:=K)) ea_nil)))) aQ ok (fun _ _=>rfl) (fun v_Z1p v_Z1a G H s1 ok h_Z1p h_Z1a=>?_)
   have sg:=sg.trans s1
   cases h_Z1p
   cases h_Z1a
   have ok : Ok _ (upd (upd M s (sto t17.2)) s (sto t18.2)) _:=ok
   have hs : (upd (upd M s (sto t17.2)) s (sto t18.2)) s = some (sto t18.2):=upd_same
   have hB : ∀ a u,a ≠ s→M0 a = some u→(upd (upd M s (sto t17.2)) s (sto t18.2)) a = some u:=(aG (aG hB))
   obtain ⟨M,eM⟩ : ∃ m,m = (upd (upd M s (sto t17.2)) s (sto t18.2)):=⟨_,rfl⟩
   rw [← eM] at ok hs hB
   clear eM
   obtain ⟨t20,e_t20,hm⟩:=bs hm
   refine bT (σ':=fun v=>[some (.ref s),some (.int a),some v_Z13,none,some (.int t19),some (.int ((1 : Int) + t17.1)),some v,none]) (br (e:=Dat.int) e_t20 (EvL.ev (el_lst (ag (ab (K:=K)) (ag (ab (K:=K)) (ag (ab (K:=K)) (ag (ab (K:=K)) (ag (ab (K:=K)) (ag (ab (K:=K)) (aC (K:=K)))))))))) (dE (eVd K (.int _)) (ab (K:=K)))) ok (fun _=>rfl) (fun v_Z1h G H s1 ok h_Z1h=>?_)
   have sg:=sg.trans s1
   cases h_Z1h
   obtain ⟨t21,e_t21,hm⟩:=bs hm
   refine bT (σ':=fun v=>[some (.ref s),some (.int a),some v_Z13,some v,some (.int t19),some (.int ((1 : Int) + t17.1)),some (.int t20),none]) (aL (a:=t20) (r:=t21.1) (z':=t21.2) hs e_t21 (ea_cons bo (aq rfl) (ae (eVd K (.int _)) ea_nil))) ok (fun _=>rfl) (fun v_Zl G H s1 ok h_Zl=>?_)
   have sg:=sg.trans s1
   cases h_Zl
   have ok : Ok _ (upd M s (sto t21.2)) _:=ok
   have hs : (upd M s (sto t21.2)) s = some (sto t21.2):=upd_same
   have hB : ∀ a u,a ≠ s→M0 a = some u→(upd M s (sto t21.2)) a = some u:=(aG hB)
   obtain ⟨M,eM⟩ : ∃ m,m = (upd M s (sto t21.2)):=⟨_,rfl⟩
   rw [← eM] at ok hs hB
   clear eM
   obtain ⟨t22,e_t22,hm⟩:=bs hm
   obtain ⟨t32,e_t32,hm⟩:=bs hm
   obtain ⟨t33,e_t33,hm⟩:=bs hm
   refine aM (EvL.ev (iO e_t33 (ae (EvL.ev (bj (ea:=Dat.int) (eb:=Dat.str) (xs:=t22) (ys:=t32) (hf:=e_t32) (aX e_t22 (ae (eVd K (.int _)) ea_nil)) (fun x23 _ Mx27 _ _ he28 sM26 sG25 hv24=>by (obtain ⟨t29,e_t29,he28⟩:=bs he28); (obtain ⟨t30,e_t30,he28⟩:=bs he28); (obtain ⟨t31,e_t31,he28⟩:=bs he28); (have he28:=Option.some.inj he28); subst he28; exact (ay ⟨rfl,(ai (res:=fun r=>DD K (Dat.str r)) (a:=(t30,((1 : Int) + t17.1))) e_t31 (ae (b0 e_t30 (bh (eVd K (.int _)) (cj e_t29 (eVd K (.int _)) (eVd K hv24))) (eVd K (.int _))) (ae (eVd K (.int _)) ea_nil)))⟩)))) ea_nil))) ok (fun v G H s1 ok hv=>?_)
   have sg:=sg.trans s1
   cases hm
   exact q v G H sg (ok.less (bU hB hs)) hv
theorem wY : FnScope ["_law_store","_law_mode","_law_size","_law_some"] ["_law_store","_law_mode","_law_size"] (defScope tO):=fsc
def C9 (K : Fg) (a : Int×Int) : List V→Hp→Prop:=ak (DD K (Dat.int a.1)) (ak (DD K (Dat.int a.2)) (az))
def tp (a : Int×Int) (z : Sto) : Option (Int×Sto):=
 (bR a.2 z).bind fun t1=>(bR (99 : Int) t1.2).bind fun t2=>(fc (2 : Int) a.2).bind fun t3=>(dL a.2 (2 : Int)).bind fun t4=>(bR (4 : Int) t2.2).bind fun t5=>(atI ([(0 : Int),a.2,t3,t4] : (List Int)) t5.1).bind fun t6=>(pU ([(1 : Int),((1 : Int) + t1.1),((1 : Int) + t2.1)] : (List Int)) t6).bind fun t7=>cond (decide (a.1 < (4 : Int))) ((atI t7 a.1).bind fun t8=>some (t8,t5.2)) ((atI t7 (1 : Int)).bind fun t9=>(bR (a.1 - (2 : Int)) t5.2).bind fun t10=>(fc t9 (if (decide (t10.1 = (0 : Int))) then 1 else 0 : Int)).bind fun t11=>some (t11,t10.2))
abbrev wx [Tb] (K : Fg) : Sp:=spD (C9 K) (tp) fun r=>DD K (Dat.int r)
theorem AE [Tb] (T : Txt K mg) (O_Y14 : FnA P w base CX0 1 T.w_Y14 (ee K)) : FnA P w base CX0 (2) T.w_Yi (wx K):=by
 refine T.w_Yi.F.ok wY (fun vs H Q E h=>?_) (fun cdv A outer s0 H vs Q E hr h=>?_)
 ·obtain ⟨G,M0,s,z,z1,a,r,ws,rfl,ok,hs,⟨v_Z1f,_,rfl,h_Z1f,v_Z1k,_,rfl,h_Z1k,rfl⟩,hm,q⟩:=h
  rfl
 ·obtain ⟨G,M0,s,z,z1,a,r,ws,rfl,ok,hs,⟨v_Z1f,_,rfl,h_Z1f,v_Z1k,_,rfl,h_Z1k,rfl⟩,hm,q⟩:=h
  unfold tp at hm
  have sg:=Same.refl G
  have hB : ∀ a u,a ≠ s→M0 a = some u→M0 a = some u:=fun _ _ _ h=>h
  refine ⟨_,(pss_cons (ps_set (i:=3) wY.nd rfl (.inl rfl) (pe_lst (pa_cons pe_int (pa_cons (pe_op op_add pe_int (pcW T.w_Y14 O_Y14 (hr.mono (by decide)) (pa_cons (pv 0) (pa_cons (pv 2) pa_nil)))) (pa_cons (pe_op op_add pe_int (pcW T.w_Y14 O_Y14 (hr.mono (by decide)) (pa_cons (pv 0) (pa_cons pe_int pa_nil)))) pa_nil))))) (pss_cons (ps_expr (pe_bm PySem.F.plainAttrs_list PySem.F.slot_list_append PySem.F.type_list_append mt_append (pv 3) (pa_cons (pe_ix (aH (K:=K)) (pe_lst (pa_cons pe_int (pa_cons (pv 2) (pa_cons (pe_op co pe_int (pv 2)) (pa_cons (pe_op dU (pv 2) pe_int) pa_nil))))) (pcW T.w_Y14 O_Y14 (hr.mono (by decide)) (pa_cons (pv 0) (pa_cons pe_int pa_nil))) (fun _ _=>rfl)) pa_nil))) (pss_cons (ps_if (pt_cmpR op_lt (pv 1) pe_int (nomark _)) (pss_cons (ps_ret (pe_ix (aH (K:=K)) (pv 3) (pv 1) (fun _ _=>rfl))) pss_nil) pss_nil) (pss_cons (ps_ret (pe_op co (pe_ix (aH (K:=K)) (pv 3) pe_int (fun _ _=>rfl)) (pe_callTy qS (by rfl) T.n_int (by decide +kernel) (pa_cons (pe_cmpR op_eq (pcW T.w_Y14 O_Y14 (hr.mono (by decide)) (pa_cons (pv 0) (pa_cons (pe_op op_sub (pv 1) pe_int) pa_nil))) pe_int (nomark _)) pa_nil)))) pss_nil)))),?_⟩
  cases h_Z1f
  cases h_Z1k
  refine nrm (σ':=[some (.ref s),some (.int a.1),some (.int a.2),none]) rfl ?_
  obtain ⟨t1,e_t1,hm⟩:=bs hm
  obtain ⟨t2,e_t2,hm⟩:=bs hm
  refine q_setL (σ':=fun v=>[some (.ref s),some (.int a.1),some (.int a.2),some v]) (el_lst (ag (ab (K:=K)) (ag (bh (ab (K:=K)) (aL (a:=a.2) (r:=t1.1) (z':=t1.2) hs e_t1 (ea_cons bo (aq rfl) (ae (eVd K (.int _)) ea_nil)))) (ag (bh (ab (K:=K)) (aL (a:=(99 : Int)) (r:=t2.1) (z':=t2.2) upd_same e_t2 (ea_cons bo (aq rfl) (ae (ab (K:=K)) ea_nil)))) (aC (K:=K)))))) ok (fun _=>rfl) (fun p_Z1l vs_Z1l G H s1 ok hn hd_Z1l=>?_)
  have sg:=sg.trans s1
  have n_Zw_Z1l : s ≠ p_Z1l:=ne_of_none upd_same hn
  have n_Z1l_Zw:=n_Zw_Z1l.symm
  have h0_Z1l : M0 p_Z1l = none:=eV (M:=(upd (upd M0 s (sto t1.2)) s (sto t2.2))) (aG (aG hB)) upd_same hn
  have hd_Z1l : ap K G vs_Z1l (([(1 : Int),((1 : Int) + t1.1),((1 : Int) + t2.1)] : (List Int)).map Dat.int):=hd_Z1l
  have ok : Ok _ (upd (upd (upd M0 s (sto t1.2)) s (sto t2.2)) p_Z1l (.lst vs_Z1l)) _:=ok
  have hs : (upd (upd (upd M0 s (sto t1.2)) s (sto t2.2)) p_Z1l (.lst vs_Z1l)) s = some (sto t2.2):=(aZ n_Zw_Z1l upd_same)
  have hB : ∀ a u,a ≠ s→M0 a = some u→(upd (upd (upd M0 s (sto t1.2)) s (sto t2.2)) p_Z1l (.lst vs_Z1l)) a = some u:=(b8 (aG (aG hB)) h0_Z1l)
  have hp_Z1l : (upd (upd (upd M0 s (sto t1.2)) s (sto t2.2)) p_Z1l (.lst vs_Z1l)) p_Z1l = some (.lst vs_Z1l):=upd_same
  obtain ⟨M,eM⟩ : ∃ m,m = (upd (upd (upd M0 s (sto t1.2)) s (sto t2.2)) p_Z1l (.lst vs_Z1l)):=⟨_,rfl⟩
  rw [← eM] at ok hs hB hp_Z1l
  clear eM
  obtain ⟨t3,e_t3,hm⟩:=bs hm
  obtain ⟨t4,e_t4,hm⟩:=bs hm
  obtain ⟨t5,e_t5,hm⟩:=bs hm
  obtain ⟨t6,e_t6,hm⟩:=bs hm
  obtain ⟨t7,e_t7,hm⟩:=bs hm
  obtain ⟨hl_t7,ea_t7⟩:=gM e_t7
  refine fG (aq rfl) (ae (br (e:=Dat.int) e_t6 (EvL.ev (el_lst (ag (ab (K:=K)) (ag (eVd K (.int _)) (ag (cj e_t3 (ab (K:=K)) (eVd K (.int _))) (ag (eG e_t4 (eVd K (.int _)) (ab (K:=K))) (aC (K:=K)))))))) (aL (a:=(4 : Int)) (r:=t5.1) (z':=t5.2) hs e_t5 (ea_cons bo (aq rfl) (ae (ab (K:=K)) ea_nil)))) ea_nil) hp_Z1l (aZ n_Z1l_Zw hp_Z1l) (by rw [aw hd_Z1l,List.length_map]; exact vp hl_t7) ok (fun v G H s1 ok hv=>?_)
  have hd_Z1l:=aj s1 _ hd_Z1l
  have sg:=sg.trans s1
  have hd_Z1l : ap K G (vs_Z1l ++ [v]) (t7.map Dat.int):=by rw [ea_t7,List.map_append]; exact bJ hd_Z1l (.cons hv .nil)
  have ok : Ok _ (upd (upd M s (sto t5.2)) p_Z1l (.lst (vs_Z1l ++ [v]))) _:=ok
  have hs : (upd (upd M s (sto t5.2)) p_Z1l (.lst (vs_Z1l ++ [v]))) s = some (sto t5.2):=(aZ n_Zw_Z1l upd_same)
  have hB : ∀ a u,a ≠ s→M0 a = some u→(upd (upd M s (sto t5.2)) p_Z1l (.lst (vs_Z1l ++ [v]))) a = some u:=(b8 (aG hB) h0_Z1l)
  have hp_Z1l : (upd (upd M s (sto t5.2)) p_Z1l (.lst (vs_Z1l ++ [v]))) p_Z1l = some (.lst (vs_Z1l ++ [v])):=upd_same
  obtain ⟨M,eM⟩ : ∃ m,m = (upd (upd M s (sto t5.2)) p_Z1l (.lst (vs_Z1l ++ [v]))):=⟨_,rfl⟩
  rw [← eM] at ok hs hB hp_Z1l
  clear eM
  obtain ⟨vs_Z1l,e_vs⟩ : ∃ m,m = (vs_Z1l ++ [v]):=⟨_,rfl⟩
  rw [← e_vs] at hp_Z1l hd_Z1l
  clear e_vs
  refine q_if (et_test (uy (eVd K (.int _)) (ab (K:=K)))) ok (fun hb G H s1 ok=>?_) (fun hb G H s1 ok=>?_)
  ·have hm:=aK hb hm
   have hd_Z1l:=aj s1 _ hd_Z1l
   have sg:=sg.trans s1
   obtain ⟨t8,e_t8,hm⟩:=bs hm
   refine aM (oM (e:=Dat.int) e_t8 hp_Z1l hd_Z1l (aq rfl) (eVd K (.int _))) ok (fun v G H s1 ok hv=>?_)
   have sg:=sg.trans s1
   cases hm
   exact q v G H sg (ok.less (bU hB hs)) hv
  ·have hm:=aJ hb hm
   have hd_Z1l:=aj s1 _ hd_Z1l
   have sg:=sg.trans s1
   refine aV ?_
   obtain ⟨t9,e_t9,hm⟩:=bs hm
   obtain ⟨t10,e_t10,hm⟩:=bs hm
   obtain ⟨t11,e_t11,hm⟩:=bs hm
   refine aM (cj e_t11 (oM (e:=Dat.int) e_t9 hp_Z1l hd_Z1l (aq rfl) (ab (K:=K))) (oQ (ae (nW (aL (a:=(a.1 - (2 : Int))) (r:=t10.1) (z':=t10.2) hs e_t10 (ea_cons bo (aq rfl) (ae (dE (eVd K (.int _)) (ab (K:=K))) ea_nil))) (ab (K:=K))) ea_nil))) ok (fun v G H s1 ok hv=>?_)
   have sg:=sg.trans s1
   have ok : Ok _ (upd M s (sto t10.2)) _:=ok
   have hs : (upd M s (sto t10.2)) s = some (sto t10.2):=upd_same
   have hB : ∀ a u,a ≠ s→M0 a = some u→(upd M s (sto t10.2)) a = some u:=(aG hB)
   have hp_Z1l : (upd M s (sto t10.2)) p_Z1l = some (.lst vs_Z1l):=(aZ n_Z1l_Zw hp_Z1l)
   obtain ⟨M,eM⟩ : ∃ m,m = (upd M s (sto t10.2)):=⟨_,rfl⟩
   rw [← eM] at ok hs hB hp_Z1l
   clear eM
   cases hm
   exact q v G H sg (ok.less (bU hB hs)) hv
theorem cp : FnScope ["_law_store","_law_upto","_law_most","_law_calls_here","_law_alike","_law_same","_law_mode","_law_sizes","_law_found","_law_call","_law_k","_law_figure_here"] ["_law_store","_law_upto","_law_most"] (defScope iC):=fsc
def BJ (K : Fg) (a : Int×Int) : List V→Hp→Prop:=ak (DD K (Dat.int a.1)) (ak (DD K (Dat.int a.2)) (az))
def iT (a : Int×Int) (z : Sto) : Option (Qk×Sto):=
 (bR a.1 z).bind fun t1=>(rj ((1 : Int) + t1.1) t1.2).bind fun t2=>(bR (a.2 - (1 : Int)) t2.2).bind fun t3=>(bR (4 : Int) t3.2).bind fun t4=>(bR (6 : Int) t4.2).bind fun t5=>(lcS (fun (x6 : Str) (x6z : Sto)=>(cond (decide (t4.1 = (0 : Int))) (some (((2 : Int) + t3.1),x6z)) ((bR (a.2 - (1 : Int)) x6z).bind fun t12=>some (((2 : Int) + t12.1),t12.2))).bind fun t13=>some (t13.1,t13.2)) t2.1 t5.2).bind fun t14=>(cC (fun (st16 : (List (Str×Str×Int))×Sto) (x17 : Str)=>(cE (t2.1.length : Int)).bind fun t22=>(cC (fun (st24 : (List (Str×Str×Int))×Sto) (x25 : Int)=>(atI t14.1 x25).bind fun t30=>(tp (t5.1,t30) st24.2).bind fun t31=>(atI t2.1 x25).bind fun t32=>cond ((!decide (t32 = x17)) && (decide ((0 : Int) < t31.1))) ((atI t2.1 x25).bind fun t33=>(pU st24.1 (x17,t33,t31.1)).bind fun t34=>some (t34,t31.2)) (some (st24.1,t31.2))) t22 (st16.1,st16.2)).bind fun fin23=>some (fin23.1,fin23.2)) t2.1 (([] : (List (Str×Str×Int))),t14.2)).bind fun fin15=>(cE (t2.1.length : Int)).bind fun t35=>(lcO (fun x36 : Int=>(atI t2.1 x36).bind fun t42=>(atI t14.1 x36).bind fun t43=>some (t42,t43)) t35).bind fun t44=>some ((t44,fin15.1),fin15.2)
abbrev tN [Tb] (K : Fg) : Sp:=spD (BJ K) (iT) fun r=>DD K ((eP2 (eT (eP2 Dat.str Dat.int)) (eT (eP3 Dat.str Dat.str Dat.int))) r)
theorem xB [Tb] (T : Txt K mg) (O_Yp : FnA P w base CX0 2 T.w_Yp (wO K)) (O_Y14 : FnA P w base CX0 1 T.w_Y14 (ee K)) (O_Yi : FnA P w base CX0 2 T.w_Yi (wx K)) : FnA P w base CX0 (3) T.w_Y1c (tN K):=by
 refine T.w_Y1c.F.ok cp (fun vs H Q E h=>?_) (fun cdv A outer s0 H vs Q E hr h=>?_)
 ·obtain ⟨G,M0,s,z,z1,a,r,ws,rfl,ok,hs,⟨v_Z1o,_,rfl,h_Z1o,v_Z1h,_,rfl,h_Z1h,rfl⟩,hm,q⟩:=h
  rfl
 ·obtain ⟨G,M0,s,z,z1,a,r,ws,rfl,ok,hs,⟨v_Z1o,_,rfl,h_Z1o,v_Z1h,_,rfl,h_Z1h,rfl⟩,hm,q⟩:=h
  unfold iT at hm
  have sg:=Same.refl G
  have hB : ∀ a u,a ≠ s→M0 a = some u→M0 a = some u:=fun _ _ _ h=>h
  refine ⟨_,(pss_cons (ps_asg (pe_tup (pa_cons (pcW T.w_Yp O_Yp (hr.mono (by decide)) (pa_cons (pv 0) (pa_cons (pe_op op_add pe_int (pcW T.w_Y14 O_Y14 (hr.mono (by decide)) (pa_cons (pv 0) (pa_cons (pv 1) pa_nil)))) pa_nil))) (pa_cons (pe_op op_add pe_int (pcW T.w_Y14 O_Y14 (hr.mono (by decide)) (pa_cons (pv 0) (pa_cons (pe_op op_sub (pv 2) pe_int) pa_nil)))) pa_nil))) (pg_tup rfl (pgs_cons (pg_name (i:=3) cp.nd rfl (.inr rfl)) (pgs_cons (pg_name (i:=4) cp.nd rfl (.inr rfl)) pgs_nil)))) (pss_cons (ps_asg (pe_tup (pa_cons (pe_cmpR op_eq (pcW T.w_Y14 O_Y14 (hr.mono (by decide)) (pa_cons (pv 0) (pa_cons pe_int pa_nil))) pe_int (nomark _)) (pa_cons (pcW T.w_Y14 O_Y14 (hr.mono (by decide)) (pa_cons (pv 0) (pa_cons pe_int pa_nil))) pa_nil))) (pg_tup rfl (pgs_cons (pg_name (i:=5) cp.nd rfl (.inr rfl)) (pgs_cons (pg_name (i:=6) cp.nd rfl (.inl rfl)) pgs_nil)))) (pss_cons (ps_set (i:=7) cp.nd rfl (.inr rfl) (pe_lc (own:=[("_law_call",9)]) (g:=(gName 9)) (tt:=tYes) rfl cp.nd (cR (K:=K) (pv 3)) (blkOk_by (own:=[("_law_call",9)]) (N:=["_law_store","_law_upto","_law_most","_law_calls_here","_law_alike","_law_same","_law_mode","_law_sizes","_law_found","_law_call","_law_k","_law_figure_here"]) (sc:=defScope iC) (by decide +kernel)) (fun _ _ _ _ _=>(pg_name (i:=9) cp.nd rfl (by first | exact .inl rfl | exact .inr rfl))) (fun _ _ _ _ _=>pts_nil) (fun _ _ _ _ _=>(pe_ifExp (pt_val (pv 5)) (pv 4) (pe_op op_add pe_int (pcW T.w_Y14 O_Y14 (hr.mono (by decide)) (pa_cons (pv 0) (pa_cons (pe_op op_sub (pv 2) pe_int) pa_nil)))))))) (pss_cons (ps_set (i:=8) cp.nd rfl (.inl rfl) (pe_lst pa_nil)) (pss_cons (ps_for PassesOwn.never rfl (cR (K:=K) (pv 3)) (pg_name (i:=9) cp.nd rfl (.inl rfl)) (pss_cons (ps_for PassesOwn.never rfl (pi_range1 (by rfl) T.n_range (pa_cons (pe_callB (aR (K:=K)) (by rfl) T.n_len (by decide +kernel) (pa_cons (pv 3) pa_nil)) pa_nil)) (pg_name (i:=10) cp.nd rfl (.inl rfl)) (pss_cons (ps_set (i:=11) cp.nd rfl (.inl rfl) (pcW T.w_Yi O_Yi (hr.mono (by decide)) (pa_cons (pv 0) (pa_cons (pv 6) (pa_cons (pe_ix (aH (K:=K)) (pv 7) (pv 10) (fun _ _=>rfl)) pa_nil))))) (pss_cons (ps_if (PW.pt (pw_and (pt_cmpR op_ne (pe_ix (aH (K:=K)) (pv 3) (pv 10) (fun _ _=>rfl)) (pv 9) (nomark _)) (pw_and1 (pt_cmpR op_gt (pv 11) pe_int (nomark _))))) (pss_cons (ps_expr (pe_bm PySem.F.plainAttrs_list PySem.F.slot_list_append PySem.F.type_list_append mt_append (pv 8) (pa_cons (bE (pa_cons (pv 9) (pa_cons (pe_ix (aH (K:=K)) (pv 3) (pv 10) (fun _ _=>rfl)) (pa_cons (pv 11) pa_nil)))) pa_nil))) pss_nil) pss_nil) pss_nil))) pss_nil)) (pss_cons (ps_ret (bE (pa_cons (pe_callTy (bu (K:=K)) (by rfl) T.n_tuple (by decide +kernel) (pa_cons (pe_lc (own:=[("_law_k",10)]) (g:=(gName 10)) (tt:=tYes) rfl cp.nd (pi_range1 (by rfl) T.n_range (pa_cons (pe_callB (aR (K:=K)) (by rfl) T.n_len (by decide +kernel) (pa_cons (pv 3) pa_nil)) pa_nil)) (blkOk_by (own:=[("_law_k",10)]) (N:=["_law_store","_law_upto","_law_most","_law_calls_here","_law_alike","_law_same","_law_mode","_law_sizes","_law_found","_law_call","_law_k","_law_figure_here"]) (sc:=defScope iC) (by decide +kernel)) (fun _ _ _ _ _=>(pg_name (i:=10) cp.nd rfl (by first | exact .inl rfl | exact .inr rfl))) (fun _ _ _ _ _=>pts_nil) (fun _ _ _ _ _=>(bE (pa_cons (pe_ix (aH (K:=K)) (pv 3) (pv 10) (fun _ _=>rfl)) (pa_cons (pe_ix (aH (K:=K)) (pv 7) (pv 10) (fun _ _=>rfl)) pa_nil))))) pa_nil)) (pa_cons (pe_callTy (bu (K:=K)) (by rfl) T.n_tuple (by decide +kernel) (pa_cons (pv 8) pa_nil)) pa_nil)))) pss_nil)))))),?_⟩
  cases h_Z1o
  cases h_Z1h
  refine nrm (σ':=[some (.ref s),some (.int a.1),some (.int a.2),none,none,none,none,none,none,none,none,none]) rfl ?_
  obtain ⟨t1,e_t1,hm⟩:=bs hm
  obtain ⟨t2,e_t2,hm⟩:=bs hm
  obtain ⟨t3,e_t3,hm⟩:=bs hm
  refine gL (σ':=fun v w=>[some (.ref s),some (.int a.1),some (.int a.2),some v,some w,none,none,none,none,none,none,none]) (aL (a:=((1 : Int) + t1.1)) (r:=t2.1) (z':=t2.2) upd_same e_t2 (ea_cons bo (aq rfl) (ae (bh (ab (K:=K)) (aL (a:=a.1) (r:=t1.1) (z':=t1.2) hs e_t1 (ea_cons bo (aq rfl) (ae (eVd K (.int _)) ea_nil)))) ea_nil))) aQ (bh (ab (K:=K)) (aL (a:=(a.2 - (1 : Int))) (r:=t3.1) (z':=t3.2) upd_same e_t3 (ea_cons bo (aq rfl) (ae (dE (eVd K (.int _)) (ab (K:=K))) ea_nil)))) aQ ok (fun _ _=>rfl) (fun v_Z3 v_Zi G H s1 ok h_Z3 h_Zi=>?_)
  have sg:=sg.trans s1
  cases h_Zi
  have ok : Ok _ (upd (upd (upd M0 s (sto t1.2)) s (sto t2.2)) s (sto t3.2)) _:=ok
  have hs : (upd (upd (upd M0 s (sto t1.2)) s (sto t2.2)) s (sto t3.2)) s = some (sto t3.2):=upd_same
  have hB : ∀ a u,a ≠ s→M0 a = some u→(upd (upd (upd M0 s (sto t1.2)) s (sto t2.2)) s (sto t3.2)) a = some u:=(aG (aG (aG hB)))
  obtain ⟨M,eM⟩ : ∃ m,m = (upd (upd (upd M0 s (sto t1.2)) s (sto t2.2)) s (sto t3.2)):=⟨_,rfl⟩
  rw [← eM] at ok hs hB
  clear eM
  obtain ⟨t4,e_t4,hm⟩:=bs hm
  obtain ⟨t5,e_t5,hm⟩:=bs hm
  refine gL (σ':=fun v w=>[some (.ref s),some (.int a.1),some (.int a.2),some v_Z3,some (.int ((2 : Int) + t3.1)),some v,some w,none,none,none,none,none]) (nW (aL (a:=(4 : Int)) (r:=t4.1) (z':=t4.2) hs e_t4 (ea_cons bo (aq rfl) (ae (ab (K:=K)) ea_nil))) (ab (K:=K))) aQ (aL (a:=(6 : Int)) (r:=t5.1) (z':=t5.2) upd_same e_t5 (ea_cons bo (aq rfl) (ae (ab (K:=K)) ea_nil))) aQ ok (fun _ _=>rfl) (fun v_Z1j v_Z1f G H s1 ok h_Z1j h_Z1f=>?_)
  have h_Z3:=aa s1 _ h_Z3
  have sg:=sg.trans s1
  cases h_Z1j
  cases h_Z1f
  have ok : Ok _ (upd (upd M s (sto t4.2)) s (sto t5.2)) _:=ok
  have hs : (upd (upd M s (sto t4.2)) s (sto t5.2)) s = some (sto t5.2):=upd_same
  have hB : ∀ a u,a ≠ s→M0 a = some u→(upd (upd M s (sto t4.2)) s (sto t5.2)) a = some u:=(aG (aG hB))
  obtain ⟨M,eM⟩ : ∃ m,m = (upd (upd M s (sto t4.2)) s (sto t5.2)):=⟨_,rfl⟩
  rw [← eM] at ok hs hB
  clear eM
  obtain ⟨t14,e_t14,hm⟩:=bs hm
  refine bT (σ':=fun v=>[some (.ref s),some (.int a.1),some (.int a.2),some v_Z3,some (.int ((2 : Int) + t3.1)),some (.bl (decide (t4.1 = (0 : Int)))),some (.int t5.1),some v,none,none,none,none]) (EvL.ev (kg (ea:=Dat.str) (eb:=Dat.int) (xs:=t2.1) (r:=t14) (hf:=e_t14) (src_list (eVd K h_Z3)) hs (fun x6 _ x6z _ Mx10 _ _ he11 sM9 hzx6 sG8 hv7=>by (obtain ⟨t13,e_t13,he11⟩:=bs he11); cases he11; exact (ay ⟨rfl,(ev_if (P:=DD K (Dat.int t13.1)) (et_B (eVd K (.bl _))) (fun eb=>by have e1:=aK eb e_t13; cases e1; rw [lh hzx6]; exact (eVd K (.int _))) (fun eb=>by have e1:=aJ eb e_t13; (obtain ⟨t12,e_t12,e1⟩:=bs e1); cases e1; exact (bh (ab (K:=K)) (aL (a:=(a.2 - (1 : Int))) (r:=t12.1) (z':=t12.2) hzx6 e_t12 (ea_cons bo (aq rfl) (ae (dE (eVd K (.int _)) (ab (K:=K))) ea_nil))))))⟩)))) ok (fun _=>rfl) (fun v_Zs G H s1 ok h_Zs=>?_)
  have h_Z3:=aa s1 _ h_Z3
  have sg:=sg.trans s1
  have ok : Ok _ (upd M s (sto t14.2)) _:=ok
  have hs : (upd M s (sto t14.2)) s = some (sto t14.2):=upd_same
  have hB : ∀ a u,a ≠ s→M0 a = some u→(upd M s (sto t14.2)) a = some u:=(aG hB)
  obtain ⟨M,eM⟩ : ∃ m,m = (upd M s (sto t14.2)):=⟨_,rfl⟩
  rw [← eM] at ok hs hB
  clear eM
  refine q_setL (σ':=fun v=>[some (.ref s),some (.int a.1),some (.int a.2),some v_Z3,some (.int ((2 : Int) + t3.1)),some (.bl (decide (t4.1 = (0 : Int)))),some (.int t5.1),some v_Zs,some v,none,none,none]) (el_lst (aC (K:=K))) ok (fun _=>rfl) (fun p_Zm vs_Zm G H s1 ok hn hd_Zm=>?_)
  have h_Z3:=aa s1 _ h_Z3
  have h_Zs:=aa s1 _ h_Zs
  have sg:=sg.trans s1
  have n_Zw_Zm : s ≠ p_Zm:=ne_of_none hs hn
  have n_Zm_Zw:=n_Zw_Zm.symm
  have h0_Zm : M0 p_Zm = none:=eV (M:=M) hB hs hn
  have hd_Zm : ap K G vs_Zm (([] : (List (Str×Str×Int))).map (eP3 Dat.str Dat.str Dat.int)):=hd_Zm
  have ok : Ok _ (upd M p_Zm (.lst vs_Zm)) _:=ok
  have hs : (upd M p_Zm (.lst vs_Zm)) s = some (sto t14.2):=(aZ n_Zw_Zm hs)
  have hB : ∀ a u,a ≠ s→M0 a = some u→(upd M p_Zm (.lst vs_Zm)) a = some u:=(b8 hB h0_Zm)
  have hp_Zm : (upd M p_Zm (.lst vs_Zm)) p_Zm = some (.lst vs_Zm):=upd_same
  obtain ⟨M,eM⟩ : ∃ m,m = (upd M p_Zm (.lst vs_Zm)):=⟨_,rfl⟩
  rw [← eM] at ok hs hB hp_Zm
  clear eM
  obtain ⟨fin15,e_fin15,hm⟩:=bs hm
  refine bP (ea:=Dat.str) (src_list (eVd K h_Z3)) ok (fun (st16 : (List (Str×Str×Int))×Sto) σ1 G1 M1=>∃ (y_Z1w : Option V) (y_Z2 : Option V) (y_Z15 : Option V) (vs_Zm : List V),σ1 = [some (.ref s),some (.int a.1),some (.int a.2),some v_Z3,some (.int ((2 : Int) + t3.1)),some (.bl (decide (t4.1 = (0 : Int)))),some (.int t5.1),some v_Zs,some (.ref p_Zm),y_Z15,y_Z1w,y_Z2]∧(ap K G1 vs_Zm (st16.1.map (eP3 Dat.str Dat.str Dat.int)))∧(M1 p_Zm = some (.lst vs_Zm))∧(M1 s = some (sto st16.2))∧(∀ a u,a ≠ s→M0 a = some u→M1 a = some u)) e_fin15 (fun G1 s1=>⟨_,_,_,_,rfl,aj s1 _ hd_Zm,hp_Zm,hs,hB⟩) (by rintro _ _ _ _ _ ⟨y_Z1w,y_Z2,y_Z15,vs_Zm,rfl,hd_Zm,hp_Zm,hs,hB⟩ s2; exact ⟨_,_,_,_,rfl,aj s2 _ hd_Zm,hp_Zm,hs,hB⟩) (fun x17 xv20 st16 st' σ1 G M H N hm hj s1 ok hv hN=>?_) (fun σ1 G M H s1 ok hj=>?_)
  ·obtain ⟨y_Z1w,y_Z2,y_Z15,vs_Zm,rfl,hd_Zm,hp_Zm,hs,hB⟩:=hj
   have h_Z3:=aa s1 _ h_Z3
   have h_Zs:=aa s1 _ h_Zs
   have sl21:=Same.refl G
   refine gn ?_
   have h_Z15:=hv
   refine nrm (σ':=[some (.ref s),some (.int a.1),some (.int a.2),some v_Z3,some (.int ((2 : Int) + t3.1)),some (.bl (decide (t4.1 = (0 : Int)))),some (.int t5.1),some v_Zs,some (.ref p_Zm),some xv20,y_Z1w,y_Z2]) rfl ?_
   obtain ⟨t22,e_t22,hm⟩:=bs hm
   obtain ⟨fin23,e_fin23,hm⟩:=bs hm
   refine bP (ea:=Dat.int) (aX e_t22 (ae (du (e:=Dat.str) (ae (eVd K h_Z3) ea_nil)) ea_nil)) ok (fun (st24 : (List (Str×Str×Int))×Sto) σ1 G1 M1=>∃ (y_Z2 : Option V) (y_Z1w : Option V) (vs_Zm : List V),σ1 = [some (.ref s),some (.int a.1),some (.int a.2),some v_Z3,some (.int ((2 : Int) + t3.1)),some (.bl (decide (t4.1 = (0 : Int)))),some (.int t5.1),some v_Zs,some (.ref p_Zm),some xv20,y_Z1w,y_Z2]∧(ap K G1 vs_Zm (st24.1.map (eP3 Dat.str Dat.str Dat.int)))∧(M1 p_Zm = some (.lst vs_Zm))∧(M1 s = some (sto st24.2))∧(∀ a u,a ≠ s→M0 a = some u→M1 a = some u)) e_fin23 (fun G1 s1=>⟨_,_,_,rfl,aj s1 _ hd_Zm,hp_Zm,hs,hB⟩) (by rintro _ _ _ _ _ ⟨y_Z2,y_Z1w,vs_Zm,rfl,hd_Zm,hp_Zm,hs,hB⟩ s2; exact ⟨_,_,_,rfl,aj s2 _ hd_Zm,hp_Zm,hs,hB⟩) (fun x25 xv28 st24 st' σ1 G M H N hm hj s1 ok hv hN=>?_) (fun σ1 G M H s1 ok hj=>?_)
   ·obtain ⟨y_Z2,y_Z1w,vs_Zm,rfl,hd_Zm,hp_Zm,hs,hB⟩:=hj
    have h_Z3:=aa s1 _ h_Z3
    have h_Zs:=aa s1 _ h_Zs
    have h_Z15:=aa s1 _ h_Z15
    have sl29:=Same.refl G
    refine gn ?_
    have h_Z1w:=hv
    cases h_Z1w
    refine nrm (σ':=[some (.ref s),some (.int a.1),some (.int a.2),some v_Z3,some (.int ((2 : Int) + t3.1)),some (.bl (decide (t4.1 = (0 : Int)))),some (.int t5.1),some v_Zs,some (.ref p_Zm),some xv20,some (.int x25),y_Z2]) rfl ?_
    obtain ⟨t30,e_t30,hm⟩:=bs hm
    obtain ⟨t31,e_t31,hm⟩:=bs hm
    refine bT (σ':=fun v=>[some (.ref s),some (.int a.1),some (.int a.2),some v_Z3,some (.int ((2 : Int) + t3.1)),some (.bl (decide (t4.1 = (0 : Int)))),some (.int t5.1),some v_Zs,some (.ref p_Zm),some xv20,some (.int x25),some v]) (aL (a:=(t5.1,t30)) (r:=t31.1) (z':=t31.2) hs e_t31 (ea_cons bo (aq rfl) (ae (eVd K (.int _)) (ae (br (e:=Dat.int) e_t30 (eVd K h_Zs) (eVd K (.int _))) ea_nil)))) ok (fun _=>rfl) (fun v_Z2 G H s1 ok h_Z2=>?_)
    have h_Z3:=aa s1 _ h_Z3
    have hd_Zm:=aj s1 _ hd_Zm
    have h_Z15:=aa s1 _ h_Z15
    have sl29:=sl29.trans s1
    cases h_Z2
    have ok : Ok _ (upd M s (sto t31.2)) _:=ok
    have hs : (upd M s (sto t31.2)) s = some (sto t31.2):=upd_same
    have hB : ∀ a u,a ≠ s→M0 a = some u→(upd M s (sto t31.2)) a = some u:=(aG hB)
    have hp_Zm : (upd M s (sto t31.2)) p_Zm = some (.lst vs_Zm):=(aZ n_Zm_Zw hp_Zm)
    obtain ⟨M,eM⟩ : ∃ m,m = (upd M s (sto t31.2)):=⟨_,rfl⟩
    rw [← eM] at ok hs hB hp_Zm
    clear eM
    obtain ⟨t32,e_t32,hm⟩:=bs hm
    refine q_if (et_and (et_test (uj (br (e:=Dat.str) e_t32 (eVd K h_Z3) (eVd K (.int _))) (eVd K h_Z15))) fun _=>(et_test (gW (eVd K (.int _)) (ab (K:=K))))) ok (fun hb G H s1 ok=>?_) (fun hb G H s1 ok=>?_)
    ·have hm:=aK hb hm
     have h_Z3:=aa s1 _ h_Z3
     have hd_Zm:=aj s1 _ hd_Zm
     have h_Z15:=aa s1 _ h_Z15
     have sl29:=sl29.trans s1
     obtain ⟨t33,e_t33,hm⟩:=bs hm
     obtain ⟨t34,e_t34,hm⟩:=bs hm
     obtain ⟨hl_t34,ea_t34⟩:=gM e_t34
     refine fG (aq rfl) (ae (bV (ag (eVd K h_Z15) (ag (br (e:=Dat.str) e_t33 (eVd K h_Z3) (eVd K (.int _))) (ag (eVd K (.int _)) (aC (K:=K)))))) ea_nil) hp_Zm hp_Zm (by rw [aw hd_Zm,List.length_map]; exact vp hl_t34) ok (fun v G H s1 ok hv=>?_)
     have hd_Zm:=aj s1 _ hd_Zm
     have sl29:=sl29.trans s1
     have hd_Zm : ap K G (vs_Zm ++ [v]) (t34.map (eP3 Dat.str Dat.str Dat.int)):=by rw [ea_t34,List.map_append]; exact bJ hd_Zm (.cons hv .nil)
     have ok : Ok _ (upd M p_Zm (.lst (vs_Zm ++ [v]))) _:=ok
     have hs : (upd M p_Zm (.lst (vs_Zm ++ [v]))) s = some (sto t31.2):=(aZ n_Zw_Zm hs)
     have hB : ∀ a u,a ≠ s→M0 a = some u→(upd M p_Zm (.lst (vs_Zm ++ [v]))) a = some u:=(b8 hB h0_Zm)
     have hp_Zm : (upd M p_Zm (.lst (vs_Zm ++ [v]))) p_Zm = some (.lst (vs_Zm ++ [v])):=upd_same
     obtain ⟨M,eM⟩ : ∃ m,m = (upd M p_Zm (.lst (vs_Zm ++ [v]))):=⟨_,rfl⟩
     rw [← eM] at ok hs hB hp_Zm
     clear eM
     obtain ⟨vs_Zm,e_vs⟩ : ∃ m,m = (vs_Zm ++ [v]):=⟨_,rfl⟩
     rw [← e_vs] at hp_Zm hd_Zm
     clear e_vs
     refine aV ?_
     refine bp ?_
     cases hm
     exact hN _ _ _ _ sl29 ok ⟨_,_,_,rfl,hd_Zm,hp_Zm,hs,hB⟩
    ·have hm:=aJ hb hm
     have hd_Zm:=aj s1 _ hd_Zm
     have sl29:=sl29.trans s1
     refine aV ?_
     refine bp ?_
     cases hm
     exact hN _ _ _ _ sl29 ok ⟨_,_,_,rfl,hd_Zm,hp_Zm,hs,hB⟩
   ·obtain ⟨y_Z2,y_Z1w,vs_Zm,rfl,hd_Zm,hp_Zm,hs,hB⟩:=hj
    have sl21:=sl21.trans s1
    refine bp ?_
    cases hm
    exact hN _ _ _ _ sl21 ok ⟨_,_,_,_,rfl,hd_Zm,hp_Zm,hs,hB⟩
  ·obtain ⟨y_Z1w,y_Z2,y_Z15,vs_Zm,rfl,hd_Zm,hp_Zm,hs,hB⟩:=hj
   have h_Z3:=aa s1 _ h_Z3
   have h_Zs:=aa s1 _ h_Zs
   have sg:=sg.trans s1
   obtain ⟨t35,e_t35,hm⟩:=bs hm
   obtain ⟨t44,e_t44,hm⟩:=bs hm
   refine aM (bV (ag (cx (ae (EvL.ev (bj (ea:=Dat.int) (eb:=(eP2 Dat.str Dat.int)) (xs:=t35) (ys:=t44) (hf:=e_t44) (aX e_t35 (ae (du (e:=Dat.str) (ae (eVd K h_Z3) ea_nil)) ea_nil)) (fun x36 _ Mx40 _ _ he41 sM39 sG38 hv37=>by (obtain ⟨t42,e_t42,he41⟩:=bs he41); (obtain ⟨t43,e_t43,he41⟩:=bs he41); cases he41; exact (ay ⟨rfl,(bV (ag (br (e:=Dat.str) e_t42 (eVd K (aa sG38 _ h_Z3)) (eVd K hv37)) (ag (br (e:=Dat.int) e_t43 (eVd K (aa sG38 _ h_Zs)) (eVd K hv37)) (aC (K:=K)))))⟩)))) ea_nil)) (ag (ki hp_Zm hd_Zm (ea_cons bo (aq rfl) ea_nil)) (aC (K:=K))))) ok (fun v G H s1 ok hv=>?_)
   have sg:=sg.trans s1
   cases hm
   exact q v G H sg (ok.less (bU hB hs)) hv
theorem lR : FnScope ["_law_kit_here","_law_call","_law_mate","_law_figure_here"] ["_law_kit_here"] (defScope pY):=fsc
def CO (K : Fg) (a : Qk) : List V→Hp→Prop:=ak (DD K ((eP2 (eT (eP2 Dat.str Dat.int)) (eT (eP3 Dat.str Dat.str Dat.int))) a)) (az)
def pQ (a : Qk) : Option (List ((Str×Str)×Int)):=
 (lcO (fun x1 : (Str×Str×Int)=>some ((x1.1,x1.2.1),x1.2.2)) a.2).bind fun t10=>(fq t10).bind fun t11=>some t11
abbrev wl [Tb] (K : Fg) : Sp:=spP (CO K) (pQ) fun r=>DD K ((eDP Dat.int) r)
theorem Au [Tb] (T : Txt K mg) : FnA P w base CX0 (1) T.w_Yv (wl K):=by
 refine T.w_Yv.F.ok lR (fun vs H Q E h=>?_) (fun cdv A outer s0 H vs Q E hr h=>?_)
 ·obtain ⟨G,M0,a,r,ok,⟨v_Z8,_,rfl,h_Z8,rfl⟩,hm,q⟩:=h
  rfl
 ·obtain ⟨G,M0,a,r,ok,⟨v_Z8,_,rfl,h_Z8,rfl⟩,hm,q⟩:=h
  unfold pQ at hm
  have sg:=Same.refl G
  have hB:=Same.refl M0
  refine ⟨_,(pss_cons (ps_ret (pe_callTy (qw (K:=K) hr.units rfl) (by rfl) T.n_dict (by decide +kernel) (pa_cons (pe_lc (own:=[("_law_call",1),("_law_mate",2),("_law_figure_here",3)]) (g:=(gTup K 3 (gCons (gName 1) (gCons (gName 2) (gCons (gName 3) gNil))))) (tt:=tYes) rfl lR.nd (bf (K:=K) (pe_ix (ah (K:=K)) (pv 0) pe_int (fun _ _=>rfl))) (blkOk_by (own:=[("_law_call",1),("_law_mate",2),("_law_figure_here",3)]) (N:=["_law_kit_here","_law_call","_law_mate","_law_figure_here"]) (sc:=defScope pY) (by decide +kernel)) (fun _ _ _ _ _=>(pg_tup rfl (pgs_cons (pg_name (i:=1) lR.nd rfl (by first | exact .inl rfl | exact .inr rfl)) (pgs_cons (pg_name (i:=2) lR.nd rfl (by first | exact .inl rfl | exact .inr rfl)) (pgs_cons (pg_name (i:=3) lR.nd rfl (by first | exact .inl rfl | exact .inr rfl)) pgs_nil))))) (fun _ _ _ _ _=>pts_nil) (fun _ _ _ _ _=>(bE (pa_cons (pe_tup (pa_cons (pv 1) (pa_cons (pv 2) pa_nil))) (pa_cons (pv 3) pa_nil))))) pa_nil))) pss_nil),?_⟩
  refine nrm (σ':=[some v_Z8,none,none,none]) rfl ?_
  obtain ⟨t10,e_t10,hm⟩:=bs hm
  obtain ⟨t11,e_t11,hm⟩:=bs hm
  refine aM (EvP.ev (sy (e:=Dat.int) e_t11 (ae (EvL.ev (bj (ea:=(eP3 Dat.str Dat.str Dat.int)) (eb:=(eP2 (eR2 Dat.str Dat.str) Dat.int)) (xs:=a.2) (ys:=t10) (hf:=e_t10) (be (au (d:=(eT (eP3 Dat.str Dat.str Dat.int)) a.2) rfl (eVd K h_Z8) ab)) (fun x1 _ Mx5 _ _ he6 sM4 sG3 hv2=>by cases he6; exact (wn hv2 fun _ _ _ h7 h8 h9=>(ay (ay (ay ⟨rfl,(bV (ag (c4 (ag (eVd K h7) (ag (eVd K h8) (aC (K:=K))))) (ag (eVd K h9) (aC (K:=K)))))⟩))))))) ea_nil))) ok (fun v G H s1 ok hv=>?_)
  have sg:=sg.trans s1
  cases hm
  exact q v G H sg (ok.less hB) hv
theorem iI : FnScope ["_law_store","_law_kit_here","_law_left","_law_found","_law_k","_law_bell"] ["_law_store","_law_kit_here"] (defScope jr):=fsc
def zS (K : Fg) (a : Qk) : List V→Hp→Prop:=ak (DD K ((eP2 (eT (eP2 Dat.str Dat.int)) (eT (eP3 Dat.str Dat.str Dat.int))) a)) (az)
def mN (a : Qk) (z : Sto) : Option ((List Str)×Sto):=
 (lcO (fun x1 : (Str×Int)=>some x1.1) a.1).bind fun t7=>(cE (a.1.length : Int)).bind fun t8=>(cC (fun (st10 : (List Str)×(List Str)×Sto) (x11 : Int)=>(bR (st10.1.length : Int) st10.2.2).bind fun t16=>(tj st10.1 t16.1).bind fun t17=>(pU st10.2.1 t17.1).bind fun t19=>some (t17.2,t19,t16.2)) t8 (t7,([] : (List Str)),z)).bind fun fin9=>some (fin9.2.1,fin9.2.2)
abbrev rS [Tb] (K : Fg) : Sp:=spD (zS K) (mN) fun r=>DD K ((eT Dat.str) r)
theorem xO [Tb] (T : Txt K mg) (O_Y14 : FnA P w base CX0 1 T.w_Y14 (ee K)) : FnA P w base CX0 (2) T.w_Y13 (rS K):=by
 refine T.w_Y13.F.ok iI (fun vs H Q E h=>?_) (fun cdv A outer s0 H vs Q E hr h=>?_)
 ·obtain ⟨G,M0,s,z,z1,a,r,ws,rfl,ok,hs,⟨v_Z8,_,rfl,h_Z8,rfl⟩,hm,q⟩:=h
  rfl
 ·obtain ⟨G,M0,s,z,z1,a,r,ws,rfl,ok,hs,⟨v_Z8,_,rfl,h_Z8,rfl⟩,hm,q⟩:=h
  unfold mN at hm
  have sg:=Same.refl G
  have hB : ∀ a u,a ≠ s→M0 a = some u→M0 a = some u:=fun _ _ _ h=>h
  refine ⟨_,(pss_cons (ps_par (i:=2) (j:=3) rfl iI.nd rfl rfl (by decide) rfl rfl (pa_cons (pe_lc (own:=[("_law_bell",5)]) (g:=(gName 5)) (tt:=tYes) rfl iI.nd (bf (K:=K) (pe_ix (ah (K:=K)) (pv 1) pe_int (fun _ _=>rfl))) (blkOk_by (own:=[("_law_bell",5)]) (N:=["_law_store","_law_kit_here","_law_left","_law_found","_law_k","_law_bell"]) (sc:=defScope jr) (by decide +kernel)) (fun _ _ _ _ _=>(pg_name (i:=5) iI.nd rfl (by first | exact .inl rfl | exact .inr rfl))) (fun _ _ _ _ _=>pts_nil) (fun _ _ _ _ _=>(pe_ix (ah (K:=K)) (pv 5) pe_int (fun _ _=>rfl)))) (pa_cons (pe_lst pa_nil) pa_nil)) (by rfl)) (pss_cons (ps_for PassesOwn.never rfl (pi_range1 (by rfl) T.n_range (pa_cons (pe_callB (aR (K:=K)) (by rfl) T.n_len (by decide +kernel) (pa_cons (pe_ix (ah (K:=K)) (pv 1) pe_int (fun _ _=>rfl)) pa_nil)) pa_nil)) (pg_name (i:=4) iI.nd rfl (.inl rfl)) (pss_cons (ps_expr (pe_bm PySem.F.plainAttrs_list PySem.F.slot_list_append PySem.F.type_list_append mt_append (pv 3) (pa_cons (pe_bm PySem.F.plainAttrs_list PySem.F.slot_list_pop PySem.F.type_list_pop mt_popAt (pv 2) (pa_cons (pcW T.w_Y14 O_Y14 (hr.mono (by decide)) (pa_cons (pv 0) (pa_cons (pe_callB (aR (K:=K)) (by rfl) T.n_len (by decide +kernel) (pa_cons (pv 2) pa_nil)) pa_nil))) pa_nil)) pa_nil))) pss_nil)) (pss_cons (ps_ret (pe_callTy (bu (K:=K)) (by rfl) T.n_tuple (by decide +kernel) (pa_cons (pv 3) pa_nil))) pss_nil))),?_⟩
  refine nrm (σ':=[some (.ref s),some v_Z8,none,none,none,none]) rfl ?_
  obtain ⟨t7,e_t7,hm⟩:=bs hm
  refine tU (BM (bj (ea:=(eP2 Dat.str Dat.int)) (eb:=Dat.str) (xs:=a.1) (ys:=t7) (hf:=e_t7) (be (au (d:=(eT (eP2 Dat.str Dat.int)) a.1) rfl (eVd K h_Z8) ab)) (fun x1 _ Mx5 _ _ he6 sM4 sG3 hv2=>by cases he6; exact (ay ⟨rfl,(au (d:=Dat.str x1.1) rfl (eVd K hv2) ab)⟩))) fun p_Z1b vs_Z1b hn_Z1b=>(BM (el_lst (aC (K:=K))) fun p_Zm vs_Zm hn_Zm=>j6)) ok (fun vs G Mq H s1 okN hx=>?_)
  obtain ⟨p_Z1b,vs_Z1b,_,rfl,hn_Z1b,hd_Z1b,p_Zm,vs_Zm,_,rfl,hn_Zm,hd_Zm,rfl,eMq⟩:=hx
  have eMq:=eMq.symm
  subst eMq
  have ok:=okN
  refine ⟨_,_,rfl,?_⟩
  have h_Z8:=aa s1 _ h_Z8
  have sg:=sg.trans s1
  have n_Zw_Z1b : s ≠ p_Z1b:=ne_of_none hs hn_Z1b
  have n_Z1b_Zw:=n_Zw_Z1b.symm
  have h0_Z1b : M0 p_Z1b = none:=eV (M:=M0) hB hs hn_Z1b
  have hd_Z1b : ap K G vs_Z1b (t7.map Dat.str):=hd_Z1b
  have n_Z1b_Zm : p_Z1b ≠ p_Zm:=ne_of_none upd_same hn_Zm
  have n_Zm_Z1b:=n_Z1b_Zm.symm
  have n_Zw_Zm : s ≠ p_Zm:=ne_of_none (aZ n_Zw_Z1b hs) hn_Zm
  have n_Zm_Zw:=n_Zw_Zm.symm
  have h0_Zm : M0 p_Zm = none:=eV (M:=(upd M0 p_Z1b (.lst vs_Z1b))) (b8 hB h0_Z1b) (aZ n_Zw_Z1b hs) hn_Zm
  have hd_Zm : ap K G vs_Zm (([] : (List Str)).map Dat.str):=hd_Zm
  refine nrm (σ':=[some (.ref s),some v_Z8,some (.ref p_Z1b),some (.ref p_Zm),none,none]) rfl ?_
  have ok : Ok _ (upd (upd M0 p_Z1b (.lst vs_Z1b)) p_Zm (.lst vs_Zm)) _:=ok
  have hs : (upd (upd M0 p_Z1b (.lst vs_Z1b)) p_Zm (.lst vs_Zm)) s = some (sto z):=(aZ n_Zw_Zm (aZ n_Zw_Z1b hs))
  have hB : ∀ a u,a ≠ s→M0 a = some u→(upd (upd M0 p_Z1b (.lst vs_Z1b)) p_Zm (.lst vs_Zm)) a = some u:=(b8 (b8 hB h0_Z1b) h0_Zm)
  have hp_Z1b : (upd (upd M0 p_Z1b (.lst vs_Z1b)) p_Zm (.lst vs_Zm)) p_Z1b = some (.lst vs_Z1b):=(aZ n_Z1b_Zm upd_same)
  have hp_Zm : (upd (upd M0 p_Z1b (.lst vs_Z1b)) p_Zm (.lst vs_Zm)) p_Zm = some (.lst vs_Zm):=upd_same
  obtain ⟨M,eM⟩ : ∃ m,m = (upd (upd M0 p_Z1b (.lst vs_Z1b)) p_Zm (.lst vs_Zm)):=⟨_,rfl⟩
  rw [← eM] at ok hs hB hp_Z1b hp_Zm
  clear eM
  obtain ⟨t8,e_t8,hm⟩:=bs hm
  obtain ⟨fin9,e_fin9,hm⟩:=bs hm
  refine bP (ea:=Dat.int) (aX e_t8 (ae (bG (e:=(eP2 Dat.str Dat.int)) (ae (au (d:=(eT (eP2 Dat.str Dat.int)) a.1) rfl (eVd K h_Z8) ab) ea_nil)) ea_nil)) ok (fun (st10 : (List Str)×(List Str)×Sto) σ1 G1 M1=>∃ (y_Z1w : Option V) (vs_Z1b : List V) (vs_Zm : List V),σ1 = [some (.ref s),some v_Z8,some (.ref p_Z1b),some (.ref p_Zm),y_Z1w,none]∧(ap K G1 vs_Z1b (st10.1.map Dat.str))∧(M1 p_Z1b = some (.lst vs_Z1b))∧(ap K G1 vs_Zm (st10.2.1.map Dat.str))∧(M1 p_Zm = some (.lst vs_Zm))∧(M1 s = some (sto st10.2.2))∧(∀ a u,a ≠ s→M0 a = some u→M1 a = some u)) e_fin9 (fun G1 s1=>⟨_,_,_,rfl,aj s1 _ hd_Z1b,hp_Z1b,aj s1 _ hd_Zm,hp_Zm,hs,hB⟩) (by rintro _ _ _ _ _ ⟨y_Z1w,vs_Z1b,vs_Zm,rfl,hd_Z1b,hp_Z1b,hd_Zm,hp_Zm,hs,hB⟩ s2; exact ⟨_,_,_,rfl,aj s2 _ hd_Z1b,hp_Z1b,aj s2 _ hd_Zm,hp_Zm,hs,hB⟩) (fun x11 xv14 st10 st' σ1 G M H N hm hj s1 ok hv hN=>?_) (fun σ1 G M H s1 ok hj=>?_)
  ·obtain ⟨y_Z1w,vs_Z1b,vs_Zm,rfl,hd_Z1b,hp_Z1b,hd_Zm,hp_Zm,hs,hB⟩:=hj
   have sl15:=Same.refl G
   refine gn ?_
   have h_Z1w:=hv
   cases h_Z1w
   refine nrm (σ':=[some (.ref s),some v_Z8,some (.ref p_Z1b),some (.ref p_Zm),some (.int x11),none]) rfl ?_
   obtain ⟨t16,e_t16,hm⟩:=bs hm
   obtain ⟨t17,e_t17,hm⟩:=bs hm
   obtain ⟨t19,e_t19,hm⟩:=bs hm
   obtain ⟨_,k18,hk_k18,_,ek_k18⟩:=oA e_t17
   have hd2_Z1b : ap K G (vs_Z1b.eraseIdx k18) (t17.2.map Dat.str):=by rw [ek_k18,map_erase]; exact gy _ hd_Z1b
   obtain ⟨hl_t19,ea_t19⟩:=gM e_t19
   refine fG (aq rfl) (ae (vk (e:=Dat.str) (xs:=st10.1) (vs:=vs_Z1b) e_t17 hk_k18 hp_Z1b (aZ n_Z1b_Zw hp_Z1b) hd_Z1b (aq rfl) (ae (aL (a:=(st10.1.length : Int)) (r:=t16.1) (z':=t16.2) hs e_t16 (ea_cons bo (aq rfl) (ae (qX (e:=Dat.str) hp_Z1b hd_Z1b (ea_cons bo (aq rfl) ea_nil)) ea_nil))) ea_nil)) ea_nil) hp_Zm (aZ n_Zm_Z1b (aZ n_Zm_Zw hp_Zm)) (by rw [aw hd_Zm,List.length_map]; exact vp hl_t19) ok (fun v G H s1 ok hv=>?_)
   have hd2_Z1b:=aj s1 _ hd2_Z1b
   have hd_Zm:=aj s1 _ hd_Zm
   have sl15:=sl15.trans s1
   have hd_Zm : ap K G (vs_Zm ++ [v]) (t19.map Dat.str):=by rw [ea_t19,List.map_append]; exact bJ hd_Zm (.cons hv .nil)
   have ok : Ok _ (upd (upd (upd M s (sto t16.2)) p_Z1b (.lst (vs_Z1b.eraseIdx k18))) p_Zm (.lst (vs_Zm ++ [v]))) _:=ok
   have hs : (upd (upd (upd M s (sto t16.2)) p_Z1b (.lst (vs_Z1b.eraseIdx k18))) p_Zm (.lst (vs_Zm ++ [v]))) s = some (sto t16.2):=(aZ n_Zw_Zm (aZ n_Zw_Z1b upd_same))
   have hB : ∀ a u,a ≠ s→M0 a = some u→(upd (upd (upd M s (sto t16.2)) p_Z1b (.lst (vs_Z1b.eraseIdx k18))) p_Zm (.lst (vs_Zm ++ [v]))) a = some u:=(b8 (b8 (aG hB) h0_Z1b) h0_Zm)
   have hp_Z1b : (upd (upd (upd M s (sto t16.2)) p_Z1b (.lst (vs_Z1b.eraseIdx k18))) p_Zm (.lst (vs_Zm ++ [v]))) p_Z1b = some (.lst (vs_Z1b.eraseIdx k18)):=(aZ n_Z1b_Zm upd_same)
   have hp_Zm : (upd (upd (upd M s (sto t16.2)) p_Z1b (.lst (vs_Z1b.eraseIdx k18))) p_Zm (.lst (vs_Zm ++ [v]))) p_Zm = some (.lst (vs_Zm ++ [v])):=upd_same
   obtain ⟨M,eM⟩ : ∃ m,m = (upd (upd (upd M s (sto t16.2)) p_Z1b (.lst (vs_Z1b.eraseIdx k18))) p_Zm (.lst (vs_Zm ++ [v]))):=⟨_,rfl⟩
   rw [← eM] at ok hs hB hp_Z1b hp_Zm
   clear eM
   have hd_Z1b:=hd2_Z1b
   obtain ⟨vs_Z1b,e_vs⟩ : ∃ m,m = (vs_Z1b.eraseIdx k18):=⟨_,rfl⟩
   rw [← e_vs] at hp_Z1b hd_Z1b
   clear e_vs
   obtain ⟨vs_Zm,e_vs⟩ : ∃ m,m = (vs_Zm ++ [v]):=⟨_,rfl⟩
   rw [← e_vs] at hp_Zm hd_Zm
   clear e_vs
   refine bp ?_
   cases hm
   exact hN _ _ _ _ sl15 ok ⟨_,_,_,rfl,hd_Z1b,hp_Z1b,hd_Zm,hp_Zm,hs,hB⟩
  ·obtain ⟨y_Z1w,vs_Z1b,vs_Zm,rfl,hd_Z1b,hp_Z1b,hd_Zm,hp_Zm,hs,hB⟩:=hj
   have sg:=sg.trans s1
   refine aM (ki hp_Zm hd_Zm (ea_cons bo (aq rfl) ea_nil)) ok (fun v G H s1 ok hv=>?_)
   have sg:=sg.trans s1
   cases hm
   exact q v G H sg (ok.less (bU hB hs)) hv
theorem oB : FnScope ["_law_store","_law_kit_here","_law_call","_law_size"] ["_law_store","_law_kit_here"] (defScope pW):=fsc
def CK (K : Fg) (a : Qk) : List V→Hp→Prop:=ak (DD K ((eP2 (eT (eP2 Dat.str Dat.int)) (eT (eP3 Dat.str Dat.str Dat.int))) a)) (az)
def pP (a : Qk) (z : Sto) : Option (Qs×Sto):=
 (mN a z).bind fun t1=>(lcS (fun (x2 : (Str×Int)) (x2z : Sto)=>(bR x2.2 x2z).bind fun t10=>some (t10.1,t10.2)) a.1 t1.2).bind fun t11=>some ((t1.1,t11.1),t11.2)
abbrev wm [Tb] (K : Fg) : Sp:=spD (CK K) (pP) fun r=>DD K ((eP2 (eT Dat.str) (eT Dat.int)) r)
theorem Bp [Tb] (T : Txt K mg) (O_Y13 : FnA P w base CX0 2 T.w_Y13 (rS K)) (O_Y14 : FnA P w base CX0 1 T.w_Y14 (ee K)) : FnA P w base CX0 (3) T.w_Yt (wm K):=by
 refine T.w_Yt.F.ok oB (fun vs H Q E h=>?_) (fun cdv A outer s0 H vs Q E hr h=>?_)
 ·obtain ⟨G,M0,s,z,z1,a,r,ws,rfl,ok,hs,⟨v_Z8,_,rfl,h_Z8,rfl⟩,hm,q⟩:=h
  rfl
 ·obtain ⟨G,M0,s,z,z1,a,r,ws,rfl,ok,hs,⟨v_Z8,_,rfl,h_Z8,rfl⟩,hm,q⟩:=h
  unfold pP at hm
  have sg:=Same.refl G
  have hB : ∀ a u,a ≠ s→M0 a = some u→M0 a = some u:=fun _ _ _ h=>h
  refine ⟨_,(pss_cons (ps_ret (bE (pa_cons (pcW T.w_Y13 O_Y13 (hr.mono (by decide)) (pa_cons (pv 0) (pa_cons (pv 1) pa_nil))) (pa_cons (pe_callTy (bu (K:=K)) (by rfl) T.n_tuple (by decide +kernel) (pa_cons (pe_lc (own:=[("_law_call",2),("_law_size",3)]) (g:=(gTup K 2 (gCons (gName 2) (gCons (gName 3) gNil)))) (tt:=tYes) rfl oB.nd (bf (K:=K) (pe_ix (ah (K:=K)) (pv 1) pe_int (fun _ _=>rfl))) (blkOk_by (own:=[("_law_call",2),("_law_size",3)]) (N:=["_law_store","_law_kit_here","_law_call","_law_size"]) (sc:=defScope pW) (by decide +kernel)) (fun _ _ _ _ _=>(pg_tup rfl (pgs_cons (pg_name (i:=2) oB.nd rfl (by first | exact .inl rfl | exact .inr rfl)) (pgs_cons (pg_name (i:=3) oB.nd rfl (by first | exact .inl rfl | exact .inr rfl)) pgs_nil)))) (fun _ _ _ _ _=>pts_nil) (fun _ _ _ _ _=>(pcW T.w_Y14 O_Y14 (hr.mono (by decide)) (pa_cons (pv 0) (pa_cons (pv 3) pa_nil))))) pa_nil)) pa_nil)))) pss_nil),?_⟩
  refine nrm (σ':=[some (.ref s),some v_Z8,none,none]) rfl ?_
  obtain ⟨t1,e_t1,hm⟩:=bs hm
  obtain ⟨t11,e_t11,hm⟩:=bs hm
  refine aM (bV (ag (aL (a:=a) (r:=t1.1) (z':=t1.2) hs e_t1 (ea_cons bo (aq rfl) (ae (eVd K h_Z8) ea_nil))) (ag (cx (ae (EvL.ev (kg (ea:=(eP2 Dat.str Dat.int)) (eb:=Dat.int) (xs:=a.1) (r:=t11) (hf:=e_t11) (be (au (d:=(eT (eP2 Dat.str Dat.int)) a.1) rfl (eVd K h_Z8) ab)) upd_same (fun x2 _ x2z _ Mx6 _ _ he7 sM5 hzx2 sG4 hv3=>by (obtain ⟨t10,e_t10,he7⟩:=bs he7); cases he7; exact (ua hv3 fun _ _ h8 h9=>(ay (ay ⟨rfl,(aL (a:=x2.2) (r:=t10.1) (z':=t10.2) hzx2 e_t10 (ea_cons bo (aq rfl) (ae (eVd K h9) ea_nil)))⟩)))))) ea_nil)) (aC (K:=K))))) ok (fun v G H s1 ok hv=>?_)
  have sg:=sg.trans s1
  have ok : Ok _ (upd (upd M0 s (sto t1.2)) s (sto t11.2)) _:=ok
  have hs : (upd (upd M0 s (sto t1.2)) s (sto t11.2)) s = some (sto t11.2):=upd_same
  have hB : ∀ a u,a ≠ s→M0 a = some u→(upd (upd M0 s (sto t1.2)) s (sto t11.2)) a = some u:=(aG (aG hB))
  obtain ⟨M,eM⟩ : ∃ m,m = (upd (upd M0 s (sto t1.2)) s (sto t11.2)):=⟨_,rfl⟩
  rw [← eM] at ok hs hB
  clear eM
  cases hm
  exact q v G H sg (ok.less (bU hB hs)) hv
theorem sD : FnScope ["_law_store","_law_kit_here","_law_many","_law_turn"] ["_law_store","_law_kit_here","_law_many"] (defScope pL):=fsc
def CW (K : Fg) (a : Qk×Int) : List V→Hp→Prop:=ak (DD K ((eP2 (eT (eP2 Dat.str Dat.int)) (eT (eP3 Dat.str Dat.str Dat.int))) a.1)) (ak (DD K (Dat.int a.2)) (az))
def qz (a : Qk×Int) (z : Sto) : Option ((List Str)×Sto):=
 (cE a.2).bind fun t1=>(lcS (fun (x2 : Int) (x2z : Sto)=>(bR (a.1.1.length : Int) x2z).bind fun t8=>(atI a.1.1 t8.1).bind fun t9=>some (t9.1,t8.2)) t1 z).bind fun t10=>some (t10.1,t10.2)
abbrev wq [Tb] (K : Fg) : Sp:=spD (CW K) (qz) fun r=>DD K ((eT Dat.str) r)
theorem AJ [Tb] (T : Txt K mg) (O_Y14 : FnA P w base CX0 1 T.w_Y14 (ee K)) : FnA P w base CX0 (2) T.w_Yf (wq K):=by
 refine T.w_Yf.F.ok sD (fun vs H Q E h=>?_) (fun cdv A outer s0 H vs Q E hr h=>?_)
 ·obtain ⟨G,M0,s,z,z1,a,r,ws,rfl,ok,hs,⟨v_Z8,_,rfl,h_Z8,v_Z1d,_,rfl,h_Z1d,rfl⟩,hm,q⟩:=h
  rfl
 ·obtain ⟨G,M0,s,z,z1,a,r,ws,rfl,ok,hs,⟨v_Z8,_,rfl,h_Z8,v_Z1d,_,rfl,h_Z1d,rfl⟩,hm,q⟩:=h
  unfold qz at hm
  have sg:=Same.refl G
  have hB : ∀ a u,a ≠ s→M0 a = some u→M0 a = some u:=fun _ _ _ h=>h
  refine ⟨_,(pss_cons (ps_ret (pe_callTy (bu (K:=K)) (by rfl) T.n_tuple (by decide +kernel) (pa_cons (pe_lc (own:=[("_law_turn",3)]) (g:=(gName 3)) (tt:=tYes) rfl sD.nd (pi_range1 (by rfl) T.n_range (pa_cons (pv 2) pa_nil)) (blkOk_by (own:=[("_law_turn",3)]) (N:=["_law_store","_law_kit_here","_law_many","_law_turn"]) (sc:=defScope pL) (by decide +kernel)) (fun _ _ _ _ _=>(pg_name (i:=3) sD.nd rfl (by first | exact .inl rfl | exact .inr rfl))) (fun _ _ _ _ _=>pts_nil) (fun _ _ _ _ _=>(pe_ix (ah (K:=K)) (pe_ix (ah (K:=K)) (pe_ix (ah (K:=K)) (pv 1) pe_int (fun _ _=>rfl)) (pcW T.w_Y14 O_Y14 (hr.mono (by decide)) (pa_cons (pv 0) (pa_cons (pe_callB (aR (K:=K)) (by rfl) T.n_len (by decide +kernel) (pa_cons (pe_ix (ah (K:=K)) (pv 1) pe_int (fun _ _=>rfl)) pa_nil)) pa_nil))) (fun _ _=>rfl)) pe_int (fun _ _=>rfl)))) pa_nil))) pss_nil),?_⟩
  cases h_Z1d
  refine nrm (σ':=[some (.ref s),some v_Z8,some (.int a.2),none]) rfl ?_
  obtain ⟨t1,e_t1,hm⟩:=bs hm
  obtain ⟨t10,e_t10,hm⟩:=bs hm
  refine aM (cx (ae (EvL.ev (kg (ea:=Dat.int) (eb:=Dat.str) (xs:=t1) (r:=t10) (hf:=e_t10) (aX e_t1 (ae (eVd K (.int _)) ea_nil)) hs (fun x2 _ x2z _ Mx6 _ _ he7 sM5 hzx2 sG4 hv3=>by (obtain ⟨t8,e_t8,he7⟩:=bs he7); (obtain ⟨t9,e_t9,he7⟩:=bs he7); cases he7; exact (ay ⟨rfl,(au (d:=Dat.str t9.1) rfl (ck (e:=(eP2 Dat.str Dat.int)) e_t9 (au (d:=(eT (eP2 Dat.str Dat.int)) a.1.1) rfl (eVd K (aa sG4 _ h_Z8)) ab) (aL (a:=(a.1.1.length : Int)) (r:=t8.1) (z':=t8.2) hzx2 e_t8 (ea_cons bo (aq rfl) (ae (bG (e:=(eP2 Dat.str Dat.int)) (ae (au (d:=(eT (eP2 Dat.str Dat.int)) a.1.1) rfl (eVd K (aa sG4 _ h_Z8)) ab) ea_nil)) ea_nil)))) ab)⟩)))) ea_nil)) ok (fun v G H s1 ok hv=>?_)
  have sg:=sg.trans s1
  have ok : Ok _ (upd M0 s (sto t10.2)) _:=ok
  have hs : (upd M0 s (sto t10.2)) s = some (sto t10.2):=upd_same
  have hB : ∀ a u,a ≠ s→M0 a = some u→(upd M0 s (sto t10.2)) a = some u:=(aG hB)
  obtain ⟨M,eM⟩ : ∃ m,m = (upd M0 s (sto t10.2)):=⟨_,rfl⟩
  rw [← eM] at ok hs hB
  clear eM
  cases hm
  exact q v G H sg (ok.less (bU hB hs)) hv
theorem eg : FnScope ["_law_kit_here","_law_calls_here","_law_found","_law_k","_law_bell","_law_mate"] ["_law_kit_here"] (defScope iM):=fsc
def zf (K : Fg) (a : Qk) : List V→Hp→Prop:=ak (DD K ((eP2 (eT (eP2 Dat.str Dat.int)) (eT (eP3 Dat.str Dat.str Dat.int))) a)) (az)
def jS (a : Qk) : Option (List (Str×Str)):=
 (lcO (fun x1 : (Str×Int)=>some x1.1) a.1).bind fun t7=>(cE (t7.length : Int)).bind fun t8=>(cC (fun (st10 : (List (Str×Str))) (x11 : Int)=>(lcO (fun x16 : Str=>(atI t7 x11).bind fun t22=>some (t22,x16)) (cut t7 (some (x11 + (1 : Int))) none)).bind fun t23=>(gH st10 t23).bind fun t24=>some t24) t8 ([] : (List (Str×Str)))).bind fun fin9=>some fin9
abbrev sV [Tb] (K : Fg) : Sp:=spP (zf K) (jS) fun r=>DD K ((eL (eP2 Dat.str Dat.str)) r)
theorem yg [Tb] (T : Txt K mg) : FnA P w base CX0 (1) T.w_Y15 (sV K):=by
 refine T.w_Y15.F.ok eg (fun vs H Q E h=>?_) (fun cdv A outer s0 H vs Q E hr h=>?_)
 ·obtain ⟨G,M0,a,r,ok,⟨v_Z8,_,rfl,h_Z8,rfl⟩,hm,q⟩:=h
  rfl
 ·obtain ⟨G,M0,a,r,ok,⟨v_Z8,_,rfl,h_Z8,rfl⟩,hm,q⟩:=h
  unfold jS at hm
  have sg:=Same.refl G
  have hB:=Same.refl M0
  refine ⟨_,(pss_cons (ps_asg (pe_tup (pa_cons (pe_lc (own:=[("_law_bell",4)]) (g:=(gName 4)) (tt:=tYes) rfl eg.nd (bf (K:=K) (pe_ix (ah (K:=K)) (pv 0) pe_int (fun _ _=>rfl))) (blkOk_by (own:=[("_law_bell",4)]) (N:=["_law_kit_here","_law_calls_here","_law_found","_law_k","_law_bell","_law_mate"]) (sc:=defScope iM) (by decide +kernel)) (fun _ _ _ _ _=>(pg_name (i:=4) eg.nd rfl (by first | exact .inl rfl | exact .inr rfl))) (fun _ _ _ _ _=>pts_nil) (fun _ _ _ _ _=>(pe_ix (ah (K:=K)) (pv 4) pe_int (fun _ _=>rfl)))) (pa_cons (pe_lst pa_nil) pa_nil))) (pg_tup rfl (pgs_cons (pg_name (i:=1) eg.nd rfl (.inr rfl)) (pgs_cons (pg_name (i:=2) eg.nd rfl (.inl rfl)) pgs_nil)))) (pss_cons (ps_for PassesOwn.never rfl (pi_range1 (by rfl) T.n_range (pa_cons (pe_callB (aR (K:=K)) (by rfl) T.n_len (by decide +kernel) (pa_cons (pv 1) pa_nil)) pa_nil)) (pg_name (i:=3) eg.nd rfl (.inr rfl)) (pss_cons (ps_expr (pe_bm PySem.F.plainAttrs_list PySem.F.slot_list_extend PySem.F.type_list_extend mt_extend (pv 2) (pa_cons (pe_lc (own:=[("_law_mate",5)]) (g:=(gName 5)) (tt:=tYes) rfl eg.nd (cR (K:=K) (pe_slice (sj (K:=K)) (pv 1) (po_some (pe_op op_add (pv 3) pe_int)) po_none)) (blkOk_by (own:=[("_law_mate",5)]) (N:=["_law_kit_here","_law_calls_here","_law_found","_law_k","_law_bell","_law_mate"]) (sc:=defScope iM) (by decide +kernel)) (fun _ _ _ _ _=>(pg_name (i:=5) eg.nd rfl (by first | exact .inl rfl | exact .inr rfl))) (fun _ _ _ _ _=>pts_nil) (fun _ _ _ _ _=>(bE (pa_cons (pe_ix (aH (K:=K)) (pv 1) (pv 3) (fun _ _=>rfl)) (pa_cons (pv 5) pa_nil))))) pa_nil))) pss_nil)) (pss_cons (ps_ret (pv 2)) pss_nil))),?_⟩
  refine nrm (σ':=[some v_Z8,none,none,none,none,none]) rfl ?_
  obtain ⟨t7,e_t7,hm⟩:=bs hm
  refine uT (σ':=fun v w=>[some v_Z8,some v,some w,none,none,none]) (EvL.ev (bj (ea:=(eP2 Dat.str Dat.int)) (eb:=Dat.str) (xs:=a.1) (ys:=t7) (hf:=e_t7) (be (au (d:=(eT (eP2 Dat.str Dat.int)) a.1) rfl (eVd K h_Z8) ab)) (fun x1 _ Mx5 _ _ he6 sM4 sG3 hv2=>by cases he6; exact (ay ⟨rfl,(au (d:=Dat.str x1.1) rfl (eVd K hv2) ab)⟩)))) aQ (el_lst (aC (K:=K))) ok (fun _ _=>rfl) (fun v_Z3 p_Zm vs_Zm G H s1 ok hn h_Z3 hd_Zm=>?_)
  have sg:=sg.trans s1
  have h0_Zm : M0 p_Zm = none:=dG (M:=M0) hB hn
  have hd_Zm : ap K G vs_Zm (([] : (List (Str×Str))).map (eP2 Dat.str Dat.str)):=hd_Zm
  have ok : Ok _ (upd M0 p_Zm (.lst vs_Zm)) _:=ok
  have hB : Same M0 (upd M0 p_Zm (.lst vs_Zm)):=(b9 hB h0_Zm)
  have hp_Zm : (upd M0 p_Zm (.lst vs_Zm)) p_Zm = some (.lst vs_Zm):=upd_same
  obtain ⟨M,eM⟩ : ∃ m,m = (upd M0 p_Zm (.lst vs_Zm)):=⟨_,rfl⟩
  rw [← eM] at ok hB hp_Zm
  clear eM
  obtain ⟨t8,e_t8,hm⟩:=bs hm
  obtain ⟨fin9,e_fin9,hm⟩:=bs hm
  refine bP (ea:=Dat.int) (aX e_t8 (ae (du (e:=Dat.str) (ae (eVd K h_Z3) ea_nil)) ea_nil)) ok (fun (st10 : (List (Str×Str))) σ1 G1 M1=>∃ (y_Z1w : Option V) (vs_Zm : List V),σ1 = [some v_Z8,some v_Z3,some (.ref p_Zm),y_Z1w,none,none]∧(ap K G1 vs_Zm (st10.map (eP2 Dat.str Dat.str)))∧(M1 p_Zm = some (.lst vs_Zm))∧(Same M0 M1)) e_fin9 (fun G1 s1=>⟨_,_,rfl,aj s1 _ hd_Zm,hp_Zm,hB⟩) (by rintro _ _ _ _ _ ⟨y_Z1w,vs_Zm,rfl,hd_Zm,hp_Zm,hB⟩ s2; exact ⟨_,_,rfl,aj s2 _ hd_Zm,hp_Zm,hB⟩) (fun x11 xv14 st10 st' σ1 G M H N hm hj s1 ok hv hN=>?_) (fun σ1 G M H s1 ok hj=>?_)
  ·obtain ⟨y_Z1w,vs_Zm,rfl,hd_Zm,hp_Zm,hB⟩:=hj
   have h_Z3:=aa s1 _ h_Z3
   have sl15:=Same.refl G
   refine gn ?_
   have h_Z1w:=hv
   cases h_Z1w
   refine nrm (σ':=[some v_Z8,some v_Z3,some (.ref p_Zm),some (.int x11),none,none]) rfl ?_
   obtain ⟨t23,e_t23,hm⟩:=bs hm
   obtain ⟨t24,e_t24,hm⟩:=bs hm
   obtain ⟨hl_t24,ea_t24⟩:=gP e_t24
   refine mw (aq rfl) (ae (EvL.ev (bj (ea:=Dat.str) (eb:=(eP2 Dat.str Dat.str)) (xs:=(cut t7 (some (x11 + (1 : Int))) none)) (ys:=t23) (hf:=e_t23) (src_list (EvL.ev (u9 (e:=Dat.str) (eVd K h_Z3) (eo_some (bh (eVd K (.int _)) (ab (K:=K)))) eo_none))) (fun x16 _ Mx20 _ _ he21 sM19 sG18 hv17=>by (obtain ⟨t22,e_t22,he21⟩:=bs he21); cases he21; exact (ay ⟨rfl,(bV (ag (br (e:=Dat.str) e_t22 (eVd K (aa sG18 _ h_Z3)) (eVd K (.int _))) (ag (eVd K hv17) (aC (K:=K)))))⟩)))) ea_nil) hp_Zm hp_Zm (by rw [aw hd_Zm,List.length_map,List.length_map]; exact szl hl_t24) ok (fun ws G H s1 ok hv=>?_)
   have hd_Zm:=aj s1 _ hd_Zm
   have sl15:=sl15.trans s1
   have hd_Zm : ap K G (vs_Zm ++ ws) (t24.map (eP2 Dat.str Dat.str)):=by rw [ea_t24,List.map_append]; exact bJ hd_Zm hv
   have ok : Ok _ (upd M p_Zm (.lst (vs_Zm ++ ws))) _:=ok
   have hB : Same M0 (upd M p_Zm (.lst (vs_Zm ++ ws))):=(b9 hB h0_Zm)
   have hp_Zm : (upd M p_Zm (.lst (vs_Zm ++ ws))) p_Zm = some (.lst (vs_Zm ++ ws)):=upd_same
   obtain ⟨M,eM⟩ : ∃ m,m = (upd M p_Zm (.lst (vs_Zm ++ ws))):=⟨_,rfl⟩
   rw [← eM] at ok hB hp_Zm
   clear eM
   obtain ⟨vs_Zm,e_vs⟩ : ∃ m,m = (vs_Zm ++ ws):=⟨_,rfl⟩
   rw [← e_vs] at hp_Zm hd_Zm
   clear e_vs
   refine bp ?_
   cases hm
   exact hN _ _ _ _ sl15 ok ⟨_,_,rfl,hd_Zm,hp_Zm,hB⟩
  ·obtain ⟨y_Z1w,vs_Zm,rfl,hd_Zm,hp_Zm,hB⟩:=hj
   have sg:=sg.trans s1
   refine aM (aq rfl) ok (fun v G H s1 ok hv=>?_)
   have sg:=sg.trans s1
   have hd_Zm:=aj s1 _ hd_Zm
   cases hv
   have gp : G p_Zm = none:=ok.d _ _ hp_Zm
   cases hm
   exact q _ (upd G p_Zm (.lst vs_Zm)) H (sg.trans (Same.new gp)) (ok.giveL hp_Zm h0_Zm hB) (.lst upd_same (aj (Same.new gp) _ hd_Zm))
theorem fI : FnScope ["_law_kit_here","_law_upto","_law_found","_law_edge","_law_turn","_law_longer","_law_strokes_here","_law_bell"] ["_law_kit_here","_law_upto"] (defScope pw):=fsc
def C7 (K : Fg) (a : Qk×Int) : List V→Hp→Prop:=ak (DD K ((eP2 (eT (eP2 Dat.str Dat.int)) (eT (eP3 Dat.str Dat.str Dat.int))) a.1)) (ak (DD K (Dat.int a.2)) (az))
def tJ (a : Qk×Int) : Option (List (List Str)):=
 (cE a.2).bind fun t1=>(cC (fun (st3 : (List (List Str))×(List (List Str))) (x4 : Int)=>(cC (fun (st10 : (List (List Str))) (x11 : (List Str))=>(lcO (fun x16 : (Str×Int)=>(gH x11 ([x16.1] : (List Str))).bind fun t22=>some t22) a.1.1).bind fun t23=>(gH st10 t23).bind fun t24=>some t24) st3.1 ([] : (List (List Str)))).bind fun fin9=>(gH st3.2 fin9).bind fun t25=>some (fin9,t25)) t1 (([([] : (List Str))] : (List (List Str))),([([] : (List Str))] : (List (List Str))))).bind fun fin2=>some fin2.2
abbrev ww [Tb] (K : Fg) : Sp:=spP (C7 K) (tJ) fun r=>DD K ((eL (eT Dat.str)) r)
theorem AN [Tb] (T : Txt K mg) : FnA P w base CX0 (1) T.w_Y4 (ww K):=by
 refine T.w_Y4.F.ok fI (fun vs H Q E h=>?_) (fun cdv A outer s0 H vs Q E hr h=>?_)
 ·obtain ⟨G,M0,a,r,ok,⟨v_Z8,_,rfl,h_Z8,v_Z1o,_,rfl,h_Z1o,rfl⟩,hm,q⟩:=h
  rfl
 ·obtain ⟨G,M0,a,r,ok,⟨v_Z8,_,rfl,h_Z8,v_Z1o,_,rfl,h_Z1o,rfl⟩,hm,q⟩:=h
  unfold tJ at hm
  have sg:=Same.refl G
  have hB:=Same.refl M0
  refine ⟨_,(pss_cons (ps_par (i:=2) (j:=3) rfl fI.nd rfl rfl (by decide) rfl rfl (pa_cons (pe_lst (pa_cons (bE pa_nil) pa_nil)) (pa_cons (pe_lst (pa_cons (bE pa_nil) pa_nil)) pa_nil)) (by rfl)) (pss_cons (ps_for PassesOwn.never rfl (pi_range1 (by rfl) T.n_range (pa_cons (pv 1) pa_nil)) (pg_name (i:=4) fI.nd rfl (.inl rfl)) (pss_cons (ps_set (i:=5) fI.nd rfl (.inl rfl) (pe_lst pa_nil)) (pss_cons (ps_for PassesOwn.never rfl (cR (K:=K) (pv 3)) (pg_name (i:=6) fI.nd rfl (.inr rfl)) (pss_cons (ps_expr (pe_bm PySem.F.plainAttrs_list PySem.F.slot_list_extend PySem.F.type_list_extend mt_extend (pv 5) (pa_cons (pe_lc (own:=[("_law_bell",7)]) (g:=(gName 7)) (tt:=tYes) rfl fI.nd (bf (K:=K) (pe_ix (ah (K:=K)) (pv 0) pe_int (fun _ _=>rfl))) (blkOk_by (own:=[("_law_bell",7)]) (N:=["_law_kit_here","_law_upto","_law_found","_law_edge","_law_turn","_law_longer","_law_strokes_here","_law_bell"]) (sc:=defScope pw) (by decide +kernel)) (fun _ _ _ _ _=>(pg_name (i:=7) fI.nd rfl (by first | exact .inl rfl | exact .inr rfl))) (fun _ _ _ _ _=>pts_nil) (fun _ _ _ _ _=>(pe_op (gS (K:=K)) (pv 6) (bE (pa_cons (pe_ix (ah (K:=K)) (pv 7) pe_int (fun _ _=>rfl)) pa_nil))))) pa_nil))) pss_nil)) (pss_cons (ps_set (i:=3) fI.nd rfl (.inl rfl) (pv 5)) (pss_cons (ps_set (i:=2) fI.nd rfl (.inl rfl) (pe_op op_cat (pv 2) (pv 3))) pss_nil))))) (pss_cons (ps_ret (pv 2)) pss_nil))),?_⟩
  cases h_Z1o
  refine nrm (σ':=[some v_Z8,some (.int a.2),none,none,none,none,none,none]) rfl ?_
  refine qT (σ':=fun v w=>[some v_Z8,some (.int a.2),some v,some w,none,none,none,none]) (ae (EvL.ev (el_lst (ag (bV (aC (K:=K))) (aC (K:=K))))) (ae (EvL.ev (el_lst (ag (bV (aC (K:=K))) (aC (K:=K))))) ea_nil)) ok (fun _ _=>rfl) (fun v_Zm v_Z18 G H s1 ok h_Zm h_Z18=>?_)
  have h_Z8:=aa s1 _ h_Z8
  have sg:=sg.trans s1
  obtain ⟨t1,e_t1,hm⟩:=bs hm
  obtain ⟨fin2,e_fin2,hm⟩:=bs hm
  refine bP (ea:=Dat.int) (aX e_t1 (ae (eVd K (.int _)) ea_nil)) ok (fun (st3 : (List (List Str))×(List (List Str))) σ1 G1 M1=>∃ (y_Ze : Option V) (y_Z0 : Option V) (y_Z1m : Option V) (v_Z18 : V) (v_Zm : V),σ1 = [some v_Z8,some (.int a.2),some v_Zm,some v_Z18,y_Z1m,y_Ze,y_Z0,none]∧(Dq K G1 v_Z18 ((eL (eT Dat.str)) st3.1))∧(Dq K G1 v_Zm ((eL (eT Dat.str)) st3.2))∧(Same M0 M1)) e_fin2 (fun G1 s1=>⟨_,_,_,_,_,rfl,aa s1 _ h_Z18,aa s1 _ h_Zm,hB⟩) (by rintro _ _ _ _ _ ⟨y_Ze,y_Z0,y_Z1m,v_Z18,v_Zm,rfl,h_Z18,h_Zm,hB⟩ s2; exact ⟨_,_,_,_,_,rfl,aa s2 _ h_Z18,aa s2 _ h_Zm,hB⟩) (fun x4 xv7 st3 st' σ1 G M H N hm hj s1 ok hv hN=>?_) (fun σ1 G M H s1 ok hj=>?_)
  ·obtain ⟨y_Ze,y_Z0,y_Z1m,v_Z18,v_Zm,rfl,h_Z18,h_Zm,hB⟩:=hj
   have h_Z8:=aa s1 _ h_Z8
   have sl8:=Same.refl G
   refine gn ?_
   have h_Z1m:=hv
   cases h_Z1m
   refine nrm (σ':=[some v_Z8,some (.int a.2),some v_Zm,some v_Z18,some (.int x4),y_Ze,y_Z0,none]) rfl ?_
   refine q_setL (σ':=fun v=>[some v_Z8,some (.int a.2),some v_Zm,some v_Z18,some (.int x4),some v,y_Z0,none]) (el_lst (aC (K:=K))) ok (fun _=>rfl) (fun p_Ze vs_Ze G H s1 ok hn hd_Ze=>?_)
   have h_Z8:=aa s1 _ h_Z8
   have h_Zm:=aa s1 _ h_Zm
   have h_Z18:=aa s1 _ h_Z18
   have sl8:=sl8.trans s1
   have h0_Ze : M0 p_Ze = none:=dG (M:=M) hB hn
   have hd_Ze : ap K G vs_Ze (([] : (List (List Str))).map (eT Dat.str)):=hd_Ze
   have ok : Ok _ (upd M p_Ze (.lst vs_Ze)) _:=ok
   have hB : Same M0 (upd M p_Ze (.lst vs_Ze)):=(b9 hB h0_Ze)
   have hp_Ze : (upd M p_Ze (.lst vs_Ze)) p_Ze = some (.lst vs_Ze):=upd_same
   obtain ⟨M,eM⟩ : ∃ m,m = (upd M p_Ze (.lst vs_Ze)):=⟨_,rfl⟩
   rw [← eM] at ok hB hp_Ze
   clear eM
   obtain ⟨fin9,e_fin9,hm⟩:=bs hm
   refine bP (ea:=(eT Dat.str)) (src_list (eVd K h_Z18)) ok (fun (st10 : (List (List Str))) σ1 G1 M1=>∃ (y_Z0 : Option V) (vs_Ze : List V),σ1 = [some v_Z8,some (.int a.2),some v_Zm,some v_Z18,some (.int x4),some (.ref p_Ze),y_Z0,none]∧(ap K G1 vs_Ze (st10.map (eT Dat.str)))∧(M1 p_Ze = some (.lst vs_Ze))∧(Same M0 M1)) e_fin9 (fun G1 s1=>⟨_,_,rfl,aj s1 _ hd_Ze,hp_Ze,hB⟩) (by rintro _ _ _ _ _ ⟨y_Z0,vs_Ze,rfl,hd_Ze,hp_Ze,hB⟩ s2; exact ⟨_,_,rfl,aj s2 _ hd_Ze,hp_Ze,hB⟩) (fun x11 xv14 st10 st' σ1 G M H N hm hj s1 ok hv hN=>?_) (fun σ1 G M H s1 ok hj=>?_)
   ·obtain ⟨y_Z0,vs_Ze,rfl,hd_Ze,hp_Ze,hB⟩:=hj
    have h_Z8:=aa s1 _ h_Z8
    have sl15:=Same.refl G
    refine gn ?_
    have h_Z0:=hv
    refine nrm (σ':=[some v_Z8,some (.int a.2),some v_Zm,some v_Z18,some (.int x4),some (.ref p_Ze),some xv14,none]) rfl ?_
    obtain ⟨t23,e_t23,hm⟩:=bs hm
    obtain ⟨t24,e_t24,hm⟩:=bs hm
    obtain ⟨hl_t24,ea_t24⟩:=gP e_t24
    refine mw (aq rfl) (ae (EvL.ev (bj (ea:=(eP2 Dat.str Dat.int)) (eb:=(eT Dat.str)) (xs:=a.1.1) (ys:=t23) (hf:=e_t23) (be (au (d:=(eT (eP2 Dat.str Dat.int)) a.1.1) rfl (eVd K h_Z8) ab)) (fun x16 _ Mx20 _ _ he21 sM19 sG18 hv17=>by (obtain ⟨t22,e_t22,he21⟩:=bs he21); (have he21:=Option.some.inj he21); subst he21; exact (ay ⟨rfl,(hZ (e:=Dat.str) e_t22 (eVd K (aa sG18 _ h_Z0)) (bV (ag (au (d:=Dat.str x16.1) rfl (eVd K hv17) ab) (aC (K:=K)))))⟩)))) ea_nil) hp_Ze hp_Ze (by rw [aw hd_Ze,List.length_map,List.length_map]; exact szl hl_t24) ok (fun ws G H s1 ok hv=>?_)
    have hd_Ze:=aj s1 _ hd_Ze
    have sl15:=sl15.trans s1
    have hd_Ze : ap K G (vs_Ze ++ ws) (t24.map (eT Dat.str)):=by rw [ea_t24,List.map_append]; exact bJ hd_Ze hv
    have ok : Ok _ (upd M p_Ze (.lst (vs_Ze ++ ws))) _:=ok
    have hB : Same M0 (upd M p_Ze (.lst (vs_Ze ++ ws))):=(b9 hB h0_Ze)
    have hp_Ze : (upd M p_Ze (.lst (vs_Ze ++ ws))) p_Ze = some (.lst (vs_Ze ++ ws)):=upd_same
    obtain ⟨M,eM⟩ : ∃ m,m = (upd M p_Ze (.lst (vs_Ze ++ ws))):=⟨_,rfl⟩
    rw [← eM] at ok hB hp_Ze
    clear eM
    obtain ⟨vs_Ze,e_vs⟩ : ∃ m,m = (vs_Ze ++ ws):=⟨_,rfl⟩
    rw [← e_vs] at hp_Ze hd_Ze
    clear e_vs
    refine bp ?_
    cases hm
    exact hN _ _ _ _ sl15 ok ⟨_,_,rfl,hd_Ze,hp_Ze,hB⟩
   ·obtain ⟨y_Z0,vs_Ze,rfl,hd_Ze,hp_Ze,hB⟩:=hj
    have h_Zm:=aa s1 _ h_Zm
    have h_Z18:=aa s1 _ h_Z18
    have sl8:=sl8.trans s1
    refine AB ok hp_Ze (fun G M1 s1 hg hM ok=>?_)
    have h_Zm:=aa s1 _ h_Zm
    have h_Z18:=aa s1 _ h_Z18
    have hd_Ze:=aj s1 _ hd_Ze
    have sl8:=sl8.trans s1
    have h_Ze : Dq K G (.ref p_Ze) ((eL (eT Dat.str)) fin9):=.lst hg hd_Ze
    have hB:=xC hM h0_Ze hB
    refine bT (σ':=fun v=>[some v_Z8,some (.int a.2),some v_Zm,some v,some (.int x4),some (.ref p_Ze),y_Z0,none]) (eVd K h_Ze) ok (fun _=>rfl) (fun v_Z18 G H s1 ok h_Z18=>?_)
    have h_Zm:=aa s1 _ h_Zm
    have sl8:=sl8.trans s1
    obtain ⟨t25,e_t25,hm⟩:=bs hm
    refine bT (σ':=fun v=>[some v_Z8,some (.int a.2),some v,some v_Z18,some (.int x4),some (.ref p_Ze),y_Z0,none]) (EvL.ev (v0 (e:=(eT Dat.str)) e_t25 (eVd K h_Zm) (eVd K h_Z18))) ok (fun _=>rfl) (fun v_Zm G H s1 ok h_Zm=>?_)
    have h_Z18:=aa s1 _ h_Z18
    have sl8:=sl8.trans s1
    refine bp ?_
    cases hm
    exact hN _ _ _ _ sl8 ok ⟨_,_,_,_,_,rfl,h_Z18,h_Zm,hB⟩
  ·obtain ⟨y_Ze,y_Z0,y_Z1m,v_Z18,v_Zm,rfl,h_Z18,h_Zm,hB⟩:=hj
   have sg:=sg.trans s1
   refine aM (eVd K h_Zm) ok (fun v G H s1 ok hv=>?_)
   have sg:=sg.trans s1
   cases hm
   exact q v G H sg (ok.less hB) hv
theorem nZ : FnScope ["_law_kit_here","_law_one","_law_two","_law_k"] ["_law_kit_here","_law_one","_law_two"] (defScope jo):=fsc
def Cv (K : Fg) (a : Qk×(List Int)×(List Int)) : List V→Hp→Prop:=ak (DD K ((eP2 (eT (eP2 Dat.str Dat.int)) (eT (eP3 Dat.str Dat.str Dat.int))) a.1)) (ak (DD K ((eT Dat.int) a.2.1)) (ak (DD K ((eT Dat.int) a.2.2)) (az)))
def js (a : Qk×(List Int)×(List Int)) : Option (List Int):=
 (cE (a.1.1.length : Int)).bind fun t1=>(lcO (fun x2 : Int=>(atI a.2.2 x2).bind fun t8=>(atI a.2.1 x2).bind fun t9=>(atI a.1.1 x2).bind fun t10=>(dr (t8 - t9) t10.2).bind fun t11=>some t11) t1).bind fun t12=>some t12
abbrev sE [Tb] (K : Fg) : Sp:=spP (Cv K) (js) fun r=>DD K ((eT Dat.int) r)
theorem yI [Tb] (T : Txt K mg) : FnA P w base CX0 (1) T.w_Y1l (sE K):=by
 refine T.w_Y1l.F.ok nZ (fun vs H Q E h=>?_) (fun cdv A outer s0 H vs Q E hr h=>?_)
 ·obtain ⟨G,M0,a,r,ok,⟨v_Z8,_,rfl,h_Z8,v_Z1s,_,rfl,h_Z1s,v_Z1t,_,rfl,h_Z1t,rfl⟩,hm,q⟩:=h
  rfl
 ·obtain ⟨G,M0,a,r,ok,⟨v_Z8,_,rfl,h_Z8,v_Z1s,_,rfl,h_Z1s,v_Z1t,_,rfl,h_Z1t,rfl⟩,hm,q⟩:=h
  unfold js at hm
  have sg:=Same.refl G
  have hB:=Same.refl M0
  refine ⟨_,(pss_cons (ps_ret (pe_callTy (bu (K:=K)) (by rfl) T.n_tuple (by decide +kernel) (pa_cons (pe_lc (own:=[("_law_k",3)]) (g:=(gName 3)) (tt:=tYes) rfl nZ.nd (pi_range1 (by rfl) T.n_range (pa_cons (pe_callB (aR (K:=K)) (by rfl) T.n_len (by decide +kernel) (pa_cons (pe_ix (ah (K:=K)) (pv 0) pe_int (fun _ _=>rfl)) pa_nil)) pa_nil)) (blkOk_by (own:=[("_law_k",3)]) (N:=["_law_kit_here","_law_one","_law_two","_law_k"]) (sc:=defScope jo) (by decide +kernel)) (fun _ _ _ _ _=>(pg_name (i:=3) nZ.nd rfl (by first | exact .inl rfl | exact .inr rfl))) (fun _ _ _ _ _=>pts_nil) (fun _ _ _ _ _=>(pe_op op_modN (pe_op op_sub (pe_ix (ah (K:=K)) (pv 2) (pv 3) (fun _ _=>rfl)) (pe_ix (ah (K:=K)) (pv 1) (pv 3) (fun _ _=>rfl))) (pe_ix (ah (K:=K)) (pe_ix (ah (K:=K)) (pe_ix (ah (K:=K)) (pv 0) pe_int (fun _ _=>rfl)) (pv 3) (fun _ _=>rfl)) pe_int (fun _ _=>rfl))))) pa_nil))) pss_nil),?_⟩
  refine nrm (σ':=[some v_Z8,some v_Z1s,some v_Z1t,none]) rfl ?_
  obtain ⟨t1,e_t1,hm⟩:=bs hm
  obtain ⟨t12,e_t12,hm⟩:=bs hm
  refine aM (cx (ae (EvL.ev (bj (ea:=Dat.int) (eb:=Dat.int) (xs:=t1) (ys:=t12) (hf:=e_t12) (aX e_t1 (ae (bG (e:=(eP2 Dat.str Dat.int)) (ae (au (d:=(eT (eP2 Dat.str Dat.int)) a.1.1) rfl (eVd K h_Z8) ab) ea_nil)) ea_nil)) (fun x2 _ Mx6 _ _ he7 sM5 sG4 hv3=>by (obtain ⟨t8,e_t8,he7⟩:=bs he7); (obtain ⟨t9,e_t9,he7⟩:=bs he7); (obtain ⟨t10,e_t10,he7⟩:=bs he7); (obtain ⟨t11,e_t11,he7⟩:=bs he7); (have he7:=Option.some.inj he7); subst he7; exact (ay ⟨rfl,(b0 e_t11 (dE (ck (e:=Dat.int) e_t8 (eVd K (aa sG4 _ h_Z1t)) (eVd K hv3)) (ck (e:=Dat.int) e_t9 (eVd K (aa sG4 _ h_Z1s)) (eVd K hv3))) (au (d:=Dat.int t10.2) rfl (ck (e:=(eP2 Dat.str Dat.int)) e_t10 (au (d:=(eT (eP2 Dat.str Dat.int)) a.1.1) rfl (eVd K (aa sG4 _ h_Z8)) ab) (eVd K hv3)) ab))⟩)))) ea_nil)) ok (fun v G H s1 ok hv=>?_)
  have sg:=sg.trans s1
  cases hm
  exact q v G H sg (ok.less hB) hv
theorem gA : FnScope ["_law_kit_here","_law_table_here","_law_line_here","_law_there","_law_turned","_law_k","_law_mate","_law_bell"] ["_law_kit_here","_law_table_here","_law_line_here","_law_there"] (defScope oi):=fsc
def Df (K : Fg) (a : Qk×(List ((Str×Str)×Int))×(List Str)×(List Str)) : List V→Hp→Prop:=ak (DD K ((eP2 (eT (eP2 Dat.str Dat.int)) (eT (eP3 Dat.str Dat.str Dat.int))) a.1)) (ak (DD K ((eDP Dat.int) a.2.1)) (ak (DD K ((eT Dat.str) a.2.2.1)) (ak (DD K ((eT Dat.str) a.2.2.2)) (az))))
def pF (a : Qk×(List ((Str×Str)×Int))×(List Str)×(List Str)) : Option (List Int):=
 (lcO (fun x1 : (Str×Int)=>some (x1.1,(0 : Int))) a.1.1).bind fun t7=>(fq t7).bind fun t8=>(cE (a.2.2.2.length : Int)).bind fun t9=>(cC (fun (st11 : (List (Str×Int))) (x12 : Int)=>(cC (fun (st18 : (List (Str×Int))) (x19 : Str)=>(atI a.2.2.2 x12).bind fun t24=>(c8 t24 a.2.2.1).bind fun t25=>(c8 x19 a.2.2.1).bind fun t26=>cond (decide ((t26 : Int) < (t25 : Int))) ((bS st18 x19).bind fun t27=>(atI a.2.2.2 x12).bind fun t28=>(fN st18 x19 (t27 + (bt a.2.1 (t28,x19) (0 : Int)))).bind fun t29=>some t29) (some st18)) (cut a.2.2.2 (some (x12 + (1 : Int))) none) st11).bind fun fin17=>some fin17) t9 t8).bind fun fin10=>(lcO (fun x30 : (Str×Int)=>(bS fin10 x30.1).bind fun t36=>some t36) a.1.1).bind fun t37=>some t37
abbrev wA [Tb] (K : Fg) : Sp:=spP (Df K) (pF) fun r=>DD K ((eL Dat.int) r)
theorem y4 [Tb] (T : Txt K mg) : FnA P w base CX0 (1) T.w_Yh (wA K):=by
 refine T.w_Yh.F.ok gA (fun vs H Q E h=>?_) (fun cdv A outer s0 H vs Q E hr h=>?_)
 ·obtain ⟨G,M0,a,r,ok,⟨v_Z8,_,rfl,h_Z8,v_Z5,_,rfl,h_Z5,v_Z6,_,rfl,h_Z6,v_Z10,_,rfl,h_Z10,rfl⟩,hm,q⟩:=h
  rfl
 ·obtain ⟨G,M0,a,r,ok,⟨v_Z8,_,rfl,h_Z8,v_Z5,_,rfl,h_Z5,v_Z6,_,rfl,h_Z6,v_Z10,_,rfl,h_Z10,rfl⟩,hm,q⟩:=h
  unfold pF at hm
  have sg:=Same.refl G
  have hB:=Same.refl M0
  refine ⟨_,(pss_cons (ps_set (i:=4) gA.nd rfl (.inr rfl) (pe_callTy (jA (K:=K) rfl) (by rfl) T.n_dict (by decide +kernel) (pa_cons (pe_lc (own:=[("_law_bell",7)]) (g:=(gName 7)) (tt:=tYes) rfl gA.nd (bf (K:=K) (pe_ix (ah (K:=K)) (pv 0) pe_int (fun _ _=>rfl))) (blkOk_by (own:=[("_law_bell",7)]) (N:=["_law_kit_here","_law_table_here","_law_line_here","_law_there","_law_turned","_law_k","_law_mate","_law_bell"]) (sc:=defScope oi) (by decide +kernel)) (fun _ _ _ _ _=>(pg_name (i:=7) gA.nd rfl (by first | exact .inl rfl | exact .inr rfl))) (fun _ _ _ _ _=>pts_nil) (fun _ _ _ _ _=>(bE (pa_cons (pe_ix (ah (K:=K)) (pv 7) pe_int (fun _ _=>rfl)) (pa_cons pe_int pa_nil))))) pa_nil))) (pss_cons (ps_for PassesOwn.never rfl (pi_range1 (by rfl) T.n_range (pa_cons (pe_callB (aR (K:=K)) (by rfl) T.n_len (by decide +kernel) (pa_cons (pv 3) pa_nil)) pa_nil)) (pg_name (i:=5) gA.nd rfl (.inl rfl)) (pss_cons (ps_for PassesOwn.never rfl (bf (K:=K) (pe_slice (cG (K:=K)) (pv 3) (po_some (pe_op op_add (pv 5) pe_int)) po_none)) (pg_name (i:=6) gA.nd rfl (.inl rfl)) (pss_cons (ps_if (pt_cmpR op_gt (mZ (K:=K) PySem.F.plainAttrs_tuple PySem.F.slot_tuple_index PySem.F.type_tuple_index (iP (K:=K)) (pv 2) (pa_cons (pe_ix (ah (K:=K)) (pv 3) (pv 5) (fun _ _=>rfl)) pa_nil)) (mZ (K:=K) PySem.F.plainAttrs_tuple PySem.F.slot_tuple_index PySem.F.type_tuple_index (iP (K:=K)) (pv 2) (pa_cons (pv 6) pa_nil)) (nomark _)) (pss_cons (ps_dput (hu_of hr) (pv 4) (pv 6) (pe_op op_add (pe_dget (hu_of hr) (pv 4) (pv 6) (fun _ _=>rfl)) (pe_dget2 (hu_of hr) (pv 1) (pe_tup (pa_cons (pe_ix (ah (K:=K)) (pv 3) (pv 5) (fun _ _=>rfl)) (pa_cons (pv 6) pa_nil))) pe_int ⟨rfl,rfl,rfl,rfl⟩)) rfl) pss_nil) pss_nil) pss_nil)) pss_nil)) (pss_cons (ps_ret (pe_lc (own:=[("_law_bell",7)]) (g:=(gName 7)) (tt:=tYes) rfl gA.nd (bf (K:=K) (pe_ix (ah (K:=K)) (pv 0) pe_int (fun _ _=>rfl))) (blkOk_by (own:=[("_law_bell",7)]) (N:=["_law_kit_here","_law_table_here","_law_line_here","_law_there","_law_turned","_law_k","_law_mate","_law_bell"]) (sc:=defScope oi) (by decide +kernel)) (fun _ _ _ _ _=>(pg_name (i:=7) gA.nd rfl (by first | exact .inl rfl | exact .inr rfl))) (fun _ _ _ _ _=>pts_nil) (fun _ _ _ _ _=>(pe_dget (hu_of hr) (pv 4) (pe_ix (ah (K:=K)) (pv 7) pe_int (fun _ _=>rfl)) (fun _ _=>rfl))))) pss_nil))),?_⟩
  refine nrm (σ':=[some v_Z8,some v_Z5,some v_Z6,some v_Z10,none,none,none,none]) rfl ?_
  obtain ⟨t7,e_t7,hm⟩:=bs hm
  obtain ⟨t8,e_t8,hm⟩:=bs hm
  refine xU (σ':=fun v=>[some v_Z8,some v_Z5,some v_Z6,some v_Z10,some v,none,none,none]) (qM (e:=Dat.int) e_t8 (ae (EvL.ev (bj (ea:=(eP2 Dat.str Dat.int)) (eb:=(eP2 Dat.str Dat.int)) (xs:=a.1.1) (ys:=t7) (hf:=e_t7) (be (au (d:=(eT (eP2 Dat.str Dat.int)) a.1.1) rfl (eVd K h_Z8) ab)) (fun x1 _ Mx5 _ _ he6 sM4 sG3 hv2=>by cases he6; exact (ay ⟨rfl,(bV (ag (au (d:=Dat.str x1.1) rfl (eVd K hv2) ab) (ag (ab (K:=K)) (aC (K:=K)))))⟩)))) ea_nil)) ok (fun _=>rfl) (fun p_Zh vs_Zh G H s1 ok hn hd_Zh=>?_)
  have h_Z8:=aa s1 _ h_Z8
  have h_Z5:=aa s1 _ h_Z5
  have h_Z6:=aa s1 _ h_Z6
  have h_Z10:=aa s1 _ h_Z10
  have sg:=sg.trans s1
  have h0_Zh : M0 p_Zh = none:=dG (M:=M0) hB hn
  have hd_Zh : KOk K G Dat.int vs_Zh t8:=hd_Zh
  have ok : Ok _ (upd M0 p_Zh (.dK vs_Zh)) _:=ok
  have hB : Same M0 (upd M0 p_Zh (.dK vs_Zh)):=(b9 hB h0_Zh)
  have hp_Zh : (upd M0 p_Zh (.dK vs_Zh)) p_Zh = some (.dK vs_Zh):=upd_same
  obtain ⟨M,eM⟩ : ∃ m,m = (upd M0 p_Zh (.dK vs_Zh)):=⟨_,rfl⟩
  rw [← eM] at ok hB hp_Zh
  clear eM
  obtain ⟨t9,e_t9,hm⟩:=bs hm
  obtain ⟨fin10,e_fin10,hm⟩:=bs hm
  refine bP (ea:=Dat.int) (aX e_t9 (ae (bG (e:=Dat.str) (ae (eVd K h_Z10) ea_nil)) ea_nil)) ok (fun (st11 : (List (Str×Int))) σ1 G1 M1=>∃ (y_Z1e : Option V) (y_Z1w : Option V) (vs_Zh : List (Key×V)),σ1 = [some v_Z8,some v_Z5,some v_Z6,some v_Z10,some (.ref p_Zh),y_Z1w,y_Z1e,none]∧(KOk K G1 Dat.int vs_Zh st11)∧(M1 p_Zh = some (.dK vs_Zh))∧(Same M0 M1)) e_fin10 (fun G1 s1=>⟨_,_,_,rfl,KOk.up s1 hd_Zh,hp_Zh,hB⟩) (by rintro _ _ _ _ _ ⟨y_Z1e,y_Z1w,vs_Zh,rfl,hd_Zh,hp_Zh,hB⟩ s2; exact ⟨_,_,_,rfl,KOk.up s2 hd_Zh,hp_Zh,hB⟩) (fun x12 xv15 st11 st' σ1 G M H N hm hj s1 ok hv hN=>?_) (fun σ1 G M H s1 ok hj=>?_)
  ·obtain ⟨y_Z1e,y_Z1w,vs_Zh,rfl,hd_Zh,hp_Zh,hB⟩:=hj
   have h_Z5:=aa s1 _ h_Z5
   have h_Z6:=aa s1 _ h_Z6
   have h_Z10:=aa s1 _ h_Z10
   have sl16:=Same.refl G
   refine gn ?_
   have h_Z1w:=hv
   cases h_Z1w
   refine nrm (σ':=[some v_Z8,some v_Z5,some v_Z6,some v_Z10,some (.ref p_Zh),some (.int x12),y_Z1e,none]) rfl ?_
   obtain ⟨fin17,e_fin17,hm⟩:=bs hm
   refine bP (ea:=Dat.str) (be (eJ (e:=Dat.str) (eVd K h_Z10) (eo_some (bh (eVd K (.int _)) (ab (K:=K)))) eo_none)) ok (fun (st18 : (List (Str×Int))) σ1 G1 M1=>∃ (y_Z1e : Option V) (vs_Zh : List (Key×V)),σ1 = [some v_Z8,some v_Z5,some v_Z6,some v_Z10,some (.ref p_Zh),some (.int x12),y_Z1e,none]∧(KOk K G1 Dat.int vs_Zh st18)∧(M1 p_Zh = some (.dK vs_Zh))∧(Same M0 M1)) e_fin17 (fun G1 s1=>⟨_,_,rfl,KOk.up s1 hd_Zh,hp_Zh,hB⟩) (by rintro _ _ _ _ _ ⟨y_Z1e,vs_Zh,rfl,hd_Zh,hp_Zh,hB⟩ s2; exact ⟨_,_,rfl,KOk.up s2 hd_Zh,hp_Zh,hB⟩) (fun x19 xv22 st18 st' σ1 G M H N hm hj s1 ok hv hN=>?_) (fun σ1 G M H s1 ok hj=>?_)
   ·obtain ⟨y_Z1e,vs_Zh,rfl,hd_Zh,hp_Zh,hB⟩:=hj
    have h_Z5:=aa s1 _ h_Z5
    have h_Z6:=aa s1 _ h_Z6
    have h_Z10:=aa s1 _ h_Z10
    have sl23:=Same.refl G
    refine gn ?_
    have h_Z1e:=hv
    refine nrm (σ':=[some v_Z8,some v_Z5,some v_Z6,some v_Z10,some (.ref p_Zh),some (.int x12),some xv22,none]) rfl ?_
    obtain ⟨t24,e_t24,hm⟩:=bs hm
    obtain ⟨t25,e_t25,hm⟩:=bs hm
    obtain ⟨t26,e_t26,hm⟩:=bs hm
    refine q_if (et_test (gW (kO e_t25 (eVd K h_Z6) (ae (ck (e:=Dat.str) e_t24 (eVd K h_Z10) (eVd K (.int _))) ea_nil)) (kO e_t26 (eVd K h_Z6) (ae (eVd K h_Z1e) ea_nil)))) ok (fun hb G H s1 ok=>?_) (fun hb G H s1 ok=>?_)
    ·have hm:=aK hb hm
     have h_Z5:=aa s1 _ h_Z5
     have h_Z10:=aa s1 _ h_Z10
     have hd_Zh:=KOk.up s1 hd_Zh
     have h_Z1e:=aa s1 _ h_Z1e
     have sl23:=sl23.trans s1
     obtain ⟨t27,e_t27,hm⟩:=bs hm
     obtain ⟨t28,e_t28,hm⟩:=bs hm
     obtain ⟨t29,e_t29,hm⟩:=bs hm
     refine sT (e:=Dat.int) e_t29 (bh (lD (e:=Dat.int) e_t27 hp_Zh hd_Zh (aq rfl) (eVd K h_Z1e)) (fb (e:=Dat.int) (xs:=a.2.1) (k:=(t28,x19)) (z:=(0 : Int)) (eVd K h_Z5) (c4 (ag (ck (e:=Dat.str) e_t28 (eVd K h_Z10) (eVd K (.int _))) (ag (eVd K h_Z1e) (aC (K:=K))))) (ab (K:=K)))) (aq rfl) (eVd K h_Z1e) hp_Zh hd_Zh ok (fun vs_Zh G H s1 ok hd=>?_)
     have hd_Zh:=hd
     have sl23:=sl23.trans s1
     have ok : Ok _ (upd M p_Zh (.dK vs_Zh)) _:=ok
     have hB : Same M0 (upd M p_Zh (.dK vs_Zh)):=(b9 hB h0_Zh)
     have hp_Zh : (upd M p_Zh (.dK vs_Zh)) p_Zh = some (.dK vs_Zh):=upd_same
     obtain ⟨M,eM⟩ : ∃ m,m = (upd M p_Zh (.dK vs_Zh)):=⟨_,rfl⟩
     rw [← eM] at ok hB hp_Zh
     clear eM
     refine aV ?_
     refine bp ?_
     cases hm
     exact hN _ _ _ _ sl23 ok ⟨_,_,rfl,hd_Zh,hp_Zh,hB⟩
    ·have hm:=aJ hb hm
     have hd_Zh:=KOk.up s1 hd_Zh
     have sl23:=sl23.trans s1
     refine aV ?_
     refine bp ?_
     cases hm
     exact hN _ _ _ _ sl23 ok ⟨_,_,rfl,hd_Zh,hp_Zh,hB⟩
   ·obtain ⟨y_Z1e,vs_Zh,rfl,hd_Zh,hp_Zh,hB⟩:=hj
    have sl16:=sl16.trans s1
    refine bp ?_
    cases hm
    exact hN _ _ _ _ sl16 ok ⟨_,_,_,rfl,hd_Zh,hp_Zh,hB⟩
  ·obtain ⟨y_Z1e,y_Z1w,vs_Zh,rfl,hd_Zh,hp_Zh,hB⟩:=hj
   have h_Z8:=aa s1 _ h_Z8
   have sg:=sg.trans s1
   obtain ⟨t37,e_t37,hm⟩:=bs hm
   refine aM (EvL.ev (bj (ea:=(eP2 Dat.str Dat.int)) (eb:=Dat.int) (xs:=a.1.1) (ys:=t37) (hf:=e_t37) (be (au (d:=(eT (eP2 Dat.str Dat.int)) a.1.1) rfl (eVd K h_Z8) ab)) (fun x30 _ Mx34 _ _ he35 sM33 sG32 hv31=>by (obtain ⟨t36,e_t36,he35⟩:=bs he35); (have he35:=Option.some.inj he35); subst he35; exact (ay ⟨rfl,(lD (e:=Dat.int) e_t36 (sM33 _ _ hp_Zh) (KOk.up sG32 hd_Zh) (aq rfl) (au (d:=Dat.str x30.1) rfl (eVd K hv31) ab))⟩)))) ok (fun v G H s1 ok hv=>?_)
   have sg:=sg.trans s1
   cases hm
   exact q v G H sg (ok.less hB) hv
theorem ju : FnScope ["_law_kit_here","_law_table_here","_law_two","_law_calls_here","_law_found","_law_bell"] ["_law_kit_here","_law_table_here","_law_two"] (defScope ni):=fsc
def Da (K : Fg) (a : Qk×(List ((Str×Str)×Int))×(Str×Str)) : List V→Hp→Prop:=ak (DD K ((eP2 (eT (eP2 Dat.str Dat.int)) (eT (eP3 Dat.str Dat.str Dat.int))) a.1)) (ak (DD K ((eDP Dat.int) a.2.1)) (ak (DD K ((eP2 Dat.str Dat.str) a.2.2)) (az)))
def je (a : Qk×(List ((Str×Str)×Int))×(Str×Str)) : Option (List Int):=
 (lcO (fun x1 : (Str×Int)=>some x1.1) a.1.1).bind fun t7=>(lcO (fun x8 : (Str×Int)=>some (0 : Int)) a.1.1).bind fun t14=>(lF a.2.2.1 t7).bind fun t15=>(rc t14 (t15 : Int) (bt a.2.1 (a.2.2.2,a.2.2.1) (0 : Int))).bind fun t16=>(lF a.2.2.2 t7).bind fun t18=>(rc t16 (t18 : Int) (bt a.2.1 (a.2.2.1,a.2.2.2) (0 : Int))).bind fun t19=>some t19
abbrev wy [Tb] (K : Fg) : Sp:=spP (Da K) (je) fun r=>DD K ((eL Dat.int) r)
theorem AI [Tb] (T : Txt K mg) : FnA P w base CX0 (1) T.w_Yu (wy K):=by
 refine T.w_Yu.F.ok ju (fun vs H Q E h=>?_) (fun cdv A outer s0 H vs Q E hr h=>?_)
 ·obtain ⟨G,M0,a,r,ok,⟨v_Z8,_,rfl,h_Z8,v_Z5,_,rfl,h_Z5,v_Z1t,_,rfl,h_Z1t,rfl⟩,hm,q⟩:=h
  rfl
 ·obtain ⟨G,M0,a,r,ok,⟨v_Z8,_,rfl,h_Z8,v_Z5,_,rfl,h_Z5,v_Z1t,_,rfl,h_Z1t,rfl⟩,hm,q⟩:=h
  unfold je at hm
  have sg:=Same.refl G
  have hB:=Same.refl M0
  refine ⟨_,(pss_cons (ps_par (i:=3) (j:=4) rfl ju.nd rfl rfl (by decide) rfl rfl (pa_cons (pe_lc (own:=[("_law_bell",5)]) (g:=(gName 5)) (tt:=tYes) rfl ju.nd (bf (K:=K) (pe_ix (ah (K:=K)) (pv 0) pe_int (fun _ _=>rfl))) (blkOk_by (own:=[("_law_bell",5)]) (N:=["_law_kit_here","_law_table_here","_law_two","_law_calls_here","_law_found","_law_bell"]) (sc:=defScope ni) (by decide +kernel)) (fun _ _ _ _ _=>(pg_name (i:=5) ju.nd rfl (by first | exact .inl rfl | exact .inr rfl))) (fun _ _ _ _ _=>pts_nil) (fun _ _ _ _ _=>(pe_ix (ah (K:=K)) (pv 5) pe_int (fun _ _=>rfl)))) (pa_cons (pe_lc (own:=[("_law_bell",5)]) (g:=(gName 5)) (tt:=tYes) rfl ju.nd (bf (K:=K) (pe_ix (ah (K:=K)) (pv 0) pe_int (fun _ _=>rfl))) (blkOk_by (own:=[("_law_bell",5)]) (N:=["_law_kit_here","_law_table_here","_law_two","_law_calls_here","_law_found","_law_bell"]) (sc:=defScope ni) (by decide +kernel)) (fun _ _ _ _ _=>(pg_name (i:=5) ju.nd rfl (by first | exact .inl rfl | exact .inr rfl))) (fun _ _ _ _ _=>pts_nil) (fun _ _ _ _ _=>pe_int)) pa_nil)) (by rfl)) (pss_cons (ps_asg (pe_dget2 (hu_of hr) (pv 1) (pe_tup (pa_cons (pe_ix (ah (K:=K)) (pv 2) pe_int (fun _ _=>rfl)) (pa_cons (pe_ix (ah (K:=K)) (pv 2) pe_int (fun _ _=>rfl)) pa_nil))) pe_int ⟨rfl,rfl,rfl,rfl⟩) (pg_sub (pv 4) (pe_bm PySem.F.plainAttrs_list PySem.F.slot_list_index PySem.F.type_list_index (gV (K:=K) hr.un65) (pv 3) (pa_cons (pe_ix (ah (K:=K)) (pv 2) pe_int (fun _ _=>rfl)) pa_nil)) set_list)) (pss_cons (ps_asg (pe_dget2 (hu_of hr) (pv 1) (pe_tup (pa_cons (pe_ix (ah (K:=K)) (pv 2) pe_int (fun _ _=>rfl)) (pa_cons (pe_ix (ah (K:=K)) (pv 2) pe_int (fun _ _=>rfl)) pa_nil))) pe_int ⟨rfl,rfl,rfl,rfl⟩) (pg_sub (pv 4) (pe_bm PySem.F.plainAttrs_list PySem.F.slot_list_index PySem.F.type_list_index (gV (K:=K) hr.un65) (pv 3) (pa_cons (pe_ix (ah (K:=K)) (pv 2) pe_int (fun _ _=>rfl)) pa_nil)) set_list)) (pss_cons (ps_ret (pv 4)) pss_nil)))),?_⟩
  refine nrm (σ':=[some v_Z8,some v_Z5,some v_Z1t,none,none,none]) rfl ?_
  obtain ⟨t7,e_t7,hm⟩:=bs hm
  obtain ⟨t14,e_t14,hm⟩:=bs hm
  refine vg (σ':=fun v w=>[some v_Z8,some v_Z5,some v_Z1t,some v,some w,none]) (EvL.ev (bj (ea:=(eP2 Dat.str Dat.int)) (eb:=Dat.str) (xs:=a.1.1) (ys:=t7) (hf:=e_t7) (be (au (d:=(eT (eP2 Dat.str Dat.int)) a.1.1) rfl (eVd K h_Z8) ab)) (fun x1 _ Mx5 _ _ he6 sM4 sG3 hv2=>by cases he6; exact (ay ⟨rfl,(au (d:=Dat.str x1.1) rfl (eVd K hv2) ab)⟩)))) aQ (bj (ea:=(eP2 Dat.str Dat.int)) (eb:=Dat.int) (xs:=a.1.1) (ys:=t14) (hf:=e_t14) (be (au (d:=(eT (eP2 Dat.str Dat.int)) a.1.1) rfl (eVd K h_Z8) ab)) (fun x8 _ Mx12 _ _ he13 sM11 sG10 hv9=>by cases he13; exact (ay ⟨rfl,(ab (K:=K))⟩))) ok (fun _ _=>rfl) (fun v_Z3 p_Zm vs_Zm G H s1 ok hn h_Z3 hd_Zm=>?_)
  have h_Z5:=aa s1 _ h_Z5
  have h_Z1t:=aa s1 _ h_Z1t
  have sg:=sg.trans s1
  have h0_Zm : M0 p_Zm = none:=dG (M:=M0) hB hn
  have hd_Zm : ap K G vs_Zm (t14.map Dat.int):=hd_Zm
  have ok : Ok _ (upd M0 p_Zm (.lst vs_Zm)) _:=ok
  have hB : Same M0 (upd M0 p_Zm (.lst vs_Zm)):=(b9 hB h0_Zm)
  have hp_Zm : (upd M0 p_Zm (.lst vs_Zm)) p_Zm = some (.lst vs_Zm):=upd_same
  obtain ⟨M,eM⟩ : ∃ m,m = (upd M0 p_Zm (.lst vs_Zm)):=⟨_,rfl⟩
  rw [← eM] at ok hB hp_Zm
  clear eM
  obtain ⟨t15,e_t15,hm⟩:=bs hm
  obtain ⟨t16,e_t16,hm⟩:=bs hm
  obtain ⟨j17,hj_j17,ej_j17⟩:=pc e_t16
  have hj_j17 : ixN vs_Zm.length (t15 : Int) = some j17:=by rw [aw hd_Zm,List.length_map]; exact hj_j17
  refine eP (fb (e:=Dat.int) (xs:=a.2.1) (k:=(a.2.2.2,a.2.2.1)) (z:=(0 : Int)) (eVd K h_Z5) (c4 (ag (au (d:=Dat.str a.2.2.2) rfl (eVd K h_Z1t) ab) (ag (au (d:=Dat.str a.2.2.1) rfl (eVd K h_Z1t) ab) (aC (K:=K))))) (ab (K:=K))) (aq rfl) (jj (e:=Dat.str) (xs:=t7) e_t15 fT (by decide) (eVd K h_Z3) (ae (au (d:=Dat.str a.2.2.1) rfl (eVd K h_Z1t) ab) ea_nil)) hp_Zm hj_j17 ok (fun v G H s1 ok hv=>?_)
  have h_Z5:=aa s1 _ h_Z5
  have h_Z1t:=aa s1 _ h_Z1t
  have h_Z3:=aa s1 _ h_Z3
  have hd_Zm:=aj s1 _ hd_Zm
  have sg:=sg.trans s1
  have hd_Zm : ap K G (vs_Zm.set j17 v) (t16.map Dat.int):=by rw [ej_j17,List.map_set]; exact gi _ hv hd_Zm
  have ok : Ok _ (upd M p_Zm (.lst (vs_Zm.set j17 v))) _:=ok
  have hB : Same M0 (upd M p_Zm (.lst (vs_Zm.set j17 v))):=(b9 hB h0_Zm)
  have hp_Zm : (upd M p_Zm (.lst (vs_Zm.set j17 v))) p_Zm = some (.lst (vs_Zm.set j17 v)):=upd_same
  obtain ⟨M,eM⟩ : ∃ m,m = (upd M p_Zm (.lst (vs_Zm.set j17 v))):=⟨_,rfl⟩
  rw [← eM] at ok hB hp_Zm
  clear eM
  obtain ⟨vs_Zm,e_vs⟩ : ∃ m,m = (vs_Zm.set j17 v):=⟨_,rfl⟩
  rw [← e_vs] at hp_Zm hd_Zm
  clear e_vs
  obtain ⟨t18,e_t18,hm⟩:=bs hm
  obtain ⟨t19,e_t19,hm⟩:=bs hm
  obtain ⟨j20,hj_j20,ej_j20⟩:=pc e_t19
  have hj_j20 : ixN vs_Zm.length (t18 : Int) = some j20:=by rw [aw hd_Zm,List.length_map]; exact hj_j20
  refine eP (fb (e:=Dat.int) (xs:=a.2.1) (k:=(a.2.2.1,a.2.2.2)) (z:=(0 : Int)) (eVd K h_Z5) (c4 (ag (au (d:=Dat.str a.2.2.1) rfl (eVd K h_Z1t) ab) (ag (au (d:=Dat.str a.2.2.2) rfl (eVd K h_Z1t) ab) (aC (K:=K))))) (ab (K:=K))) (aq rfl) (jj (e:=Dat.str) (xs:=t7) e_t18 fT (by decide) (eVd K h_Z3) (ae (au (d:=Dat.str a.2.2.2) rfl (eVd K h_Z1t) ab) ea_nil)) hp_Zm hj_j20 ok (fun v G H s1 ok hv=>?_)
  have hd_Zm:=aj s1 _ hd_Zm
  have sg:=sg.trans s1
  have hd_Zm : ap K G (vs_Zm.set j20 v) (t19.map Dat.int):=by rw [ej_j20,List.map_set]; exact gi _ hv hd_Zm
  have ok : Ok _ (upd M p_Zm (.lst (vs_Zm.set j20 v))) _:=ok
  have hB : Same M0 (upd M p_Zm (.lst (vs_Zm.set j20 v))):=(b9 hB h0_Zm)
  have hp_Zm : (upd M p_Zm (.lst (vs_Zm.set j20 v))) p_Zm = some (.lst (vs_Zm.set j20 v)):=upd_same
  obtain ⟨M,eM⟩ : ∃ m,m = (upd M p_Zm (.lst (vs_Zm.set j20 v))):=⟨_,rfl⟩
  rw [← eM] at ok hB hp_Zm
  clear eM
  obtain ⟨vs_Zm,e_vs⟩ : ∃ m,m = (vs_Zm.set j20 v):=⟨_,rfl⟩
  rw [← e_vs] at hp_Zm hd_Zm
  clear e_vs
  refine aM (aq rfl) ok (fun v G H s1 ok hv=>?_)
  have sg:=sg.trans s1
  have hd_Zm:=aj s1 _ hd_Zm
  cases hv
  have gp : G p_Zm = none:=ok.d _ _ hp_Zm
  cases hm
  exact q _ (upd G p_Zm (.lst vs_Zm)) H (sg.trans (Same.new gp)) (ok.giveL hp_Zm h0_Zm hB) (.lst upd_same (aj (Same.new gp) _ hd_Zm))
theorem eI : FnScope ["_law_kit_here","_law_begun","_law_swung","_law_flipped","_law_found","_law_k","_law_j"] ["_law_kit_here","_law_begun","_law_swung","_law_flipped"] (defScope hW):=fsc
def zw (K : Fg) (a : Qk×(List Int)×(List (List Int))×(List (Str×Str×Int))) : List V→Hp→Prop:=ak (DD K ((eP2 (eT (eP2 Dat.str Dat.int)) (eT (eP3 Dat.str Dat.str Dat.int))) a.1)) (ak (DD K ((eL Dat.int) a.2.1)) (ak (DD K ((eL (eL Dat.int)) a.2.2.1)) (ak (DD K ((eT (eP3 Dat.str Dat.str Dat.int)) a.2.2.2)) (az))))
def iD (a : Qk×(List Int)×(List (List Int))×(List (Str×Str×Int))) : Option (List Int):=
 (cE (a.2.2.2.length : Int)).bind fun t1=>(cC (fun (st3 : (List Int)) (x4 : Int)=>(cE (st3.length : Int)).bind fun t9=>(lcO (fun x10 : Int=>(atI st3 x10).bind fun t16=>(atI a.2.2.1 x4).bind fun t17=>(atI t17 x10).bind fun t18=>(atI a.2.2.2 x4).bind fun t19=>(dL t19.2.2 (2 : Int)).bind fun t20=>(fc t18 t20).bind fun t21=>some (t16 + t21)) t9).bind fun t22=>some t22) t1 a.2.1).bind fun fin2=>(cE (fin2.length : Int)).bind fun t23=>(lcO (fun x24 : Int=>(atI fin2 x24).bind fun t30=>(atI a.1.1 x24).bind fun t31=>(dr t30 t31.2).bind fun t32=>some t32) t23).bind fun t33=>some t33
abbrev ul [Tb] (K : Fg) : Sp:=spP (zw K) (iD) fun r=>DD K ((eT Dat.int) r)
theorem yd [Tb] (T : Txt K mg) : FnA P w base CX0 (1) T.w_Y12 (ul K):=by
 refine T.w_Y12.F.ok eI (fun vs H Q E h=>?_) (fun cdv A outer s0 H vs Q E hr h=>?_)
 ·obtain ⟨G,M0,a,r,ok,⟨v_Z8,_,rfl,h_Z8,v_Zj,_,rfl,h_Zj,v_Zy,_,rfl,h_Zy,v_Za,_,rfl,h_Za,rfl⟩,hm,q⟩:=h
  rfl
 ·obtain ⟨G,M0,a,r,ok,⟨v_Z8,_,rfl,h_Z8,v_Zj,_,rfl,h_Zj,v_Zy,_,rfl,h_Zy,v_Za,_,rfl,h_Za,rfl⟩,hm,q⟩:=h
  unfold iD at hm
  have sg:=Same.refl G
  have hB:=Same.refl M0
  refine ⟨_,(pss_cons (ps_set (i:=4) eI.nd rfl (.inr rfl) (pe_callTy (uz (K:=K)) (by rfl) T.n_list (by decide +kernel) (pa_cons (pv 1) pa_nil))) (pss_cons (ps_for PassesOwn.never rfl (pi_range1 (by rfl) T.n_range (pa_cons (pe_callB (aR (K:=K)) (by rfl) T.n_len (by decide +kernel) (pa_cons (pv 3) pa_nil)) pa_nil)) (pg_name (i:=5) eI.nd rfl (.inr rfl)) (pss_cons (ps_set (i:=4) eI.nd rfl (.inr rfl) (pe_lc (own:=[("_law_j",6)]) (g:=(gName 6)) (tt:=tYes) rfl eI.nd (pi_range1 (by rfl) T.n_range (pa_cons (pe_callB (aR (K:=K)) (by rfl) T.n_len (by decide +kernel) (pa_cons (pv 4) pa_nil)) pa_nil)) (blkOk_by (own:=[("_law_j",6)]) (N:=["_law_kit_here","_law_begun","_law_swung","_law_flipped","_law_found","_law_k","_law_j"]) (sc:=defScope hW) (by decide +kernel)) (fun _ _ _ _ _=>(pg_name (i:=6) eI.nd rfl (by first | exact .inl rfl | exact .inr rfl))) (fun _ _ _ _ _=>pts_nil) (fun _ _ _ _ _=>(pe_op op_add (pe_ix (aH (K:=K)) (pv 4) (pv 6) (fun _ _=>rfl)) (pe_op co (pe_ix (aH (K:=K)) (pe_ix (aH (K:=K)) (pv 2) (pv 5) (fun _ _=>rfl)) (pv 6) (fun _ _=>rfl)) (pe_op dU (pe_ix (ah (K:=K)) (pe_ix (ah (K:=K)) (pv 3) (pv 5) (fun _ _=>rfl)) pe_int (fun _ _=>rfl)) pe_int)))))) pss_nil)) (pss_cons (ps_ret (pe_callTy (bu (K:=K)) (by rfl) T.n_tuple (by decide +kernel) (pa_cons (pe_lc (own:=[("_law_j",6)]) (g:=(gName 6)) (tt:=tYes) rfl eI.nd (pi_range1 (by rfl) T.n_range (pa_cons (pe_callB (aR (K:=K)) (by rfl) T.n_len (by decide +kernel) (pa_cons (pv 4) pa_nil)) pa_nil)) (blkOk_by (own:=[("_law_j",6)]) (N:=["_law_kit_here","_law_begun","_law_swung","_law_flipped","_law_found","_law_k","_law_j"]) (sc:=defScope hW) (by decide +kernel)) (fun _ _ _ _ _=>(pg_name (i:=6) eI.nd rfl (by first | exact .inl rfl | exact .inr rfl))) (fun _ _ _ _ _=>pts_nil) (fun _ _ _ _ _=>(pe_op op_modN (pe_ix (aH (K:=K)) (pv 4) (pv 6) (fun _ _=>rfl)) (pe_ix (ah (K:=K)) (pe_ix (ah (K:=K)) (pe_ix (ah (K:=K)) (pv 0) pe_int (fun _ _=>rfl)) (pv 6) (fun _ _=>rfl)) pe_int (fun _ _=>rfl))))) pa_nil))) pss_nil))),?_⟩
  refine nrm (σ':=[some v_Z8,some v_Zj,some v_Zy,some v_Za,none,none,none]) rfl ?_
  refine bT (σ':=fun v=>[some v_Z8,some v_Zj,some v_Zy,some v_Za,some v,none,none]) (EvL.ev (qQ (ae (eVd K h_Zj) ea_nil))) ok (fun _=>rfl) (fun v_Zm G H s1 ok h_Zm=>?_)
  have h_Z8:=aa s1 _ h_Z8
  have h_Zy:=aa s1 _ h_Zy
  have h_Za:=aa s1 _ h_Za
  have sg:=sg.trans s1
  obtain ⟨t1,e_t1,hm⟩:=bs hm
  obtain ⟨fin2,e_fin2,hm⟩:=bs hm
  refine bP (ea:=Dat.int) (aX e_t1 (ae (bG (e:=(eP3 Dat.str Dat.str Dat.int)) (ae (eVd K h_Za) ea_nil)) ea_nil)) ok (fun (st3 : (List Int)) σ1 G1 M1=>∃ (y_Z1w : Option V) (v_Zm : V),σ1 = [some v_Z8,some v_Zj,some v_Zy,some v_Za,some v_Zm,y_Z1w,none]∧(Dq K G1 v_Zm ((eL Dat.int) st3))∧(Same M0 M1)) e_fin2 (fun G1 s1=>⟨_,_,rfl,aa s1 _ h_Zm,hB⟩) (by rintro _ _ _ _ _ ⟨y_Z1w,v_Zm,rfl,h_Zm,hB⟩ s2; exact ⟨_,_,rfl,aa s2 _ h_Zm,hB⟩) (fun x4 xv7 st3 st' σ1 G M H N hm hj s1 ok hv hN=>?_) (fun σ1 G M H s1 ok hj=>?_)
  ·obtain ⟨y_Z1w,v_Zm,rfl,h_Zm,hB⟩:=hj
   have h_Zy:=aa s1 _ h_Zy
   have h_Za:=aa s1 _ h_Za
   have sl8:=Same.refl G
   refine gn ?_
   have h_Z1w:=hv
   cases h_Z1w
   refine nrm (σ':=[some v_Z8,some v_Zj,some v_Zy,some v_Za,some v_Zm,some (.int x4),none]) rfl ?_
   obtain ⟨t9,e_t9,hm⟩:=bs hm
   obtain ⟨t22,e_t22,hm⟩:=bs hm
   refine bT (σ':=fun v=>[some v_Z8,some v_Zj,some v_Zy,some v_Za,some v,some (.int x4),none]) (EvL.ev (bj (ea:=Dat.int) (eb:=Dat.int) (xs:=t9) (ys:=t22) (hf:=e_t22) (aX e_t9 (ae (du (e:=Dat.int) (ae (eVd K h_Zm) ea_nil)) ea_nil)) (fun x10 _ Mx14 _ _ he15 sM13 sG12 hv11=>by (obtain ⟨t16,e_t16,he15⟩:=bs he15); (obtain ⟨t17,e_t17,he15⟩:=bs he15); (obtain ⟨t18,e_t18,he15⟩:=bs he15); (obtain ⟨t19,e_t19,he15⟩:=bs he15); (obtain ⟨t20,e_t20,he15⟩:=bs he15); (obtain ⟨t21,e_t21,he15⟩:=bs he15); cases he15; exact (ay ⟨rfl,(bh (br (e:=Dat.int) e_t16 (eVd K (aa sG12 _ h_Zm)) (eVd K hv11)) (cj e_t21 (br (e:=Dat.int) e_t18 (br (e:=(eL Dat.int)) e_t17 (eVd K (aa sG12 _ h_Zy)) (eVd K (.int _))) (eVd K hv11)) (eG e_t20 (au (d:=Dat.int t19.2.2) rfl (ck (e:=(eP3 Dat.str Dat.str Dat.int)) e_t19 (eVd K (aa sG12 _ h_Za)) (eVd K (.int _))) ab) (ab (K:=K)))))⟩)))) ok (fun _=>rfl) (fun v_Zm G H s1 ok h_Zm=>?_)
   have sl8:=sl8.trans s1
   refine bp ?_
   cases hm
   exact hN _ _ _ _ sl8 ok ⟨_,_,rfl,h_Zm,hB⟩
  ·obtain ⟨y_Z1w,v_Zm,rfl,h_Zm,hB⟩:=hj
   have h_Z8:=aa s1 _ h_Z8
   have sg:=sg.trans s1
   obtain ⟨t23,e_t23,hm⟩:=bs hm
   obtain ⟨t33,e_t33,hm⟩:=bs hm
   refine aM (cx (ae (EvL.ev (bj (ea:=Dat.int) (eb:=Dat.int) (xs:=t23) (ys:=t33) (hf:=e_t33) (aX e_t23 (ae (du (e:=Dat.int) (ae (eVd K h_Zm) ea_nil)) ea_nil)) (fun x24 _ Mx28 _ _ he29 sM27 sG26 hv25=>by (obtain ⟨t30,e_t30,he29⟩:=bs he29); (obtain ⟨t31,e_t31,he29⟩:=bs he29); (obtain ⟨t32,e_t32,he29⟩:=bs he29); (have he29:=Option.some.inj he29); subst he29; exact (ay ⟨rfl,(b0 e_t32 (br (e:=Dat.int) e_t30 (eVd K (aa sG26 _ h_Zm)) (eVd K hv25)) (au (d:=Dat.int t31.2) rfl (ck (e:=(eP2 Dat.str Dat.int)) e_t31 (au (d:=(eT (eP2 Dat.str Dat.int)) a.1.1) rfl (eVd K (aa sG26 _ h_Z8)) ab) (eVd K hv25)) ab))⟩)))) ea_nil)) ok (fun v G H s1 ok hv=>?_)
   have sg:=sg.trans s1
   cases hm
   exact q v G H sg (ok.less hB) hv
theorem ur : FnScope ["_law_kit_here","_law_turned","_law_k"] ["_law_kit_here","_law_turned"] (defScope qi):=fsc
def C2 (K : Fg) (a : Qk×(List Int)) : List V→Hp→Prop:=ak (DD K ((eP2 (eT (eP2 Dat.str Dat.int)) (eT (eP3 Dat.str Dat.str Dat.int))) a.1)) (ak (DD K ((eL Dat.int) a.2)) (az))
def lK (a : Qk×(List Int)) : Option (List Int):=
 (cE (a.1.1.length : Int)).bind fun t1=>(lcO (fun x2 : Int=>(atI a.2 x2).bind fun t8=>(atI a.1.1 x2).bind fun t9=>(dr t8 t9.2).bind fun t10=>some t10) t1).bind fun t11=>some t11
abbrev wt [Tb] (K : Fg) : Sp:=spP (C2 K) (lK) fun r=>DD K ((eT Dat.int) r)
theorem Cy [Tb] (T : Txt K mg) : FnA P w base CX0 (1) T.w_Yq (wt K):=by
 refine T.w_Yq.F.ok ur (fun vs H Q E h=>?_) (fun cdv A outer s0 H vs Q E hr h=>?_)
 ·obtain ⟨G,M0,a,r,ok,⟨v_Z8,_,rfl,h_Z8,v_Zh,_,rfl,h_Zh,rfl⟩,hm,q⟩:=h
  rfl
 ·obtain ⟨G,M0,a,r,ok,⟨v_Z8,_,rfl,h_Z8,v_Zh,_,rfl,h_Zh,rfl⟩,hm,q⟩:=h
  unfold lK at hm
  have sg:=Same.refl G
  have hB:=Same.refl M0
  refine ⟨_,(pss_cons (ps_ret (pe_callTy (bu (K:=K)) (by rfl) T.n_tuple (by decide +kernel) (pa_cons (pe_lc (own:=[("_law_k",2)]) (g:=(gName 2)) (tt:=tYes) rfl ur.nd (pi_range1 (by rfl) T.n_range (pa_cons (pe_callB (aR (K:=K)) (by rfl) T.n_len (by decide +kernel) (pa_cons (pe_ix (ah (K:=K)) (pv 0) pe_int (fun _ _=>rfl)) pa_nil)) pa_nil)) (blkOk_by (own:=[("_law_k",2)]) (N:=["_law_kit_here","_law_turned","_law_k"]) (sc:=defScope qi) (by decide +kernel)) (fun _ _ _ _ _=>(pg_name (i:=2) ur.nd rfl (by first | exact .inl rfl | exact .inr rfl))) (fun _ _ _ _ _=>pts_nil) (fun _ _ _ _ _=>(pe_op op_modN (pe_ix (aH (K:=K)) (pv 1) (pv 2) (fun _ _=>rfl)) (pe_ix (ah (K:=K)) (pe_ix (ah (K:=K)) (pe_ix (ah (K:=K)) (pv 0) pe_int (fun _ _=>rfl)) (pv 2) (fun _ _=>rfl)) pe_int (fun _ _=>rfl))))) pa_nil))) pss_nil),?_⟩
  refine nrm (σ':=[some v_Z8,some v_Zh,none]) rfl ?_
  obtain ⟨t1,e_t1,hm⟩:=bs hm
  obtain ⟨t11,e_t11,hm⟩:=bs hm
  refine aM (cx (ae (EvL.ev (bj (ea:=Dat.int) (eb:=Dat.int) (xs:=t1) (ys:=t11) (hf:=e_t11) (aX e_t1 (ae (bG (e:=(eP2 Dat.str Dat.int)) (ae (au (d:=(eT (eP2 Dat.str Dat.int)) a.1.1) rfl (eVd K h_Z8) ab) ea_nil)) ea_nil)) (fun x2 _ Mx6 _ _ he7 sM5 sG4 hv3=>by (obtain ⟨t8,e_t8,he7⟩:=bs he7); (obtain ⟨t9,e_t9,he7⟩:=bs he7); (obtain ⟨t10,e_t10,he7⟩:=bs he7); (have he7:=Option.some.inj he7); subst he7; exact (ay ⟨rfl,(b0 e_t10 (br (e:=Dat.int) e_t8 (eVd K (aa sG4 _ h_Zh)) (eVd K hv3)) (au (d:=Dat.int t9.2) rfl (ck (e:=(eP2 Dat.str Dat.int)) e_t9 (au (d:=(eT (eP2 Dat.str Dat.int)) a.1.1) rfl (eVd K (aa sG4 _ h_Z8)) ab) (eVd K hv3)) ab))⟩)))) ea_nil)) ok (fun v G H s1 ok hv=>?_)
  have sg:=sg.trans s1
  cases hm
  exact q v G H sg (ok.less hB) hv
theorem iG : FnScope ["_law_kit_here","_law_tower","_law_table_here","_law_stand_here","_law_strokes_here","_law_known","_law_there","_law_flipped","_law_more","_law_couples","_law_begun","_law_swung","_law_k","_law_two"] ["_law_kit_here","_law_tower","_law_table_here","_law_stand_here","_law_strokes_here","_law_known"] (defScope pA):=fsc
def CZ (K : Fg) (p : Addr) (a : Qk×Qp×(List ((Str×Str)×Int))×Qs×(List Str)) : List V→Hp→Prop:=ak (DD K ((eP2 (eT (eP2 Dat.str Dat.int)) (eT (eP3 Dat.str Dat.str Dat.int))) a.1)) (ak (DD K (bc a.2.1)) (ak (DD K ((eDP Dat.int) a.2.2.1)) (ak (DD K ((eP2 (eT Dat.str) (eT Dat.int)) a.2.2.2.1)) (ak (DD K ((eT Dat.str) a.2.2.2.2)) (ak (OW p) (az))))))
def nK (a : Qk×Qp×(List ((Str×Str)×Int))×Qs×(List Str)) (xs : (List (KF×(List Int)))) : Option (Bool×(List (KF×(List Int)))):=
 (gY (a.2.1,a.2.2.2.1,a.2.2.2.2)).bind fun t1=>(lx (a.2.1,a.2.2.2.1.1,a.2.2.2.2)).bind fun t2=>(js (a.1,a.2.2.2.1.2,t1.2)).bind fun t3=>(jS a.1).bind fun t4=>(pF (a.1,a.2.2.1,a.2.2.2.1.1,t1.1)).bind fun t5=>(lcO (fun x6 : (Str×Str)=>(je (a.1,a.2.2.1,x6)).bind fun t12=>some t12) t4).bind fun t13=>(iD (a.1,t5,t13,t2)).bind fun t14=>(cond (!decide (t3 = t14)) (some true) ((mr (a.2.1,a.2.2.2.1.1,t1.1)).bind fun t15=>(lK (a.1,t5)).bind fun t16=>some (!decide (t15 = t16)))).bind fun t17=>cond t17 (some (false,xs)) ((cE (t4.length : Int)).bind fun t18=>(forR (R:=Bool×(List (KF×(List Int)))) (fun (st20 : Unit) (x21 : Int)=>(atI t4 x21).bind fun t26=>(atI t4 x21).bind fun t27=>(ii (a.2.1,t26.1,t27.2)).bind fun t28=>(atI t13 x21).bind fun t29=>(lK (a.1,t29)).bind fun t30=>cond (!decide (t28 = t30)) (some (.inr (false,xs))) (some (.inl ()))) t18 ()).bind fun fin19=>orR fin19 (fun fin19s=>(oT xs (t1.1,t2) t3).bind fun t31=>some ((decide (t31.1 = t3)),t31.2)) (fun r=>some r))
abbrev wh [Tb] (K : Fg) (w : World) : Sp:=Bg ktF K w (eT Dat.int) (CZ K) nK
theorem Aj [Tb] (T : Txt K mg) (O_gone : FnA P w base CX0 6 T.w_gone (oW K)) (O_Y1u : FnA P w base CX0 4 T.w_Y1u (qY K)) (O_Y1l : FnA P w base CX0 1 T.w_Y1l (sE K)) (O_Y15 : FnA P w base CX0 1 T.w_Y15 (sV K)) (O_Yh : FnA P w base CX0 1 T.w_Yh (wA K)) (O_Yu : FnA P w base CX0 1 T.w_Yu (wy K)) (O_Y12 : FnA P w base CX0 1 T.w_Y12 (ul K)) (O_Y1s : FnA P w base CX0 5 T.w_Y1s (q7 K)) (O_Yq : FnA P w base CX0 1 T.w_Yq (wt K)) (O_Y1y : FnA P w base CX0 5 T.w_Y1y (tT K)) : FnA P w base CX0 (7) T.w_Y6 (wh K w):=by
 refine T.w_Y6.F.ok iG (fun vs H Q E h=>?_) (fun cdv A outer s0 H vs Q E hr h=>?_)
 ·obtain ⟨G,M0,p,es,xs,ys,a,r,ok,hpm,hdm,⟨v_Z8,_,rfl,h_Z8,v_Z11,_,rfl,h_Z11,v_Z5,_,rfl,h_Z5,v_Z4,_,rfl,h_Z4,v_Z0,_,rfl,h_Z0,_,_,rfl,rfl,rfl⟩,hm,q⟩:=h
  rfl
 ·obtain ⟨G,M0,p,es,xs,ys,a,r,ok,hpm,hdm,⟨v_Z8,_,rfl,h_Z8,v_Z11,_,rfl,h_Z11,v_Z5,_,rfl,h_Z5,v_Z4,_,rfl,h_Z4,v_Z0,_,rfl,h_Z0,_,_,rfl,rfl,rfl⟩,hm,q⟩:=h
  unfold nK at hm
  have sg:=Same.refl G
  have hB:=Same.refl M0
  refine ⟨_,(pss_cons (ps_par (i:=6) (j:=7) rfl iG.nd rfl rfl (by decide) rfl rfl (pa_cons (pcW T.w_gone O_gone (hr.mono (by decide)) (pa_cons (pv 1) (pa_cons (pv 3) (pa_cons (pv 4) pa_nil)))) (pa_cons (pcW T.w_Y1u O_Y1u (hr.mono (by decide)) (pa_cons (pv 1) (pa_cons (pe_ix (ah (K:=K)) (pv 3) pe_int (fun _ _=>rfl)) (pa_cons (pv 4) pa_nil)))) pa_nil)) (by rfl)) (pss_cons (ps_par (i:=8) (j:=9) rfl iG.nd rfl rfl (by decide) rfl rfl (pa_cons (pcW T.w_Y1l O_Y1l (hr.mono (by decide)) (pa_cons (pv 0) (pa_cons (pe_ix (ah (K:=K)) (pv 3) pe_int (fun _ _=>rfl)) (pa_cons (pe_ix (ah (K:=K)) (pv 6) pe_int (fun _ _=>rfl)) pa_nil)))) (pa_cons (pcW T.w_Y15 O_Y15 (hr.mono (by decide)) (pa_cons (pv 0) pa_nil)) pa_nil)) (by rfl)) (pss_cons (ps_set (i:=10) iG.nd rfl (.inl rfl) (pcW T.w_Yh O_Yh (hr.mono (by decide)) (pa_cons (pv 0) (pa_cons (pv 2) (pa_cons (pe_ix (ah (K:=K)) (pv 3) pe_int (fun _ _=>rfl)) (pa_cons (pe_ix (ah (K:=K)) (pv 6) pe_int (fun _ _=>rfl)) pa_nil)))))) (pss_cons (ps_setLc (i:=11) (own:=[("_law_two",13)]) (g:=(gName 13)) (tt:=tYes) rfl iG.nd rfl rfl (sw_true rfl rfl rfl (by decide +kernel)) (cR (K:=K) (pv 9)) (blkOk_by (own:=[("_law_two",13)]) (N:=["_law_kit_here","_law_tower","_law_table_here","_law_stand_here","_law_strokes_here","_law_known","_law_there","_law_flipped","_law_more","_law_couples","_law_begun","_law_swung","_law_k","_law_two"]) (sc:=defScope pA) (by decide +kernel)) (fun _ _ _ _ _=>(pg_name (i:=13) iG.nd rfl (by first | exact .inl rfl | exact .inr rfl))) (fun _ _ _ _ _=>pts_nil) (fun _ _ _ _ _=>(pcW T.w_Yu O_Yu (hr.mono (by decide)) (pa_cons (pv 0) (pa_cons (pv 2) (pa_cons (pv 13) pa_nil)))))) (pss_cons (ps_if (PW.pt (pw_or (pt_cmpR (kl (K:=K) hr.units) (pv 8) (pcW T.w_Y12 O_Y12 (hr.mono (by decide)) (pa_cons (pv 0) (pa_cons (pv 10) (pa_cons (pv 11) (pa_cons (pv 7) pa_nil))))) (nomark _)) (pw_or1 (pt_cmpR (kl (K:=K) hr.units) (pcW T.w_Y1s O_Y1s (hr.mono (by decide)) (pa_cons (pv 1) (pa_cons (pe_ix (ah (K:=K)) (pv 3) pe_int (fun _ _=>rfl)) (pa_cons (pe_ix (ah (K:=K)) (pv 6) pe_int (fun _ _=>rfl)) pa_nil)))) (pcW T.w_Yq O_Yq (hr.mono (by decide)) (pa_cons (pv 0) (pa_cons (pv 10) pa_nil))) (nomark _))))) (pss_cons (ps_ret pe_bl) pss_nil) pss_nil) (pss_cons (ps_for PassesOwn.never rfl (pi_range1 (by rfl) T.n_range (pa_cons (pe_callB (aR (K:=K)) (by rfl) T.n_len (by decide +kernel) (pa_cons (pv 9) pa_nil)) pa_nil)) (pg_name (i:=12) iG.nd rfl (.inl rfl)) (pss_cons (ps_if (pt_cmpR (kl (K:=K) hr.units) (pcW T.w_Y1y O_Y1y (hr.mono (by decide)) (pa_cons (pv 1) (pa_cons (pe_ix (ah (K:=K)) (pe_ix (aH (K:=K)) (pv 9) (pv 12) (fun _ _=>rfl)) pe_int (fun _ _=>rfl)) (pa_cons (pe_ix (ah (K:=K)) (pe_ix (aH (K:=K)) (pv 9) (pv 12) (fun _ _=>rfl)) pe_int (fun _ _=>rfl)) pa_nil)))) (pcW T.w_Yq O_Yq (hr.mono (by decide)) (pa_cons (pv 0) (pa_cons (pe_ix (aH (K:=K)) (pv 11) (pv 12) (fun _ _=>rfl)) pa_nil))) (nomark _)) (pss_cons (ps_ret pe_bl) pss_nil) pss_nil) pss_nil)) (pss_cons (ps_ret (pe_cmpR (o5 (K:=K) hr.units) (rV (K:=K) (w:=w) hr.units (pv 5) (bE (pa_cons (pe_ix (ah (K:=K)) (pv 6) pe_int (fun _ _=>rfl)) (pa_cons (pv 7) pa_nil))) (pv 8) ⟨rfl,rfl,rfl,rfl⟩) (pv 8) (nomark _))) pss_nil))))))),?_⟩
  refine nrm (σ':=[some v_Z8,some v_Z11,some v_Z5,some v_Z4,some v_Z0,some (.ref p),none,none,none,none,none,none,none,none]) rfl ?_
  obtain ⟨t1,e_t1,hm⟩:=bs hm
  obtain ⟨t2,e_t2,hm⟩:=bs hm
  refine qT (σ':=fun v w=>[some v_Z8,some v_Z11,some v_Z5,some v_Z4,some v_Z0,some (.ref p),some v,some w,none,none,none,none,none,none]) (ae (ai (res:=fun r=>DD K ((eP2 (eT Dat.str) (eT Dat.int)) r)) (a:=(a.2.1,a.2.2.2.1,a.2.2.2.2)) e_t1 (ae (eVd K h_Z11) (ae (eVd K h_Z4) (ae (eVd K h_Z0) ea_nil)))) (ae (ai (res:=fun r=>DD K ((eT (eP3 Dat.str Dat.str Dat.int)) r)) (a:=(a.2.1,a.2.2.2.1.1,a.2.2.2.2)) e_t2 (ae (eVd K h_Z11) (ae (au (d:=(eT Dat.str) a.2.2.2.1.1) rfl (eVd K h_Z4) ab) (ae (eVd K h_Z0) ea_nil)))) ea_nil)) ok (fun _ _=>rfl) (fun v_Z10 v_Za G H s1 ok h_Z10 h_Za=>?_)
  have h_Z8:=aa s1 _ h_Z8
  have h_Z11:=aa s1 _ h_Z11
  have h_Z5:=aa s1 _ h_Z5
  have h_Z4:=aa s1 _ h_Z4
  have h_Z0:=aa s1 _ h_Z0
  have sg:=sg.trans s1
  obtain ⟨t3,e_t3,hm⟩:=bs hm
  obtain ⟨t4,e_t4,hm⟩:=bs hm
  refine qT (σ':=fun v w=>[some v_Z8,some v_Z11,some v_Z5,some v_Z4,some v_Z0,some (.ref p),some v_Z10,some v_Za,some v,some w,none,none,none,none]) (ae (ai (res:=fun r=>DD K ((eT Dat.int) r)) (a:=(a.1,a.2.2.2.1.2,t1.2)) e_t3 (ae (eVd K h_Z8) (ae (au (d:=(eT Dat.int) a.2.2.2.1.2) rfl (eVd K h_Z4) ab) (ae (au (d:=(eT Dat.int) t1.2) rfl (eVd K h_Z10) ab) ea_nil)))) (ae (ai (res:=fun r=>DD K ((eL (eP2 Dat.str Dat.str)) r)) (a:=a.1) e_t4 (ae (eVd K h_Z8) ea_nil)) ea_nil)) ok (fun _ _=>rfl) (fun v_Z1g v_Z9 G H s1 ok h_Z1g h_Z9=>?_)
  have h_Z8:=aa s1 _ h_Z8
  have h_Z11:=aa s1 _ h_Z11
  have h_Z5:=aa s1 _ h_Z5
  have h_Z4:=aa s1 _ h_Z4
  have h_Z0:=aa s1 _ h_Z0
  have h_Z10:=aa s1 _ h_Z10
  have h_Za:=aa s1 _ h_Za
  have sg:=sg.trans s1
  obtain ⟨t5,e_t5,hm⟩:=bs hm
  refine bT (σ':=fun v=>[some v_Z8,some v_Z11,some v_Z5,some v_Z4,some v_Z0,some (.ref p),some v_Z10,some v_Za,some v_Z1g,some v_Z9,some v,none,none,none]) (ai (res:=fun r=>DD K ((eL Dat.int) r)) (a:=(a.1,a.2.2.1,a.2.2.2.1.1,t1.1)) e_t5 (ae (eVd K h_Z8) (ae (eVd K h_Z5) (ae (au (d:=(eT Dat.str) a.2.2.2.1.1) rfl (eVd K h_Z4) ab) (ae (au (d:=(eT Dat.str) t1.1) rfl (eVd K h_Z10) ab) ea_nil))))) ok (fun _=>rfl) (fun v_Zj G H s1 ok h_Zj=>?_)
  have h_Z8:=aa s1 _ h_Z8
  have h_Z11:=aa s1 _ h_Z11
  have h_Z5:=aa s1 _ h_Z5
  have h_Z4:=aa s1 _ h_Z4
  have h_Z0:=aa s1 _ h_Z0
  have h_Z10:=aa s1 _ h_Z10
  have h_Za:=aa s1 _ h_Za
  have h_Z1g:=aa s1 _ h_Z1g
  have h_Z9:=aa s1 _ h_Z9
  have sg:=sg.trans s1
  obtain ⟨t13,e_t13,hm⟩:=bs hm
  refine bT (σ':=fun v=>[some v_Z8,some v_Z11,some v_Z5,some v_Z4,some v_Z0,some (.ref p),some v_Z10,some v_Za,some v_Z1g,some v_Z9,some v_Zj,some v,none,none]) (EvL.ev (bj (ea:=(eP2 Dat.str Dat.str)) (eb:=(eL Dat.int)) (xs:=t4) (ys:=t13) (hf:=e_t13) (src_list (eVd K h_Z9)) (fun x6 _ Mx10 _ _ he11 sM9 sG8 hv7=>by (obtain ⟨t12,e_t12,he11⟩:=bs he11); (have he11:=Option.some.inj he11); subst he11; exact (ay ⟨rfl,(ai (res:=fun r=>DD K ((eL Dat.int) r)) (a:=(a.1,a.2.2.1,x6)) e_t12 (ae (eVd K (aa sG8 _ h_Z8)) (ae (eVd K (aa sG8 _ h_Z5)) (ae (eVd K hv7) ea_nil))))⟩)))) ok (fun _=>rfl) (fun v_Zy G H s1 ok h_Zy=>?_)
  have h_Z8:=aa s1 _ h_Z8
  have h_Z11:=aa s1 _ h_Z11
  have h_Z5:=aa s1 _ h_Z5
  have h_Z4:=aa s1 _ h_Z4
  have h_Z0:=aa s1 _ h_Z0
  have h_Z10:=aa s1 _ h_Z10
  have h_Za:=aa s1 _ h_Za
  have h_Z1g:=aa s1 _ h_Z1g
  have h_Z9:=aa s1 _ h_Z9
  have h_Zj:=aa s1 _ h_Zj
  have sg:=sg.trans s1
  obtain ⟨t14,e_t14,hm⟩:=bs hm
  obtain ⟨t17,e_t17,hm⟩:=bs hm
  refine q_if (hL (c:=t17) (et_test (oh (e:=(eT Dat.int)) (x:=t3) (y:=t14) (kR gK) (by decide) (eVd K h_Z1g) (ai (res:=fun r=>DD K ((eT Dat.int) r)) (a:=(a.1,t5,t13,t2)) e_t14 (ae (eVd K h_Z8) (ae (eVd K h_Zj) (ae (eVd K h_Zy) (ae (eVd K h_Za) ea_nil))))))) (fun eb=>by have e1:=aJ eb e_t17; (obtain ⟨t15,e_t15,e1⟩:=bs e1); (obtain ⟨t16,e_t16,e1⟩:=bs e1); (have e1:=Option.some.inj e1); subst e1; exact (et_test (oh (e:=(eT Dat.int)) (x:=t15) (y:=t16) (kR gK) (by decide) (ai (res:=fun r=>DD K ((eT Dat.int) r)) (a:=(a.2.1,a.2.2.2.1.1,t1.1)) e_t15 (ae (eVd K h_Z11) (ae (au (d:=(eT Dat.str) a.2.2.2.1.1) rfl (eVd K h_Z4) ab) (ae (au (d:=(eT Dat.str) t1.1) rfl (eVd K h_Z10) ab) ea_nil)))) (ai (res:=fun r=>DD K ((eT Dat.int) r)) (a:=(a.1,t5)) e_t16 (ae (eVd K h_Z8) (ae (eVd K h_Zj) ea_nil)))))) (fun eb=>by have e1:=aK eb e_t17; cases e1; exact ⟨rfl,rfl⟩)) ok (fun hb G H s1 ok=>?_) (fun hb G H s1 ok=>?_)
  ·have hm:=aK hb hm
   have sg:=sg.trans s1
   refine aM (dJ (K:=K)) ok (fun v G H s1 ok hv=>?_)
   have sg:=sg.trans s1
   cases hv
   cases hm
   exact q es G H sg (by rw [upd_self hpm]; exact ok.less hB) (hdm.up sg)
  ·have hm:=aJ hb hm
   have h_Z8:=aa s1 _ h_Z8
   have h_Z11:=aa s1 _ h_Z11
   have h_Z5:=aa s1 _ h_Z5
   have h_Z4:=aa s1 _ h_Z4
   have h_Z0:=aa s1 _ h_Z0
   have h_Z10:=aa s1 _ h_Z10
   have h_Za:=aa s1 _ h_Za
   have h_Z1g:=aa s1 _ h_Z1g
   have h_Z9:=aa s1 _ h_Z9
   have h_Zj:=aa s1 _ h_Zj
   have h_Zy:=aa s1 _ h_Zy
   have sg:=sg.trans s1
   refine aV ?_
   obtain ⟨t18,e_t18,hm⟩:=bs hm
   obtain ⟨fin19,e_fin19,hm⟩:=bs hm
   have hmo22:=hm
   refine oa (ea:=Dat.int) (aX e_t18 (ae (du (e:=(eP2 Dat.str Dat.str)) (ae (eVd K h_Z9) ea_nil)) ea_nil)) ok (fun (st20 : Unit) σ1 G1 M1=>∃ (y_Z1w : Option V),σ1 = [some v_Z8,some v_Z11,some v_Z5,some v_Z4,some v_Z0,some (.ref p),some v_Z10,some v_Za,some v_Z1g,some v_Z9,some v_Zj,some v_Zy,y_Z1w,none]∧(Same M0 M1)) e_fin19 (fun G1 s1=>⟨_,rfl,hB⟩) (by rintro _ _ _ _ _ ⟨y_Z1w,rfl,hB⟩ s2; exact ⟨_,rfl,hB⟩) (fun x21 xv24 st20 st' σ1 G M H N hm hret23 hj s1 ok hv hN=>?_) (fun fin19s σ1 G M H hfin s1 ok hj=>?_)
   ·obtain ⟨y_Z1w,rfl,hB⟩:=hj
    have h_Z8:=aa s1 _ h_Z8
    have h_Z11:=aa s1 _ h_Z11
    have h_Z9:=aa s1 _ h_Z9
    have h_Zy:=aa s1 _ h_Zy
    have sg:=sg.trans s1
    have sl25:=Same.refl G
    refine gn ?_
    have h_Z1w:=hv
    cases h_Z1w
    refine nrm (σ':=[some v_Z8,some v_Z11,some v_Z5,some v_Z4,some v_Z0,some (.ref p),some v_Z10,some v_Za,some v_Z1g,some v_Z9,some v_Zj,some v_Zy,some (.int x21),none]) rfl ?_
    obtain ⟨t26,e_t26,hm⟩:=bs hm
    obtain ⟨t27,e_t27,hm⟩:=bs hm
    obtain ⟨t28,e_t28,hm⟩:=bs hm
    obtain ⟨t29,e_t29,hm⟩:=bs hm
    obtain ⟨t30,e_t30,hm⟩:=bs hm
    refine q_if (et_test (oh (e:=(eT Dat.int)) (x:=t28) (y:=t30) (kR gK) (by decide) (ai (res:=fun r=>DD K ((eT Dat.int) r)) (a:=(a.2.1,t26.1,t27.2)) e_t28 (ae (eVd K h_Z11) (ae (au (d:=Dat.str t26.1) rfl (br (e:=(eP2 Dat.str Dat.str)) e_t26 (eVd K h_Z9) (eVd K (.int _))) ab) (ae (au (d:=Dat.str t27.2) rfl (br (e:=(eP2 Dat.str Dat.str)) e_t27 (eVd K h_Z9) (eVd K (.int _))) ab) ea_nil)))) (ai (res:=fun r=>DD K ((eT Dat.int) r)) (a:=(a.1,t29)) e_t30 (ae (eVd K h_Z8) (ae (br (e:=(eL Dat.int)) e_t29 (eVd K h_Zy) (eVd K (.int _))) ea_nil))))) ok (fun hb G H s1 ok=>?_) (fun hb G H s1 ok=>?_)
    ·have hm:=aK hb hm
     have sg:=sg.trans s1
     refine aM (dJ (K:=K)) ok (fun v G H s1 ok hv=>?_)
     have sg:=sg.trans s1
     cases hv
     cases hm
     have hf0:=hret23 _ rfl
     rw [hf0] at hmo22
     have hmx0:=hmo22
     cases hmx0
     exact q es G H sg (by rw [upd_self hpm]; exact ok.less hB) (hdm.up sg)
    ·have hm:=aJ hb hm
     have sl25:=sl25.trans s1
     refine aV ?_
     refine bp ?_
     cases hm
     exact hN _ _ _ _ _ rfl sl25 ok ⟨_,rfl,hB⟩
   ·obtain ⟨y_Z1w,rfl,hB⟩:=hj
    have h_Z8:=aa s1 _ h_Z8
    have h_Z11:=aa s1 _ h_Z11
    have h_Z5:=aa s1 _ h_Z5
    have h_Z4:=aa s1 _ h_Z4
    have h_Z0:=aa s1 _ h_Z0
    have h_Z10:=aa s1 _ h_Z10
    have h_Za:=aa s1 _ h_Za
    have h_Z1g:=aa s1 _ h_Z1g
    have h_Z9:=aa s1 _ h_Z9
    have h_Zj:=aa s1 _ h_Zj
    have h_Zy:=aa s1 _ h_Zy
    have sg:=sg.trans s1
    rw [hfin] at hm
    have hm:=tW hm
    obtain ⟨t31,e_t31,hm⟩:=bs hm
    refine ve (rW (kt:=ktF) (e:=(eT Dat.int)) (k:=(t1.1,t2)) e_t31 (hB _ _ hpm) (hdm.up sg) (aq rfl) (bV (ag (au (d:=(eT Dat.str) t1.1) rfl (eVd K h_Z10) ab) (ag (eVd K h_Za) (aC (K:=K))))) (eVd K h_Z1g)) (fun x es G s1 hx=>by have h_Z8:=aa s1 _ h_Z8; have h_Z11:=aa s1 _ h_Z11; have h_Z5:=aa s1 _ h_Z5; have h_Z4:=aa s1 _ h_Z4; have h_Z0:=aa s1 _ h_Z0; have h_Z10:=aa s1 _ h_Z10; have h_Za:=aa s1 _ h_Za; have h_Z1g:=aa s1 _ h_Z1g; have h_Z9:=aa s1 _ h_Z9; have h_Zj:=aa s1 _ h_Zj; have h_Zy:=aa s1 _ h_Zy; exact (rd (e:=(eT Dat.int)) (x:=t31.1) (y:=t3) (kR gK) (by decide) (B1 hx) (eVd K h_Z1g))) ok (fun es G H s1 ok hd=>?_)
    cases hm
    exact q es G H (sg.trans s1) (ok.less (jy hB)) hd
theorem df : FnScope ["_law_store","_law_kit_here","_law_tower","_law_table_here","_law_stand_here","_law_known","_law_strokes_here","_law_more","_law_wide","_law_leaf","_law_where","_law_later","_law_turn"] ["_law_store"] (defScope uc):=fsc
def CN (K : Fg) (a : Unit) : List V→Hp→Prop:=az
def ux (a : Unit) (z : Sto) : Option (Bool×Sto):=
 (iT ((3 : Int),(6 : Int)) z).bind fun t1=>(pR (t1.1.1,t1.1.2)).bind fun t2=>(pQ t1.1).bind fun t3=>(pP t1.1 t1.2).bind fun t4=>(dL (t1.1.1.length : Int) (3 : Int)).bind fun t5=>(tJ (t1.1,((6 : Int) - t5))).bind fun t6=>(forR (R:=Bool×Sto) (fun (st8 : (List (KF×(List Int)))) (x9 : (List Str))=>(nK (t1.1,t2,t3,t4.1,x9) st8).bind fun t14=>cond (!t14.1) (some (.inr (false,t4.2))) (some (.inl t14.2))) t6 ([] : (List (KF×(List Int))))).bind fun fin7=>orR fin7 (fun fin7s=>(iT ((6 : Int),(24 : Int)) t4.2).bind fun t15=>(pR (t15.1.1,t15.1.2)).bind fun t16=>(pQ t15.1).bind fun t17=>(pP t15.1 t15.2).bind fun t18=>(cE (30 : Int)).bind fun t19=>(forR (R:=Bool×Sto) (fun (st21 : (List (KF×(List Int)))×Sto) (x22 : Int)=>(bR (17 : Int) st21.2).bind fun t27=>(qz (t15.1,t27.1) t27.2).bind fun t28=>(nK (t15.1,t16,t17,t18.1,t28.1) st21.1).bind fun t29=>cond (!t29.1) (some (.inr (false,t28.2))) (some (.inl (t29.2,t28.2)))) t19 (([] : (List (KF×(List Int)))),t18.2)).bind fun fin20=>orR fin20 (fun fin20s=>some (true,fin20s.2)) (fun r=>some r)) (fun r=>some r)
abbrev wu [Tb] (K : Fg) : Sp:=spD (CN K) (ux) fun r=>DD K (Dat.bool r)
theorem Bc [Tb] (T : Txt K mg) (O_Y1c : FnA P w base CX0 3 T.w_Y1c (tN K)) (O_Y8 : FnOk P w K mg base CX0 5 T.a_Y8 T.d_Y8 ["self","bells","notches"] (wj K)) (O_Yv : FnA P w base CX0 1 T.w_Yv (wl K)) (O_Yt : FnA P w base CX0 3 T.w_Yt (wm K)) (O_Y4 : FnA P w base CX0 1 T.w_Y4 (ww K)) (O_Y6 : FnA P w base CX0 7 T.w_Y6 (wh K w)) (O_Yf : FnA P w base CX0 2 T.w_Yf (wq K)) (O_Y14 : FnA P w base CX0 1 T.w_Y14 (ee K)) : FnA P w base CX0 (8) T.w_Yr (wu K):=by
 refine T.w_Yr.F.ok df (fun vs H Q E h=>?_) (fun cdv A outer s0 H vs Q E hr h=>?_)
 ·obtain ⟨G,M0,s,z,z1,a,r,ws,rfl,ok,hs,rfl,hm,q⟩:=h
  rfl
 ·obtain ⟨G,M0,s,z,z1,a,r,ws,rfl,ok,hs,rfl,hm,q⟩:=h
  unfold ux at hm
  have sg:=Same.refl G
  have hB : ∀ a u,a ≠ s→M0 a = some u→M0 a = some u:=fun _ _ _ h=>h
  refine ⟨_,(pss_cons (ps_set (i:=1) df.nd rfl (.inl rfl) (pcW T.w_Y1c O_Y1c (hr.mono (by decide)) (pa_cons (pv 0) (pa_cons pe_int (pa_cons pe_int pa_nil))))) (pss_cons (ps_asg (pe_tup (pa_cons (pe_make T.mk_Peal O_Y8 (hr.mono (by decide)) (by rfl) T.mg_Peal T.b_Y8 .nil pass0 (pa_cons (pe_ix (ah (K:=K)) (pv 1) pe_int (fun _ _=>rfl)) (pa_cons (pe_ix (ah (K:=K)) (pv 1) pe_int (fun _ _=>rfl)) pa_nil))) (pa_cons (pcW T.w_Yv O_Yv (hr.mono (by decide)) (pa_cons (pv 1) pa_nil)) (pa_cons (pcW T.w_Yt O_Yt (hr.mono (by decide)) (pa_cons (pv 0) (pa_cons (pv 1) pa_nil))) (pa_cons (oD (w:=w)) pa_nil))))) (pg_tup rfl (pgs_cons (pg_name (i:=2) df.nd rfl (.inl rfl)) (pgs_cons (pg_name (i:=3) df.nd rfl (.inl rfl)) (pgs_cons (pg_name (i:=4) df.nd rfl (.inl rfl)) (pgs_cons (pg_name (i:=5) df.nd rfl (.inl rfl)) pgs_nil)))))) (pss_cons (ps_for PassesOwn.never rfl (cR (K:=K) (pcW T.w_Y4 O_Y4 (hr.mono (by decide)) (pa_cons (pv 1) (pa_cons (pe_op op_sub pe_int (pe_op dU (pe_callB (aR (K:=K)) (by rfl) T.n_len (by decide +kernel) (pa_cons (pe_ix (ah (K:=K)) (pv 1) pe_int (fun _ _=>rfl)) pa_nil)) pe_int)) pa_nil)))) (pg_name (i:=6) df.nd rfl (.inl rfl)) (pss_cons (ps_if (pt_not (pt_val (pcW T.w_Y6 O_Y6 (hr.mono (by decide)) (pa_cons (pv 1) (pa_cons (pv 2) (pa_cons (pv 3) (pa_cons (pv 4) (pa_cons (pv 6) (pa_cons (pv 5) pa_nil))))))))) (pss_cons (ps_ret pe_bl) pss_nil) pss_nil) pss_nil)) (pss_cons (ps_set (i:=7) df.nd rfl (.inl rfl) (pcW T.w_Y1c O_Y1c (hr.mono (by decide)) (pa_cons (pv 0) (pa_cons pe_int (pa_cons pe_int pa_nil))))) (pss_cons (ps_asg (pe_tup (pa_cons (pe_make T.mk_Peal O_Y8 (hr.mono (by decide)) (by rfl) T.mg_Peal T.b_Y8 .nil pass0 (pa_cons (pe_ix (ah (K:=K)) (pv 7) pe_int (fun _ _=>rfl)) (pa_cons (pe_ix (ah (K:=K)) (pv 7) pe_int (fun _ _=>rfl)) pa_nil))) (pa_cons (pcW T.w_Yv O_Yv (hr.mono (by decide)) (pa_cons (pv 7) pa_nil)) (pa_cons (pcW T.w_Yt O_Yt (hr.mono (by decide)) (pa_cons (pv 0) (pa_cons (pv 7) pa_nil))) (pa_cons (oD (w:=w)) pa_nil))))) (pg_tup rfl (pgs_cons (pg_name (i:=8) df.nd rfl (.inl rfl)) (pgs_cons (pg_name (i:=9) df.nd rfl (.inl rfl)) (pgs_cons (pg_name (i:=10) df.nd rfl (.inl rfl)) (pgs_cons (pg_name (i:=11) df.nd rfl (.inl rfl)) pgs_nil)))))) (pss_cons (ps_for PassesOwn.never rfl (pi_range1 (by rfl) T.n_range (pa_cons pe_int pa_nil)) (pg_name (i:=12) df.nd rfl (.inl rfl)) (pss_cons (ps_if (pt_not (pt_val (pcW T.w_Y6 O_Y6 (hr.mono (by decide)) (pa_cons (pv 7) (pa_cons (pv 8) (pa_cons (pv 9) (pa_cons (pv 10) (pa_cons (pcW T.w_Yf O_Yf (hr.mono (by decide)) (pa_cons (pv 0) (pa_cons (pv 7) (pa_cons (pcW T.w_Y14 O_Y14 (hr.mono (by decide)) (pa_cons (pv 0) (pa_cons pe_int pa_nil))) pa_nil)))) (pa_cons (pv 11) pa_nil))))))))) (pss_cons (ps_ret pe_bl) pss_nil) pss_nil) pss_nil)) (pss_cons (ps_ret pe_bl) pss_nil))))))),?_⟩
  refine nrm (σ':=[some (.ref s),none,none,none,none,none,none,none,none,none,none,none,none]) rfl ?_
  obtain ⟨t1,e_t1,hm⟩:=bs hm
  refine bT (σ':=fun v=>[some (.ref s),some v,none,none,none,none,none,none,none,none,none,none,none]) (aL (a:=((3 : Int),(6 : Int))) (r:=t1.1) (z':=t1.2) hs e_t1 (ea_cons bo (aq rfl) (ae (ab (K:=K)) (ae (ab (K:=K)) ea_nil)))) ok (fun _=>rfl) (fun v_Z8 G H s1 ok h_Z8=>?_)
  have sg:=sg.trans s1
  have ok : Ok _ (upd M0 s (sto t1.2)) _:=ok
  have hs : (upd M0 s (sto t1.2)) s = some (sto t1.2):=upd_same
  have hB : ∀ a u,a ≠ s→M0 a = some u→(upd M0 s (sto t1.2)) a = some u:=(aG hB)
  obtain ⟨M,eM⟩ : ∃ m,m = (upd M0 s (sto t1.2)):=⟨_,rfl⟩
  rw [← eM] at ok hs hB
  clear eM
  obtain ⟨t2,e_t2,hm⟩:=bs hm
  obtain ⟨t3,e_t3,hm⟩:=bs hm
  obtain ⟨t4,e_t4,hm⟩:=bs hm
  refine tX (ng aQ (oX (a:=(t1.1.1,t1.1.2)) e_t2 (ae (au (d:=(eT (eP2 Dat.str Dat.int)) t1.1.1) rfl (eVd K h_Z8) ab) (ae (au (d:=(eT (eP3 Dat.str Dat.str Dat.int)) t1.1.2) rfl (eVd K h_Z8) ab) ea_nil))) (ng aQ (ai (res:=fun r=>DD K ((eDP Dat.int) r)) (a:=t1.1) e_t3 (ae (eVd K h_Z8) ea_nil)) (ng aQ (aL (a:=t1.1) (r:=t4.1) (z':=t4.2) hs e_t4 (ea_cons bo (aq rfl) (ae (eVd K h_Z8) ea_nil))) (zV (rG (kt:=ktF) (K:=K) (w:=w) (e:=(eT Dat.int))) fun p_Zo vs_Zo hn_Zo=>j6)))) ok (fun vs G Mq H s1 okN hx=>?_)
  obtain ⟨v_Z11,_,rfl,h_Z11,v_Z5,_,rfl,h_Z5,v_Z4,_,rfl,h_Z4,p_Zo,vs_Zo,_,rfl,hn_Zo,hd_Zo,rfl,eMq⟩:=hx
  have eMq:=eMq.symm
  subst eMq
  have ok:=okN
  refine oH (K:=K) ok fun G H s2 ok=>?_
  have s1:=s1.trans s2
  have h_Z11:=aa s2 _ h_Z11
  have h_Z5:=aa s2 _ h_Z5
  have h_Z4:=aa s2 _ h_Z4
  have hd_Zo:=bW.up s2 hd_Zo
  have h_Z8:=aa s1 _ h_Z8
  have sg:=sg.trans s1
  have n_Zw_Zo : s ≠ p_Zo:=ne_of_none upd_same hn_Zo
  have n_Zo_Zw:=n_Zw_Zo.symm
  have h0_Zo : M0 p_Zo = none:=eV (M:=(upd M s (sto t4.2))) (aG hB) upd_same hn_Zo
  have hd_Zo : bW ktF K G (eT Dat.int) vs_Zo ([] : (List (KF×(List Int)))):=hd_Zo
  refine nrm (σ':=[some (.ref s),some v_Z8,some v_Z11,some v_Z5,some v_Z4,some (.ref p_Zo),none,none,none,none,none,none,none]) rfl ?_
  have ok : Ok _ (upd (upd M s (sto t4.2)) p_Zo (dnO w p_Zo vs_Zo)) _:=ok
  have hs : (upd (upd M s (sto t4.2)) p_Zo (dnO w p_Zo vs_Zo)) s = some (sto t4.2):=(aZ n_Zw_Zo upd_same)
  have hB : ∀ a u,a ≠ s→M0 a = some u→(upd (upd M s (sto t4.2)) p_Zo (dnO w p_Zo vs_Zo)) a = some u:=(b8 (aG hB) h0_Zo)
  have hp_Zo : (upd (upd M s (sto t4.2)) p_Zo (dnO w p_Zo vs_Zo)) p_Zo = some (dnO w p_Zo vs_Zo):=upd_same
  obtain ⟨M,eM⟩ : ∃ m,m = (upd (upd M s (sto t4.2)) p_Zo (dnO w p_Zo vs_Zo)):=⟨_,rfl⟩
  rw [← eM] at ok hs hB hp_Zo
  clear eM
  obtain ⟨t5,e_t5,hm⟩:=bs hm
  obtain ⟨t6,e_t6,hm⟩:=bs hm
  obtain ⟨fin7,e_fin7,hm⟩:=bs hm
  have hmo10:=hm
  refine oa (ea:=(eT Dat.str)) (src_list (ai (res:=fun r=>DD K ((eL (eT Dat.str)) r)) (a:=(t1.1,((6 : Int) - t5))) e_t6 (ae (eVd K h_Z8) (ae (dE (ab (K:=K)) (eG e_t5 (bG (e:=(eP2 Dat.str Dat.int)) (ae (au (d:=(eT (eP2 Dat.str Dat.int)) t1.1.1) rfl (eVd K h_Z8) ab) ea_nil)) (ab (K:=K)))) ea_nil)))) ok (fun (st8 : (List (KF×(List Int)))) σ1 G1 M1=>∃ (y_Z0 : Option V) (vs_Zo : List (NestedKey×Addr×V)),σ1 = [some (.ref s),some v_Z8,some v_Z11,some v_Z5,some v_Z4,some (.ref p_Zo),y_Z0,none,none,none,none,none,none]∧(bW ktF K G1 (eT Dat.int) vs_Zo st8)∧(M1 p_Zo = some (dnO w p_Zo vs_Zo))∧(M1 s = some (sto t4.2))∧(∀ a u,a ≠ s→M0 a = some u→M1 a = some u)) e_fin7 (fun G1 s1=>⟨_,_,rfl,bW.up s1 hd_Zo,hp_Zo,hs,hB⟩) (by rintro _ _ _ _ _ ⟨y_Z0,vs_Zo,rfl,hd_Zo,hp_Zo,hs,hB⟩ s2; exact ⟨_,_,rfl,bW.up s2 hd_Zo,hp_Zo,hs,hB⟩) (fun x9 xv12 st8 st' σ1 G M H N hm hret11 hj s1 ok hv hN=>?_) (fun fin7s σ1 G M H hfin s1 ok hj=>?_)
  ·obtain ⟨y_Z0,vs_Zo,rfl,hd_Zo,hp_Zo,hs,hB⟩:=hj
   have h_Z8:=aa s1 _ h_Z8
   have h_Z11:=aa s1 _ h_Z11
   have h_Z5:=aa s1 _ h_Z5
   have h_Z4:=aa s1 _ h_Z4
   have sg:=sg.trans s1
   have sl13:=Same.refl G
   refine gn ?_
   have h_Z0:=hv
   refine nrm (σ':=[some (.ref s),some v_Z8,some v_Z11,some v_Z5,some v_Z4,some (.ref p_Zo),some xv12,none,none,none,none,none,none]) rfl ?_
   obtain ⟨t14,e_t14,hm⟩:=bs hm
   refine ro (a:=(t1.1,t2,t3,t4.1,x9)) e_t14 hp_Zo hd_Zo (ae (eVd K h_Z8) (ae (eVd K h_Z11) (ae (eVd K h_Z5) (ae (eVd K h_Z4) (ae (eVd K h_Z0) (ea_cons bo (aq rfl) ea_nil)))))) ok (fun hb vs_Zo G H s1 ok hd=>?_) (fun hb vs_Zo G H s1 ok hd=>?_)
   ·have hm:=aK (by rw [hb]; rfl) hm
    have sg:=sg.trans s1
    have ok : Ok _ (upd M p_Zo (dnO w p_Zo vs_Zo)) _:=ok
    have hs : (upd M p_Zo (dnO w p_Zo vs_Zo)) s = some (sto t4.2):=(aZ n_Zw_Zo hs)
    have hB : ∀ a u,a ≠ s→M0 a = some u→(upd M p_Zo (dnO w p_Zo vs_Zo)) a = some u:=(b8 hB h0_Zo)
    have hp_Zo : (upd M p_Zo (dnO w p_Zo vs_Zo)) p_Zo = some (dnO w p_Zo vs_Zo):=upd_same
    obtain ⟨M,eM⟩ : ∃ m,m = (upd M p_Zo (dnO w p_Zo vs_Zo)):=⟨_,rfl⟩
    rw [← eM] at ok hs hB hp_Zo
    clear eM
    refine aM (dJ (K:=K)) ok (fun v G H s1 ok hv=>?_)
    have sg:=sg.trans s1
    cases hm
    have hf0:=hret11 _ rfl
    rw [hf0] at hmo10
    have hmx0:=hmo10
    cases hmx0
    exact q v G H sg (ok.less (bU hB hs)) hv
   ·have hm:=aJ (by rw [hb]; rfl) hm
    have hd_Zo:=hd
    have sl13:=sl13.trans s1
    have ok : Ok _ (upd M p_Zo (dnO w p_Zo vs_Zo)) _:=ok
    have hs : (upd M p_Zo (dnO w p_Zo vs_Zo)) s = some (sto t4.2):=(aZ n_Zw_Zo hs)
    have hB : ∀ a u,a ≠ s→M0 a = some u→(upd M p_Zo (dnO w p_Zo vs_Zo)) a = some u:=(b8 hB h0_Zo)
    have hp_Zo : (upd M p_Zo (dnO w p_Zo vs_Zo)) p_Zo = some (dnO w p_Zo vs_Zo):=upd_same
    obtain ⟨M,eM⟩ : ∃ m,m = (upd M p_Zo (dnO w p_Zo vs_Zo)):=⟨_,rfl⟩
    rw [← eM] at ok hs hB hp_Zo
    clear eM
    refine bp ?_
    cases hm
    exact hN _ _ _ _ _ rfl sl13 ok ⟨_,_,rfl,hd_Zo,hp_Zo,hs,hB⟩
  ·obtain ⟨y_Z0,vs_Zo,rfl,hd_Zo,hp_Zo,hs,hB⟩:=hj
   have sg:=sg.trans s1
   rw [hfin] at hm
   have hm:=tW hm
   obtain ⟨t15,e_t15,hm⟩:=bs hm
   refine bT (σ':=fun v=>[some (.ref s),some v_Z8,some v_Z11,some v_Z5,some v_Z4,some (.ref p_Zo),y_Z0,some v,none,none,none,none,none]) (aL (a:=((6 : Int),(24 : Int))) (r:=t15.1) (z':=t15.2) hs e_t15 (ea_cons bo (aq rfl) (ae (ab (K:=K)) (ae (ab (K:=K)) ea_nil)))) ok (fun _=>rfl) (fun v_Z1g G H s1 ok h_Z1g=>?_)
   have sg:=sg.trans s1
   have ok : Ok _ (upd M s (sto t15.2)) _:=ok
   have hs : (upd M s (sto t15.2)) s = some (sto t15.2):=upd_same
   have hB : ∀ a u,a ≠ s→M0 a = some u→(upd M s (sto t15.2)) a = some u:=(aG hB)
   have hp_Zo : (upd M s (sto t15.2)) p_Zo = some (dnO w p_Zo vs_Zo):=(aZ n_Zo_Zw hp_Zo)
   obtain ⟨M,eM⟩ : ∃ m,m = (upd M s (sto t15.2)):=⟨_,rfl⟩
   rw [← eM] at ok hs hB hp_Zo
   clear eM
   obtain ⟨t16,e_t16,hm⟩:=bs hm
   obtain ⟨t17,e_t17,hm⟩:=bs hm
   obtain ⟨t18,e_t18,hm⟩:=bs hm
   refine tX (ng aQ (oX (a:=(t15.1.1,t15.1.2)) e_t16 (ae (au (d:=(eT (eP2 Dat.str Dat.int)) t15.1.1) rfl (eVd K h_Z1g) ab) (ae (au (d:=(eT (eP3 Dat.str Dat.str Dat.int)) t15.1.2) rfl (eVd K h_Z1g) ab) ea_nil))) (ng aQ (ai (res:=fun r=>DD K ((eDP Dat.int) r)) (a:=t15.1) e_t17 (ae (eVd K h_Z1g) ea_nil)) (ng aQ (aL (a:=t15.1) (r:=t18.1) (z':=t18.2) hs e_t18 (ea_cons bo (aq rfl) (ae (eVd K h_Z1g) ea_nil))) (zV (rG (kt:=ktF) (K:=K) (w:=w) (e:=(eT Dat.int))) fun p_Zp vs_Zp hn_Zp=>j6)))) ok (fun vs G Mq H s1 okN hx=>?_)
   obtain ⟨v_Z1p,_,rfl,h_Z1p,v_Z19,_,rfl,h_Z19,v_Z12,_,rfl,h_Z12,p_Zp,vs_Zp,_,rfl,hn_Zp,hd_Zp,rfl,eMq⟩:=hx
   have eMq:=eMq.symm
   subst eMq
   have ok:=okN
   refine oH (K:=K) ok fun G H s2 ok=>?_
   have s1:=s1.trans s2
   have h_Z1p:=aa s2 _ h_Z1p
   have h_Z19:=aa s2 _ h_Z19
   have h_Z12:=aa s2 _ h_Z12
   have hd_Zp:=bW.up s2 hd_Zp
   have h_Z1g:=aa s1 _ h_Z1g
   have sg:=sg.trans s1
   have n_Zo_Zp : p_Zo ≠ p_Zp:=ne_of_none (aZ n_Zo_Zw hp_Zo) hn_Zp
   have n_Zw_Zp : s ≠ p_Zp:=ne_of_none upd_same hn_Zp
   have n_Zp_Zw:=n_Zw_Zp.symm
   have h0_Zp : M0 p_Zp = none:=eV (M:=(upd M s (sto t18.2))) (aG hB) upd_same hn_Zp
   have hd_Zp : bW ktF K G (eT Dat.int) vs_Zp ([] : (List (KF×(List Int)))):=hd_Zp
   refine nrm (σ':=[some (.ref s),some v_Z8,some v_Z11,some v_Z5,some v_Z4,some (.ref p_Zo),y_Z0,some v_Z1g,some v_Z1p,some v_Z19,some v_Z12,some (.ref p_Zp),none]) rfl ?_
   have ok : Ok _ (upd (upd M s (sto t18.2)) p_Zp (dnO w p_Zp vs_Zp)) _:=ok
   have hs : (upd (upd M s (sto t18.2)) p_Zp (dnO w p_Zp vs_Zp)) s = some (sto t18.2):=(aZ n_Zw_Zp upd_same)
   have hB : ∀ a u,a ≠ s→M0 a = some u→(upd (upd M s (sto t18.2)) p_Zp (dnO w p_Zp vs_Zp)) a = some u:=(b8 (aG hB) h0_Zp)
   have hp_Zo : (upd (upd M s (sto t18.2)) p_Zp (dnO w p_Zp vs_Zp)) p_Zo = some (dnO w p_Zo vs_Zo):=(aZ n_Zo_Zp (aZ n_Zo_Zw hp_Zo))
   have hp_Zp : (upd (upd M s (sto t18.2)) p_Zp (dnO w p_Zp vs_Zp)) p_Zp = some (dnO w p_Zp vs_Zp):=upd_same
   obtain ⟨M,eM⟩ : ∃ m,m = (upd (upd M s (sto t18.2)) p_Zp (dnO w p_Zp vs_Zp)):=⟨_,rfl⟩
   rw [← eM] at ok hs hB hp_Zo hp_Zp
   clear eM
   obtain ⟨t19,e_t19,hm⟩:=bs hm
   obtain ⟨fin20,e_fin20,hm⟩:=bs hm
   have hmo23:=hm
   refine oa (ea:=Dat.int) (aX e_t19 (ae (ab (K:=K)) ea_nil)) ok (fun (st21 : (List (KF×(List Int)))×Sto) σ1 G1 M1=>∃ (y_Z1m : Option V) (vs_Zp : List (NestedKey×Addr×V)),σ1 = [some (.ref s),some v_Z8,some v_Z11,some v_Z5,some v_Z4,some (.ref p_Zo),y_Z0,some v_Z1g,some v_Z1p,some v_Z19,some v_Z12,some (.ref p_Zp),y_Z1m]∧(M1 p_Zo = some (dnO w p_Zo vs_Zo))∧(bW ktF K G1 (eT Dat.int) vs_Zp st21.1)∧(M1 p_Zp = some (dnO w p_Zp vs_Zp))∧(M1 s = some (sto st21.2))∧(∀ a u,a ≠ s→M0 a = some u→M1 a = some u)) e_fin20 (fun G1 s1=>⟨_,_,rfl,hp_Zo,bW.up s1 hd_Zp,hp_Zp,hs,hB⟩) (by rintro _ _ _ _ _ ⟨y_Z1m,vs_Zp,rfl,hp_Zo,hd_Zp,hp_Zp,hs,hB⟩ s2; exact ⟨_,_,rfl,hp_Zo,bW.up s2 hd_Zp,hp_Zp,hs,hB⟩) (fun x22 xv25 st21 st' σ1 G M H N hm hret24 hj s1 ok hv hN=>?_) (fun fin20s σ1 G M H hfin s1 ok hj=>?_)
   ·obtain ⟨y_Z1m,vs_Zp,rfl,hp_Zo,hd_Zp,hp_Zp,hs,hB⟩:=hj
    have h_Z1g:=aa s1 _ h_Z1g
    have h_Z1p:=aa s1 _ h_Z1p
    have h_Z19:=aa s1 _ h_Z19
    have h_Z12:=aa s1 _ h_Z12
    have sg:=sg.trans s1
    have sl26:=Same.refl G
    refine gn ?_
    have h_Z1m:=hv
    cases h_Z1m
    refine nrm (σ':=[some (.ref s),some v_Z8,some v_Z11,some v_Z5,some v_Z4,some (.ref p_Zo),y_Z0,some v_Z1g,some v_Z1p,some v_Z19,some v_Z12,some (.ref p_Zp),some (.int x22)]) rfl ?_
    obtain ⟨t27,e_t27,hm⟩:=bs hm
    obtain ⟨t28,e_t28,hm⟩:=bs hm
    obtain ⟨t29,e_t29,hm⟩:=bs hm
    refine ro (a:=(t15.1,t16,t17,t18.1,t28.1)) e_t29 (aZ n_Zp_Zw (aZ n_Zp_Zw hp_Zp)) hd_Zp (ae (eVd K h_Z1g) (ae (eVd K h_Z1p) (ae (eVd K h_Z19) (ae (eVd K h_Z12) (ae (aL (a:=(t15.1,t27.1)) (r:=t28.1) (z':=t28.2) upd_same e_t28 (ea_cons bo (aq rfl) (ae (eVd K h_Z1g) (ae (aL (a:=(17 : Int)) (r:=t27.1) (z':=t27.2) hs e_t27 (ea_cons bo (aq rfl) (ae (ab (K:=K)) ea_nil))) ea_nil)))) (ea_cons bo (aq rfl) ea_nil)))))) ok (fun hb vs_Zp G H s1 ok hd=>?_) (fun hb vs_Zp G H s1 ok hd=>?_)
    ·have hm:=aK (by rw [hb]; rfl) hm
     have sg:=sg.trans s1
     have ok : Ok _ (upd (upd (upd M s (sto t27.2)) s (sto t28.2)) p_Zp (dnO w p_Zp vs_Zp)) _:=ok
     have hs : (upd (upd (upd M s (sto t27.2)) s (sto t28.2)) p_Zp (dnO w p_Zp vs_Zp)) s = some (sto t28.2):=(aZ n_Zw_Zp upd_same)
     have hB : ∀ a u,a ≠ s→M0 a = some u→(upd (upd (upd M s (sto t27.2)) s (sto t28.2)) p_Zp (dnO w p_Zp vs_Zp)) a = some u:=(b8 (aG (aG hB)) h0_Zp)
     have hp_Zo : (upd (upd (upd M s (sto t27.2)) s (sto t28.2)) p_Zp (dnO w p_Zp vs_Zp)) p_Zo = some (dnO w p_Zo vs_Zo):=(aZ n_Zo_Zp (aZ n_Zo_Zw (aZ n_Zo_Zw hp_Zo)))
     have hp_Zp : (upd (upd (upd M s (sto t27.2)) s (sto t28.2)) p_Zp (dnO w p_Zp vs_Zp)) p_Zp = some (dnO w p_Zp vs_Zp):=upd_same
     obtain ⟨M,eM⟩ : ∃ m,m = (upd (upd (upd M s (sto t27.2)) s (sto t28.2)) p_Zp (dnO w p_Zp vs_Zp)):=⟨_,rfl⟩
     rw [← eM] at ok hs hB hp_Zo hp_Zp
     clear eM
     refine aM (dJ (K:=K)) ok (fun v G H s1 ok hv=>?_)
     have sg:=sg.trans s1
     cases hm
     have hf0:=hret24 _ rfl
     rw [hf0] at hmo23
     have hmx0:=hmo23
     cases hmx0
     exact q v G H sg (ok.less (bU hB hs)) hv
    ·have hm:=aJ (by rw [hb]; rfl) hm
     have hd_Zp:=hd
     have sl26:=sl26.trans s1
     have ok : Ok _ (upd (upd (upd M s (sto t27.2)) s (sto t28.2)) p_Zp (dnO w p_Zp vs_Zp)) _:=ok
     have hs : (upd (upd (upd M s (sto t27.2)) s (sto t28.2)) p_Zp (dnO w p_Zp vs_Zp)) s = some (sto t28.2):=(aZ n_Zw_Zp upd_same)
     have hB : ∀ a u,a ≠ s→M0 a = some u→(upd (upd (upd M s (sto t27.2)) s (sto t28.2)) p_Zp (dnO w p_Zp vs_Zp)) a = some u:=(b8 (aG (aG hB)) h0_Zp)
     have hp_Zo : (upd (upd (upd M s (sto t27.2)) s (sto t28.2)) p_Zp (dnO w p_Zp vs_Zp)) p_Zo = some (dnO w p_Zo vs_Zo):=(aZ n_Zo_Zp (aZ n_Zo_Zw (aZ n_Zo_Zw hp_Zo)))
     have hp_Zp : (upd (upd (upd M s (sto t27.2)) s (sto t28.2)) p_Zp (dnO w p_Zp vs_Zp)) p_Zp = some (dnO w p_Zp vs_Zp):=upd_same
     obtain ⟨M,eM⟩ : ∃ m,m = (upd (upd (upd M s (sto t27.2)) s (sto t28.2)) p_Zp (dnO w p_Zp vs_Zp)):=⟨_,rfl⟩
     rw [← eM] at ok hs hB hp_Zo hp_Zp
     clear eM
     refine bp ?_
     cases hm
     exact hN _ _ _ _ _ rfl sl26 ok ⟨_,_,rfl,hp_Zo,hd_Zp,hp_Zp,hs,hB⟩
   ·obtain ⟨y_Z1m,vs_Zp,rfl,hp_Zo,hd_Zp,hp_Zp,hs,hB⟩:=hj
    have sg:=sg.trans s1
    rw [hfin] at hm
    have hm:=tW hm
    refine aM (dJ (K:=K)) ok (fun v G H s1 ok hv=>?_)
    have sg:=sg.trans s1
    cases hm
    exact q v G H sg (ok.less (bU hB hs)) hv
theorem mX : FnScope ["_law_script","_law_k"] ["_law_script"] (defScope c0):=fsc
def a_law (K : Fg) (a : (List Int)) : List V→Hp→Prop:=ak (SCP K a) (az)
def lC (a : (List Int)) : Option Bool:=
 (cE (if (if (3 : Int) < (a.length : Int) then (3 : Int) else (a.length : Int)) > (2 : Int) then (if (3 : Int) < (a.length : Int) then (3 : Int) else (a.length : Int)) else (2 : Int))).bind fun t1=>(lcO (fun x2 : Int=>(ri (a,x2)).bind fun t8=>(ux () t8).bind fun t9=>some t9.1) t1).bind fun t10=>some (t10.all id)
abbrev nw [Tb] (K : Fg) : Sp:=spP (a_law K) (lC) fun r=>DD K (Dat.bool r)
theorem yN [Tb] (T : Txt K mg) (O_Yr : FnA P w base CX0 8 T.w_Yr (wu K)) (O_Yj : FnA P w base CX0 1 T.w_Yj (wW K)) : FnOk P w K mg base CX0 (9) T.a_law T.d_law ["_law_script"] (nw K):=by
 refine T.F_law.ok mX (fun vs H Q E h=>?_) (fun cdv A outer s0 H vs Q E hr h=>?_)
 ·obtain ⟨G,M0,a,r,ok,⟨v_Zg,_,rfl,h_Zg,rfl⟩,hm,q⟩:=h
  rfl
 ·obtain ⟨G,M0,a,r,ok,⟨v_Zg,_,rfl,h_Zg,rfl⟩,hm,q⟩:=h
  unfold lC at hm
  have sg:=Same.refl G
  have hB:=Same.refl M0
  refine ⟨_,(pss_cons (ps_ret (pe_callB (fQ (K:=K) rfl) (by rfl) T.n_all (by decide +kernel) (pa_cons (pe_lc (own:=[("_law_k",1)]) (g:=(gName 1)) (tt:=tYes) rfl mX.nd (pi_range1 (by rfl) T.n_range (pa_cons (pe_callB (v6 rfl) (by rfl) T.n_max (by decide +kernel) (pa_cons pe_int (pa_cons (pe_callB (vO rfl) (by rfl) T.n_min (by decide +kernel) (pa_cons (pe_callB (aR (K:=K)) (by rfl) T.n_len (by decide +kernel) (pa_cons (pv 0) pa_nil)) (pa_cons pe_int pa_nil))) pa_nil))) pa_nil)) (blkOk_by (own:=[("_law_k",1)]) (N:=["_law_script","_law_k"]) (sc:=defScope c0) (by decide +kernel)) (fun _ _ _ _ _=>(pg_name (i:=1) mX.nd rfl (by first | exact .inl rfl | exact .inr rfl))) (fun _ _ _ _ _=>pts_nil) (fun _ _ _ _ _=>(pcW T.w_Yr O_Yr (hr.mono (by decide)) (pa_cons (pcW T.w_Yj O_Yj (hr.mono (by decide)) (pa_cons (pv 0) (pa_cons (pv 1) pa_nil))) pa_nil)))) pa_nil))) pss_nil),?_⟩
  refine nrm (σ':=[some v_Zg,none]) rfl ?_
  obtain ⟨t1,e_t1,hm⟩:=bs hm
  obtain ⟨t10,e_t10,hm⟩:=bs hm
  refine aM (fK (ae (EvL.ev (bj (ea:=Dat.int) (eb:=Dat.bool) (xs:=t1) (ys:=t10) (hf:=e_t10) (aX e_t1 (ae (ev_max2 (ae (ab (K:=K)) (ae (uU (ae (jT (ea_cons cX (ev_var rfl cX h_Zg) ea_nil)) (ae (ab (K:=K)) ea_nil))) ea_nil))) ea_nil)) (fun x2 _ Mx6 _ _ he7 sM5 sG4 hv3=>by (obtain ⟨t8,e_t8,he7⟩:=bs he7); (obtain ⟨t9,e_t9,he7⟩:=bs he7); cases he7; exact (ay ⟨rfl,(vB (a:=(a,x2)) e_t8 e_t9 (fun _=>rfl) (ea_cons cX (ev_var rfl cX (cX _ _ _ sG4 h_Zg)) (ea_cons aQ (eVd K hv3) ea_nil)))⟩)))) ea_nil)) ok (fun v G H s1 ok hv=>?_)
  have sg:=sg.trans s1
  cases hm
  exact q v G H sg (ok.less hB) hv
end K13
end
section
namespace Mx
open PySem L2 Kx
def Wp {α : Type} (o : Option α) (P : α→Prop) : Prop:=∃ r,o = some r∧P r
section
variable {α β γ S R : Type}
theorem af {r : α} {P : α→Prop} (h : P r) : Wp (some r) P:=⟨r,rfl,h⟩
theorem wp_bind {o : Option α} {f : α→Option β} {P : α→Prop} {Q : β→Prop} (h : Wp o P) (k : ∀ r,P r→Wp (f r) Q) : Wp (o.bind f) Q:=by
  obtain ⟨r,e,p⟩:=h
  obtain ⟨s,e2,q⟩:=k r p
  exact ⟨s,by rw [e]; exact e2,q⟩
theorem Wp.imp {o : Option α} {P Q : α→Prop} (h : Wp o P) (k : ∀ r,P r→Q r) : Wp o Q:=by
  obtain ⟨r,e,p⟩:=h
  exact ⟨r,e,k r p⟩
theorem aO {b : Bool} {x y : Option α} {P : α→Prop} (h1 : b = true→Wp x P) (h2 : b = false→Wp y P) : Wp (cond b x y) P:=by
  cases b with
  | true=>exact h1 rfl
  | false=>exact h2 rfl
theorem bQ {p : Prop} [Decidable p] (h : p) : Wp (grd p) fun _=>True:=⟨(),bD h,trivial⟩
theorem cw {i j : Int} {P : Int→Prop} (h : fM i j) (k : P (i * j)) : Wp (fc i j) P:=wp_bind (bQ h) fun _ _=>af k
theorem iF {i j : Int} {P : Int→Prop} (h : CDivN i j) (k : P (i.fdiv j)) : Wp (dL i j) P:=wp_bind (bQ (.inl h)) fun _ _=>af k
theorem cZ {i j : Int} {P : Int→Prop} (h : j ≠ 0) (k : P (i.fmod j)) : Wp (dr i j) P:=wp_bind (bQ h) fun _ _=>af k
theorem uJ {i j : Int} {P : Int→Prop} (h : CPow i j) (k : P (i ^ j.toNat)) : Wp (uI i j) P:=wp_bind (bQ h) fun _ _=>af k
theorem AF {i j : Int} {n : Nat} (h1 : 0 < j) (h2 : j < 2 ^ 200) : CDivW i j:=⟨h1,Nat.lt_of_lt_of_le (PySem.Flt.log2_lt_of (k:=200) (by decide) (by omega)) (by decide)⟩
theorem xV {i j : Int} {P : Int×Int→Prop} (h : CDivW i j) (k : P (i / j,i % j)) : Wp (dmO i j) P:=wp_bind (bQ h) fun _ _=>af k
theorem c5 {o : Option α} {x : α} {P : α→Prop} (h : o = some x) (k : P x) : Wp o P:=⟨x,h,k⟩
theorem gR {xs : List α} {x : α} {P : List α→Prop} (h : xs.length < 16777216) (k : P (xs ++ [x])) : Wp (pU xs x) P:=wp_bind (bQ h) fun _ _=>af k
theorem km {xs ys : List α} {P : List α→Prop} (h : xs.length + ys.length ≤ 16777216) (k : P (xs ++ ys)) : Wp (gH xs ys) P:=wp_bind (bQ h) fun _ _=>af k
theorem vA {n : Int} {P : List Int→Prop} (h : -(2 ^ 62) ≤ n∧n < 2 ^ 62) (k : P (aN 0 n)) : Wp (cE n) P:=wp_bind (bQ h) fun _ _=>af k
theorem bY {n : Nat} {P : List Int→Prop} (h : n ≤ 16777216) (k : P (aN 0 (n : Int))) : Wp (cE (n : Int)) P:=vA (by omega) k
theorem ol {xs : List α} {i : Nat} {x : α} {P : List α→Prop} (h : i < xs.length) (k : P (xs.set i x)) : Wp (rc xs (i : Int) x) P:=by
  unfold rc ixN
  rw [if_pos (by omega),if_pos (by omega)]
  exact af k
theorem bA {xs : List α} {i : Nat} (h : i < xs.length) : atI xs (i : Int) = some xs[i]:=by
  unfold atI ixN
  rw [if_pos (by omega),if_pos (by omega)]
  show xs[(i : Int).toNat]? = _
  rw [Int.toNat_natCast]
  exact List.getElem?_eq_getElem h
theorem fZ {xs : List α} {i : Nat} {P : α→Prop} (h : i < xs.length) (k : P xs[i]) : Wp (atI xs (i : Int)) P:=⟨_,bA h,k⟩
theorem ox {f : α→Option β} {T : α→β→Prop} : ∀ {xs : List α},(∀ x ∈ xs,Wp (f x) (T x))→Wp (cD f xs) fun ys=>ys.length = xs.length∧∀ (i : Nat) (x : α) (y : β),xs[i]? = some x→ys[i]? = some y→T x y
  | [],_=>af ⟨rfl,fun i x y h=>by simp at h⟩
  | a :: xs,h=>by
    refine wp_bind (h a List.mem_cons_self) fun b hb=>wp_bind (ox fun x hx=>h x (List.mem_cons_of_mem _ hx)) fun ys hys=>af ⟨congrArg (· + 1) hys.1,fun i x y hx hy=>?_⟩
    cases i with
    | zero=>simp at hx hy; subst hx; subst hy; exact hb
    | succ i=>exact hys.2 i x y (by simpa using hx) (by simpa using hy)
theorem c6 {f : α→Option β} {xs : List α} {P : List β→Prop} (T : α→β→Prop) (hl : xs.length ≤ 16777216) (h : ∀ x ∈ xs,Wp (f x) (T x)) (k : ∀ ys,ys.length = xs.length→(∀ (i : Nat) (x : α) (y : β),xs[i]? = some x→ys[i]? = some y→T x y)→P ys) : Wp (lcO f xs) P:=
  wp_bind (bQ hl) fun _ _=>(ox h).imp fun ys hy=>k ys hy.1 hy.2
theorem bC {f : α→Option β} {xs : List α} {P : List β→Prop} (g : α→β) (hl : xs.length ≤ 16777216) (h : ∀ x ∈ xs,f x = some (g x)) (k : P (xs.map g)) : Wp (lcO f xs) P:=
  c6 (fun x y=>y = g x) hl (fun x hx=>⟨g x,h x hx,rfl⟩) fun ys h1 h2=>by
    have : ys = xs.map g:=by
      apply List.ext_getElem?
      intro i
      rw [List.getElem?_map]
      by_cases hi : i < xs.length
      · rw [List.getElem?_eq_getElem hi,List.getElem?_eq_getElem (by omega)]
        exact congrArg some (h2 i xs[i] ys[i] (List.getElem?_eq_getElem hi) (List.getElem?_eq_getElem (by omega)))
      · rw [List.getElem?_eq_none (by omega),List.getElem?_eq_none (by omega)]
        rfl
    rw [this]
    exact k
theorem oV {f : α→Sto→Option (β×Sto)} {T : α→β→Prop} : ∀ {xs : List α} {z : Sto},(∀ x ∈ xs,∀ z,Wp (f x z) fun r=>T x r.1)→Wp (uY f xs z) fun r=>r.1.length = xs.length∧∀ (i : Nat) (x : α) (y : β),xs[i]? = some x→r.1[i]? = some y→T x y
  | [],z,_=>af ⟨rfl,fun i x y h=>by simp at h⟩
  | a :: xs,z,h=>by
    refine wp_bind (h a List.mem_cons_self z) fun b hb=>wp_bind (oV fun x hx=>h x (List.mem_cons_of_mem _ hx)) fun ys hys=>af ⟨congrArg (· + 1) hys.1,fun i x y hx hy=>?_⟩
    cases i with
    | zero=>simp at hx hy; subst hx; subst hy; exact hb
    | succ i=>exact hys.2 i x y (by simpa using hx) (by simpa using hy)
theorem mU {f : α→Sto→Option (β×Sto)} {xs : List α} {z : Sto} {P : List β×Sto→Prop} (T : α→β→Prop) (hl : xs.length ≤ 16777216) (h : ∀ x ∈ xs,∀ z,Wp (f x z) fun r=>T x r.1) (k : ∀ r : List β×Sto,r.1.length = xs.length→(∀ (i : Nat) (x : α) (y : β),xs[i]? = some x→r.1[i]? = some y→T x y)→P r) : Wp (lcS f xs z) P:=
  wp_bind (bQ hl) fun _ _=>(oV h).imp fun ys hy=>k ys hy.1 hy.2
theorem nz {f : S→α→Option S} {xs : List α} {P : S→Prop} (I : Nat→S→Prop) (hs : ∀ (i : Nat) (x : α) (s : S),xs[i]? = some x→I i s→Wp (f s x) (I (i + 1))) (hd : ∀ s,I xs.length s→P s) : ∀ (i : Nat) (s : S),i ≤ xs.length→I i s→Wp (cC f (xs.drop i) s) P:=by
  intro i
  generalize hn : xs.length - i = n
  induction n generalizing i with
  | zero=>
    intro s hi h
    have e : i = xs.length:=by omega
    subst e
    rw [List.drop_length]
    exact af (hd s h)
  | succ n ih=>
    intro s hi h
    have hlt : i < xs.length:=by omega
    rw [List.drop_eq_getElem_cons hlt]
    exact wp_bind (hs i xs[i] s (List.getElem?_eq_getElem hlt) h) fun s' h'=>ih (i + 1) (by omega) s' (by omega) h'
theorem bK {f : S→α→Option S} {xs : List α} {s : S} {P : S→Prop} (I : Nat→S→Prop) (h0 : I 0 s) (hs : ∀ (i : Nat) (x : α) (s : S),xs[i]? = some x→I i s→Wp (f s x) (I (i + 1))) (hd : ∀ s,I xs.length s→P s) : Wp (cC f xs s) P:=
  nz I hs hd 0 s (Nat.zero_le _) h0
theorem vw {f : S→α→Option (S ⊕ R)} {xs : List α} {s : S} {P : S ⊕ R→Prop} (I : S→Prop) (h0 : I s) (hs : ∀ x ∈ xs,∀ s,I s→Wp (f s x) fun r=>∃ s',r = .inl s'∧I s') (hd : ∀ s,I s→P (.inl s)) : Wp (forR f xs s) P:=by
  induction xs generalizing s with
  | nil=>exact af (hd s h0)
  | cons a xs ih=>
    refine wp_bind (hs a List.mem_cons_self s h0) fun r hr=>?_
    obtain ⟨s',rfl,h'⟩:=hr
    exact ih h' fun x hx=>hs x (List.mem_cons_of_mem _ hx)
end
theorem nj (n : Nat) : aN 0 (n : Int) = (List.range n).map fun k : Nat=>(k : Int):=by
  unfold aN
  rw [Int.sub_zero,Int.toNat_natCast]
  apply List.map_congr_left
  intro a _
  exact Int.zero_add _
theorem av (n : Nat) : (aN 0 (n : Int)).length = n:=by rw [iV]; omega
theorem cf {n i : Nat} {x : Int} (h : (aN 0 (n : Int))[i]? = some x) : i < n∧x = (i : Int):=by
  have hl : i < (aN 0 (n : Int)).length:=(List.getElem?_eq_some_iff.mp h).1
  rw [av] at hl
  rw [cP (by omega)] at h
  cases h
  exact ⟨hl,by omega⟩
theorem cu {n : Nat} {x : Int} (h : x ∈ aN 0 (n : Int)) : ∃ i : Nat,i < n∧x = (i : Int):=by
  obtain ⟨i,hi,e⟩:=List.mem_iff_getElem.mp h
  exact ⟨i,cf (by rw [← e]; exact List.getElem?_eq_getElem hi)⟩
theorem kz {α : Type} {xs : List α} {i : Nat} {p : Int×α} (h : (dO xs)[i]? = some p) : ∃ x,xs[i]? = some x∧p = ((i : Int),x):=by
  unfold dO at h
  rw [List.getElem?_mapIdx] at h
  cases e : xs[i]? with
  | none=>rw [e] at h; cases h
  | some x=>rw [e] at h; cases h; exact ⟨x,rfl,rfl⟩
theorem d7 {α : Type} (xs : List α) (p : Nat) : cut xs (some (p : Int)) none = xs.drop p:=by
  unfold cut
  rw [HT.sIx_none,HT.sIx_nat,show List.take (xs.length - min p xs.length) (List.drop (min p xs.length) xs) = List.drop (min p xs.length) xs from List.take_of_length_le (by rw [List.length_drop]; omega)]
  by_cases h : p ≤ xs.length
  · rw [Nat.min_eq_left h]
  · rw [Nat.min_eq_right (by omega),List.drop_length,List.drop_of_length_le (by omega)]
theorem xZ {α : Type} (xs : List α) (p : Nat) : cut xs none (some (p : Int)) = xs.take p:=by
  unfold cut
  rw [HT.sIx_none,HT.sIx_nat,List.drop_zero,Nat.sub_zero]
  by_cases h : p ≤ xs.length
  · rw [Nat.min_eq_left h]
  · rw [Nat.min_eq_right (by omega),List.take_length,List.take_of_length_le (by omega)]
end Mx
end
section
namespace Mx
abbrev Vc:=Nat→Int
def vf (l : List Int) : Vc:=fun i=>l.getD i 0
theorem Bq {l : List Int} {i : Nat} (h : i < l.length) : vf l i = l[i]:=by unfold vf; simp [List.getD,h]
inductive Spn (S : Vc→Prop) : Vc→Prop
  | zero : Spn S fun _=>0
  | add {x g : Vc} : Spn S x→S g→Spn S fun i=>x i + g i
  | sub {x g : Vc} : Spn S x→S g→Spn S fun i=>x i - g i
section
variable {S T : Vc→Prop}
theorem Spn.is {x y : Vc} (h : Spn S x) (e : ∀ i,x i = y i) : Spn S y:=by
  have : x = y:=funext e
  exact this ▸ h
theorem Spn.of {g : Vc} (h : S g) : Spn S g:=(Spn.add .zero h).is fun i=>by (try dsimp only); omega
end
def vP (n : Nat) (r : Nat→Vc) : Nat→Nat→Vc→Prop
  | 0,_,x=>∀ i,x i = 0
  | m + 1,p,x=>∃ c : Int,x p = c * r p p∧vP n r m (p + 1) fun i=>x i - c * r p i
theorem vP.is {n : Nat} {r : Nat→Vc} : ∀ {m p : Nat} {x y : Vc},vP n r m p x→(∀ i,x i = y i)→vP n r m p y:=fun {m p x y} h e=>by
  have : x = y:=funext e
  exact this ▸ h
end Mx
end
section
namespace K13
open PySem L2 Kx Mx
theorem fm {a b : Int} (h : 0 < b) : a.fmod b = a % b:=Int.fmod_eq_emod_of_nonneg a (by omega)
theorem fd {a b : Int} (h : 0 < b) : a.fdiv b = a / b:=Int.fdiv_eq_ediv_of_nonneg a (by omega)
structure Mdl (m : List Int) : Prop where
  l1 : 1 ≤ m.length
  l2 : m.length ≤ 12
  b : ∀ x ∈ m,1 ≤ x∧x ≤ 99
theorem Mdl.at {m : List Int} (h : Mdl m) {i : Nat} (hi : i < m.length) : 1 ≤ vf m i∧vf m i ≤ 99:=by
  rw [Bq hi]
  exact h.b _ (List.getElem_mem hi)
theorem dw {i j : Int} (h : -(2 ^ 64) < j∧j < 2 ^ 64) : fM i j:=.inl (.inr h)
theorem cr {i j : Int} (h : -(2 ^ 64) < i∧i < 2 ^ 64) : fM i j:=.inl (.inl h)
end K13
end
section
namespace K13
open PySem L2 Kx Mx
theorem jO {a : Int} (z : Sto) (h1 : 0 < a) (h2 : a < 2 ^ 200) : Wp (bR a z) fun r=>0 ≤ r.1∧r.1 < a:=by
  unfold bR uh
  refine aO (fun e=>?_) (fun e=>?_)
  · refine wp_bind (xV (P:=fun t=>t = (z.1 / a,z.1 % a)) (AF (n:=0) h1 h2) rfl) fun t ht=>af ?_
    subst ht
    exact ⟨Int.emod_nonneg _ (by omega),Int.emod_lt_of_pos _ h1⟩
  · refine wp_bind (cZ (P:=fun t=>0 ≤ t∧t < 40961) (by decide) ?_) fun t1 ⟨g1,g2⟩=>?_
    · rw [fm (by decide)]
      exact ⟨Int.emod_nonneg _ (by decide),Int.emod_lt_of_pos _ (by decide)⟩
    refine wp_bind (cw (P:=fun _=>True) (dw ⟨by omega,by omega⟩) trivial) fun t2 _=>wp_bind (cw (P:=fun _=>True) (cr ⟨by decide,by decide⟩) trivial) fun t3 _=>?_
    refine wp_bind (cZ (P:=fun _=>True) (by decide) trivial) fun t4 _=>wp_bind (iF (P:=fun _=>True) ⟨by decide,by decide⟩ trivial) fun t5 _=>wp_bind (cZ (P:=fun t=>0 ≤ t∧t < a) (by omega) ?_) fun t6 h6=>af h6
    rw [fm h1]
    exact ⟨Int.emod_nonneg _ (by omega),Int.emod_lt_of_pos _ h1⟩
theorem mG (ns : List Int) (k : Nat) : Wp (ri (ns,(k : Int))) fun _=>True:=by
  unfold ri
  dsimp only
  refine wp_bind (cw (P:=fun _=>True) (cr ⟨by decide,by decide⟩) trivial) fun t1 _=>?_
  refine wp_bind (P:=fun _=>True) (aO (fun e=>?_) (fun e=>af trivial)) fun j2 _=>?_
  · have : (k : Int) < (ns.length : Int):=of_decide_eq_true e
    exact wp_bind (fZ (i:=k) (P:=fun _=>True) (by omega) trivial) fun t4 _=>af trivial
  refine wp_bind (P:=fun _=>True) (aO (fun e=>af trivial) (fun e=>wp_bind (uJ (P:=fun _=>True) ⟨by decide,by decide,by decide⟩ trivial) fun t6 _=>af trivial)) fun t7 _=>?_
  refine wp_bind (cw (P:=fun _=>True) (dw (by split <;> omega)) trivial) fun t8 _=>wp_bind (cw (P:=fun _=>True) (cr ⟨by decide,by decide⟩) trivial) fun t9 _=>wp_bind (cw (P:=fun _=>True) (cr ⟨by decide,by decide⟩) trivial) fun t10 _=>wp_bind (cZ (P:=fun _=>True) (by decide) trivial) fun t11 _=>af trivial
end K13
end
section
namespace K13
open PySem L2 Kx Mx
structure dY (z : Str) : Prop where
  l1 : 1 ≤ z.cps.toList.length
  l2 : z.cps.toList.length ≤ 6
  b : ∀ c ∈ z.cps.toList,97 ≤ c∧c ≤ 122
theorem kH : (Str.ofString "abcdefghijklmnopqrstuvwxyz").cps.toList = List.range' 97 26:=by decide +kernel
theorem str_len (z : Str) : z.length = z.cps.toList.length:=by
  show z.cps.size = _
  rw [Array.length_toList]
theorem pT {i : Nat} (h : i < 26) : atS (Str.ofString "abcdefghijklmnopqrstuvwxyz") (i : Int) = some ⟨#[97 + i]⟩:=by
  unfold atS
  rw [bD (by rw [str_len,kH]; decide)]
  show (atI (Str.ofString "abcdefghijklmnopqrstuvwxyz").cps.toList (i : Int)).bind _ = _
  rw [kH,bA (by simpa using h)]
  simp
theorem bL {z : Str} (h : dY z) : fk z = some true:=by
  have W : Wp (fk z) fun b=>b = true:=by
    unfold fk
    refine wp_bind (P:=fun t=>t = false) (aO (fun e=>by cases e) fun _=>?_) fun t2 e2=>?_
    · refine wp_bind (P:=fun t=>t = (z.cps.toList.length : Int)) ?_ fun t1 e1=>af ?_
      · unfold xT
        exact wp_bind (bQ (by rw [str_len]; have:=h.l2; omega)) fun _ _=>af (by rw [str_len])
      · subst e1
        have:=h.l1
        have:=h.l2
        simp only [Bool.not_eq_false',Bool.and_eq_true,decide_eq_true_eq]
        omega
    · subst e2
      refine aO (fun e=>by cases e) fun _=>?_
      refine wp_bind (P:=fun t : List Bool=>t.all id = true) (c6 (fun _ y=>y = true) ?_ (fun x hx=>?_) ?_) fun t10 h=>af h
      · unfold signs
        rw [List.length_map]
        have:=h.l2
        omega
      · unfold signs at hx
        obtain ⟨c,hc,rfl⟩:=List.mem_map.mp hx
        have hb:=h.b c hc
        refine wp_bind (P:=fun t=>t = true) (af ?_) fun t9 e=>af e
        rw [kH]
        refine decide_eq_true (List.mem_range'.mpr ⟨c - 97,by omega,by omega⟩)
      · intro ys hl h
        rw [List.all_eq_true]
        intro y hy
        obtain ⟨i,hi⟩:=List.mem_iff_getElem?.mp hy
        have hil:=(List.getElem?_eq_some_iff.mp hi).1
        have:=h i _ y (List.getElem?_eq_getElem (by omega)) hi
        rw [this]; rfl
  obtain ⟨r,hr,e⟩:=W
  rw [hr,e]
def dg : Nat→Nat→List Nat
  | 0,_=>[]
  | i + 1,n=>(97 + n / 26 ^ i % 26) :: dg i n
theorem i9 : ∀ (w n : Nat),(dg w n).length = w
  | 0,_=>rfl
  | w + 1,n=>by rw [dg,List.length_cons,i9 w n]
theorem zp : ∀ (w n : Nat),∀ c ∈ dg w n,97 ≤ c∧c ≤ 122
  | 0,_,c,h=>by simp [dg] at h
  | w + 1,n,c,h=>by
    rw [dg] at h
    rcases List.mem_cons.mp h with e | h
    · rw [e]
      have:=Nat.mod_lt (n / 26 ^ w) (show 0 < 26 by decide)
      omega
    · exact zp w n c h
theorem tS : ∀ {w n m : Nat},dg w n = dg w m→n % 26 ^ w = m % 26 ^ w
  | 0,n,m,_=>by rw [Nat.pow_zero,Nat.mod_one,Nat.mod_one]
  | w + 1,n,m,h=>by
    rw [dg,dg] at h
    obtain ⟨h1,h2⟩:=List.cons.inj h
    have ih:=tS h2
    rw [Nat.mod_pow_succ,Nat.mod_pow_succ,ih]
    have : n / 26 ^ w % 26 = m / 26 ^ w % 26:=by omega
    rw [this]
theorem nh {n w : Nat} (hw : w ≤ 6) : Wp (sx ((n : Int),(w : Int))) fun r=>r.cps.toList = dg w n:=by
  unfold sx
  refine wp_bind (bY (P:=fun t=>t = aN 0 (w : Int)) (by omega) rfl) fun t1 e1=>?_
  subst e1
  refine wp_bind (bK (P:=fun s=>s.1.cps.toList = dg w n) (fun i s=>s.1.cps.toList = dg i n∧s.2 = ((n / 26 ^ i : Nat) : Int)) ⟨rfl,by simp⟩ ?_ ?_) fun fin h=>af h
  · intro i x s hx ⟨h1,h2⟩
    obtain ⟨hi,rfl⟩:=cf hx
    refine wp_bind (cZ (P:=fun t=>t = ((n / 26 ^ i % 26 : Nat) : Int)) (by decide) (by rw [fm (by decide),h2]; exact (Int.natCast_emod _ _).symm)) fun t9 e9=>?_
    subst e9
    have hl:=Nat.mod_lt (n / 26 ^ i) (show 0 < 26 by decide)
    refine wp_bind (c5 (P:=fun t : Str=>t = ⟨#[97 + n / 26 ^ i % 26]⟩) (pT hl) rfl) fun t10 e10=>?_
    subst e10
    refine wp_bind (P:=fun t : Str=>t.cps.toList = dg (i + 1) n) ?_ fun t11 h11=>?_
    · unfold xj
      have ls : s.1.cps.toList.length = i:=by rw [h1,i9]
      refine wp_bind (bQ (by rw [str_len,str_len,ls]; simp; omega)) fun _ _=>af ?_
      show ((#[97 + n / 26 ^ i % 26] : Array Nat) ++ s.1.cps).toList = _
      rw [Array.toList_append,h1]
      rfl
    refine wp_bind (iF (P:=fun t=>t = ((n / 26 ^ (i + 1) : Nat) : Int)) ⟨by decide,by decide⟩ ?_) fun t12 e12=>af ⟨h11,e12⟩
    rw [fd (by decide),h2,Nat.pow_succ,← Nat.div_div_eq_div_mul]
    exact (Int.natCast_ediv _ _).symm
  · intro s h
    rw [av] at h
    exact h.1
end K13
end
section
namespace K13
open PySem L2 Kx Mx
theorem aW {a : Int} (z : Sto) (h1 : 0 < a) (h2 : a < 2 ^ 200) : Wp (bR a z) fun r=>∃ k : Nat,r.1 = (k : Int)∧(k : Int) < a:=
  (jO z h1 h2).imp fun r ⟨g1,g2⟩=>⟨r.1.toNat,by omega,by omega⟩
theorem nI {xs : List Str} (h : xs.Nodup) : (srt xs).Pairwise fun a b=>sLt a b = true:=by
  have n : (srt xs).Nodup:=(cA xs).nodup_iff.mpr h
  refine ((ft xs).and n).imp fun {a b} ⟨h1,h2⟩=>?_
  cases e : sLt a b with
  | true=>rfl
  | false=>
    unfold sLe at h1
    exact absurd (kf e (by simpa using h1)) h2
def Nms (cs : List Str) : Prop:=(∀ x ∈ cs,dY x)∧cs.Pairwise fun a b=>sLt a b = true
theorem mE {α : Type} {xs : List α} (h : ∀ (i j : Nat) (x y : α),i < j→xs[i]? = some x→xs[j]? = some y→x ≠ y) : xs.Nodup:=by
  refine List.pairwise_iff_getElem.mpr fun i j hi hj hij=>?_
  exact h i j _ _ hij (List.getElem?_eq_getElem hi) (List.getElem?_eq_getElem hj)
theorem jq {xs : List Str} {P : List Str→Prop} (hl : xs.length < 64) (hn : ∀ x ∈ xs,dY x) (hd : xs.Nodup) (k : ∀ ys,ys.length = xs.length→Nms ys→(∀ y ∈ ys,y ∈ xs)→P ys) : Wp (jN xs) P:=
  wp_bind (bQ hl) fun _ _=>af (k _ (cA xs).length_eq ⟨fun x hx=>hn x ((cA xs).mem_iff.mp hx),nI hd⟩ fun y hy=>(cA xs).mem_iff.mp hy)
def tw (z : Str) : Bool:=decide (1 ≤ z.cps.toList.length) && decide (z.cps.toList.length ≤ 6) && z.cps.toList.all fun c=>decide (97 ≤ c) && decide (c ≤ 122)
theorem qH {z : Str} (h : tw z = true) : dY z:=by
  unfold tw at h
  simp only [Bool.and_eq_true,decide_eq_true_eq,List.all_eq_true] at h
  exact ⟨h.1.1,h.1.2,fun c hc=>h.2 c hc⟩
abbrev W12 : List Str:=[(Str.ofString "bell"),(Str.ofString "turns"),(Str.ofString "ring"),(Str.ofString "go"),(Str.ofString "tell"),(Str.ofString "hang"),(Str.ofString "down"),(Str.ofString "put"),(Str.ofString "strike"),(Str.ofString "back"),(Str.ofString "lots"),(Str.ofString "home")]
theorem xr : W12.all tw = true:=by decide +kernel
theorem yu : W12.Nodup:=by decide +kernel
theorem C0 {α : Type} {a b c d x : α} {k : Nat} (h : ([a,b,c,d] : List α)[k]? = some x) : x = a∨x = b∨x = c∨x = d:=by
  have:=List.mem_of_getElem? h
  simpa using this
theorem kc {a b c d : Int} {k : Nat} (hk : k < 4) : Wp (atI ([a,b,c,d] : List Int) (k : Int)) fun x=>x = a∨x = b∨x = c∨x = d:=
  fZ (by simpa using hk) (C0 (List.getElem?_eq_getElem (by simpa using hk)))
theorem CY {k : Nat} (h : k < 6) : atI ([(26 : Int),(676 : Int),(17576 : Int),(456976 : Int),(11881376 : Int),(308915776 : Int)] : List Int) (k : Int) = some ((26 ^ (k + 1) : Nat) : Int):=by
  match k,h with
  | 0,_=>rfl
  | 1,_=>rfl
  | 2,_=>rfl
  | 3,_=>rfl
  | 4,_=>rfl
  | 5,_=>rfl
def Wd (cs : List Str) : Prop:=(∀ x ∈ cs,x ∈ W12)∨∃ w,∀ x ∈ cs,x.cps.toList.length = w
theorem lI {n : Nat} (z : Sto) (h2 : n ≤ 8) : Wp (rj (n : Int) z) fun r=>r.1.length = n∧Nms r.1∧Wd r.1:=by
  unfold rj
  refine wp_bind (aW z (by decide) (by decide)) fun t1 _=>aO (fun _=>?_) fun _=>?_
  · refine wp_bind (aW _ (by decide) (by decide)) fun t2 ⟨f,e2,hf⟩=>wp_bind (aW _ (by decide) (by decide)) fun t3 ⟨l,e3,hl⟩=>?_
    rw [e2,e3]
    refine wp_bind (kc (by omega)) fun t4 h4=>?_
    refine wp_bind (bY (P:=fun t=>t = aN 0 (n : Int)) (by omega) rfl) fun t5 e5=>?_
    subst e5
    refine wp_bind (P:=fun t : List Str=>t.length = n∧(∀ x ∈ t,dY x)∧t.Nodup∧∀ x ∈ t,x ∈ W12) (c6 (fun x y=>W12[((f : Int) + t4 * x).toNat % 12]? = some y) (by rw [av]; omega) (fun x hx=>?_) ?_) fun t15 ⟨a1,a2,a3,a4⟩=>?_
    · obtain ⟨j,hj,rfl⟩:=cu hx
      refine wp_bind (cw (P:=fun t=>t = t4 * (j : Int)) (dw ⟨by omega,by omega⟩) rfl) fun t12 e12=>?_
      subst e12
      obtain ⟨l4,rfl⟩ : ∃ l4 : Nat,t4 = (l4 : Int):=⟨t4.toNat,by omega⟩
      have en : (f : Int) + (l4 : Int) * (j : Int) = ((f + l4 * j : Nat) : Int):=by push_cast; rfl
      rw [en]
      refine wp_bind (cZ (P:=fun t=>t = (((f + l4 * j) % 12 : Nat) : Int)) (by decide) (by rw [fm (by decide)]; exact (Int.natCast_emod _ _).symm)) fun t13 e13=>?_
      subst e13
      have hm:=Nat.mod_lt (f + l4 * j) (show 0 < 12 by decide)
      refine wp_bind (fZ (xs:=W12) (P:=fun y=>W12[(f + l4 * j) % 12]? = some y) (by simpa using hm) (List.getElem?_eq_getElem (by simpa using hm))) fun t14 h14=>af ?_
      rw [Int.toNat_natCast]
      exact h14
    · intro ys hl hy
      rw [av] at hl
      have at' : ∀ i y,ys[i]? = some y→i < n∧W12[((f : Int) + t4 * (i : Int)).toNat % 12]? = some y:=fun i y e=>by
        have hi : i < n:=by have:=(List.getElem?_eq_some_iff.mp e).1; omega
        have hx : (aN 0 (n : Int))[i]? = some (i : Int):=by rw [cP (by omega)]; simp
        exact ⟨hi,hy i (i : Int) y hx e⟩
      refine ⟨hl,fun x hx=>?_,mE fun i j x y hij hx hy' e=>?_,fun x hx=>?_⟩
      · obtain ⟨i,hi⟩:=List.mem_iff_getElem?.mp hx
        exact qH ((List.all_eq_true.mp xr) x (List.mem_of_getElem? (at' i x hi).2))
      · subst e
        obtain ⟨b1,b2⟩:=at' i x hx
        obtain ⟨b3,b4⟩:=at' j x hy'
        have q : ((f : Int) + t4 * (i : Int)).toNat % 12 = ((f : Int) + t4 * (j : Int)).toNat % 12:=by
          have hi:=(List.getElem?_eq_some_iff.mp b2).1
          exact (List.getElem?_inj hi yu).mp (b2.trans b4.symm)
        rcases h4 with rfl | rfl | rfl | rfl <;> omega
      · obtain ⟨i,hi⟩:=List.mem_iff_getElem?.mp hx
        exact List.mem_of_getElem? (at' i x hi).2
    · exact wp_bind (jq (P:=fun ys=>ys.length = n∧Nms ys∧Wd ys) (by omega) a2 a3 fun ys h1 h2 h3=>⟨by omega,h2,.inl fun y hy=>a4 y (h3 y hy)⟩) fun t16 h=>af h
  · refine wp_bind (aW _ (by decide) (by decide)) fun t17 ⟨w,e17,hw⟩=>wp_bind (aW _ (by decide) (by decide)) fun t18 ⟨l,e18,hl⟩=>?_
    rw [e17,e18]
    refine wp_bind (kc (by omega)) fun t19 h19=>?_
    have ew : ((1 : Int) + (w : Int)) - 1 = (w : Int):=by omega
    rw [ew]
    have hw6 : w < 6:=by omega
    refine wp_bind (c5 (P:=fun t=>t = ((26 ^ (w + 1) : Nat) : Int)) (CY hw6) rfl) fun t20 e20=>?_
    subst e20
    have hpos : 0 < 26 ^ (w + 1):=Nat.pos_of_ne_zero (by simp)
    have hbig : 26 ^ (w + 1) ≤ 308915776:=Nat.le_trans (Nat.pow_le_pow_right (by decide) (by omega : w + 1 ≤ 6)) (by decide)
    refine wp_bind (aW _ (by omega) (by omega)) fun t21 ⟨f,e21,hf⟩=>?_
    rw [e21]
    refine wp_bind (bY (P:=fun t=>t = aN 0 (n : Int)) (by omega) rfl) fun t22 e22=>?_
    subst e22
    refine wp_bind (P:=fun t : List Str=>t.length = n∧(∀ x ∈ t,dY x)∧t.Nodup∧∀ x ∈ t,x.cps.toList.length = w + 1) (c6 (fun x y=>y.cps.toList = dg (w + 1) (((f : Int) + t19 * x).toNat % 26 ^ (w + 1))) (by rw [av]; omega) (fun x hx=>?_) ?_) fun t32 ⟨a1,a2,a3,a4⟩=>?_
    · obtain ⟨j,hj,rfl⟩:=cu hx
      refine wp_bind (cw (P:=fun t=>t = t19 * (j : Int)) (dw ⟨by omega,by omega⟩) rfl) fun t29 e29=>?_
      subst e29
      obtain ⟨l4,rfl⟩ : ∃ l4 : Nat,t19 = (l4 : Int):=⟨t19.toNat,by omega⟩
      have en : (f : Int) + (l4 : Int) * (j : Int) = ((f + l4 * j : Nat) : Int):=by push_cast; rfl
      rw [en]
      refine wp_bind (cZ (P:=fun t=>t = (((f + l4 * j) % 26 ^ (w + 1) : Nat) : Int)) (by omega) (by rw [fm (by omega)]; exact (Int.natCast_emod _ _).symm)) fun t30 e30=>?_
      subst e30
      have e1 : (1 : Int) + (w : Int) = ((w + 1 : Nat) : Int):=by omega
      rw [e1]
      refine wp_bind (nh (by omega)) fun t31 h31=>af ?_
      rw [Int.toNat_natCast]
      exact h31
    · intro ys hl hy
      rw [av] at hl
      have at' : ∀ i y,ys[i]? = some y→i < n∧y.cps.toList = dg (w + 1) (((f : Int) + t19 * (i : Int)).toNat % 26 ^ (w + 1)):=fun i y e=>by
        have hi : i < n:=by have:=(List.getElem?_eq_some_iff.mp e).1; omega
        have hx : (aN 0 (n : Int))[i]? = some (i : Int):=by rw [cP (by omega)]; simp
        exact ⟨hi,hy i (i : Int) y hx e⟩
      refine ⟨hl,fun x hx=>?_,mE fun i j x y hij hx hy' e=>?_,fun x hx=>?_⟩
      · obtain ⟨i,hi⟩:=List.mem_iff_getElem?.mp hx
        have e:=(at' i x hi).2
        exact ⟨by rw [e,i9]; omega,by rw [e,i9]; omega,fun c hc=>zp _ _ c (by rw [← e]; exact hc)⟩
      · subst e
        obtain ⟨b1,b2⟩:=at' i x hx
        obtain ⟨b3,b4⟩:=at' j x hy'
        have q:=tS (b2.symm.trans b4)
        rw [Nat.mod_mod,Nat.mod_mod] at q
        clear b2 b4
        by_cases hw0 : w = 0
        · subst hw0
          rw [show (26 : Nat) ^ (0 + 1) = 26 from rfl] at q
          rcases h19 with rfl | rfl | rfl | rfl <;> omega
        · have hM : 676 ≤ 26 ^ (w + 1):=Nat.le_trans (by decide : 676 ≤ 26 ^ 2) (Nat.pow_le_pow_right (by decide) (by omega))
          have hlt : ((f : Int) + t19 * (i : Int)).toNat < ((f : Int) + t19 * (j : Int)).toNat∧((f : Int) + t19 * (j : Int)).toNat - ((f : Int) + t19 * (i : Int)).toNat < 676:=by
            rcases h19 with rfl | rfl | rfl | rfl <;> omega
          have z:=Nat.sub_mod_eq_zero_of_mod_eq q.symm
          rw [Nat.mod_eq_of_lt (by omega)] at z
          omega
      · obtain ⟨i,hi⟩:=List.mem_iff_getElem?.mp hx
        rw [(at' i x hi).2,i9]
    · exact wp_bind (jq (P:=fun ys=>ys.length = n∧Nms ys∧Wd ys) (by omega) a2 a3 fun ys h1 h2 h3=>⟨by omega,h2,.inr ⟨w + 1,fun y hy=>a4 y (h3 y hy)⟩⟩) fun t16 h=>af h
theorem lg {m : Nat} {s : Int} (z : Sto) (hm : m ≤ 5) (h1 : 2 ≤ s) (h2 : s ≤ 24) : Wp (tp ((m : Int),s) z) fun r=>0 ≤ r.1∧r.1 ≤ 99:=by
  unfold tp
  refine wp_bind (aW z (by omega) (by omega)) fun t1 ⟨a,e1,ha⟩=>wp_bind (aW _ (by decide) (by decide)) fun t2 ⟨b,e2,hb⟩=>?_
  rw [e1,e2]
  refine wp_bind (cw (P:=fun t=>t = 2 * s) (cr ⟨by decide,by decide⟩) rfl) fun t3 e3=>wp_bind (iF (P:=fun t=>t = s / 2) ⟨by decide,by decide⟩ (fd (by decide))) fun t4 e4=>?_
  subst e3; subst e4
  refine wp_bind (aW _ (by decide) (by decide)) fun t5 ⟨c,e5,hc⟩=>?_
  rw [e5]
  refine wp_bind (kc (by omega)) fun t6 h6=>?_
  have b6 : 0 ≤ t6∧t6 ≤ 99:=by rcases h6 with rfl | rfl | rfl | rfl <;> omega
  refine wp_bind (gR (P:=fun t=>t = [(1 : Int),1 + (a : Int),1 + (b : Int),t6]) (by simp) rfl) fun t7 e7=>?_
  subst e7
  refine aO (fun e=>?_) fun e=>?_
  · have : (m : Int) < 4:=of_decide_eq_true e
    refine wp_bind (kc (by omega)) fun t8 h8=>af ?_
    rcases h8 with rfl | rfl | rfl | rfl <;> constructor <;> dsimp only <;> omega
  · have : ¬ (m : Int) < 4:=of_decide_eq_false e
    refine wp_bind (c5 (P:=fun t=>t = 1 + (a : Int)) rfl rfl) fun t9 e9=>?_
    subst e9
    refine wp_bind (aW _ (by omega) (by omega)) fun t10 _=>?_
    refine wp_bind (cw (P:=fun t=>0 ≤ t∧t ≤ 99) (dw (by split <;> omega)) ?_) fun t11 h=>af h
    split
    · rw [Int.mul_one]; omega
    · rw [Int.mul_zero]; omega
end K13
end
section
namespace K13
open PySem L2 Kx Mx
def k9 (cs : List Str) (ns : List (Str×Str×Int)) : Prop:=
  (∀ n ∈ ns,n.1 ∈ cs∧n.2.1 ∈ cs∧n.1 ≠ n.2.1∧1 ≤ n.2.2∧n.2.2 ≤ 99)∧ns.Pairwise fun a b=>ltP (a.1,a.2.1) (b.1,b.2.1) = true
structure Kit (k : List (Str×Int)×List (Str×Str×Int)) : Prop where
  l1 : 1 ≤ k.1.length
  l2 : k.1.length ≤ 8
  nm : Nms (k.1.map (·.1))
  sz : ∀ x ∈ k.1,2 ≤ x.2∧x.2 ≤ 24
  nt : k9 (k.1.map (·.1)) k.2
  nl : k.2.length ≤ 64
theorem nV {a b : Str} (h : sLt a b = true) : a ≠ b:=fun e=>by
  rw [e,eR] at h
  cases h
theorem tQ {α : Type} {R : α→α→Prop} {xs : List α} (h : xs.Pairwise R) {i j : Nat} {x y : α} (hij : i < j) (hx : xs[i]? = some x) (hy : xs[j]? = some y) : R x y:=by
  obtain ⟨h1,rfl⟩:=List.getElem?_eq_some_iff.mp hx
  obtain ⟨h2,rfl⟩:=List.getElem?_eq_some_iff.mp hy
  exact List.pairwise_iff_getElem.mp h i j h1 h2 hij
theorem vQ {α : Type} {R : α→α→Prop} {xs : List α} {x : α} (h : xs.Pairwise R) (hx : ∀ y ∈ xs,R y x) : (xs ++ [x]).Pairwise R:=
  List.pairwise_append.mpr ⟨h,List.pairwise_singleton _ _,fun a ha b hb=>by rw [List.mem_singleton.mp hb]; exact hx a ha⟩
theorem pH {u m : Int} (z : Sto) (hu1 : 1 ≤ u) (hu2 : u ≤ 8) (hm1 : 2 ≤ m) (hm2 : m ≤ 24) : Wp (iT (u,m) z) fun r=>Kit r.1∧(r.1.1.length : Int) ≤ u∧(∀ b ∈ r.1.1,b.2 ≤ m)∧Wd (r.1.1.map (·.1)):=by
  unfold iT
  dsimp only
  refine wp_bind (aW z (by omega) (by omega)) fun t1 ⟨n,e1,hn⟩=>?_
  rw [e1]
  have en : (1 : Int) + (n : Int) = ((n + 1 : Nat) : Int):=by omega
  rw [en]
  refine wp_bind (lI _ (by omega)) fun t2 ⟨hl2,hc,hwd⟩=>wp_bind (aW _ (by omega) (by omega)) fun t3 ⟨s3,e3,h3⟩=>wp_bind (aW _ (by decide) (by decide)) fun t4 _=>wp_bind (aW _ (by decide) (by decide)) fun t5 ⟨md,e5,h5⟩=>?_
  rw [e3,e5]
  generalize hcs : t2.1 = cs at hl2 hc hwd
  refine wp_bind (mU (P:=fun r : List Int×Sto=>r.1.length = n + 1∧∀ s ∈ r.1,2 ≤ s∧s ≤ m) (fun _ y=>2 ≤ y∧y ≤ m) (by omega) (fun x hx z=>?_) ?_) fun t14 ⟨hl14,h14⟩=>?_
  · refine wp_bind (P:=fun t : Int×Sto=>2 ≤ t.1∧t.1 ≤ m) (aO (fun _=>af ⟨by dsimp only; omega,by dsimp only; omega⟩) fun _=>wp_bind (aW _ (by omega) (by omega)) fun t12 ⟨a,e,h⟩=>af ⟨by dsimp only; omega,by dsimp only; omega⟩) fun t13 h=>af h
  · intro r hl h
    refine ⟨by omega,fun s hs=>?_⟩
    obtain ⟨i,hi⟩:=List.mem_iff_getElem?.mp hs
    have hil:=(List.getElem?_eq_some_iff.mp hi).1
    exact h i _ s (List.getElem?_eq_getElem (by omega)) hi
  have uq : ∀ {i j : Nat} {x y : Str},i < j→cs[i]? = some x→cs[j]? = some y→sLt x y = true:=fun hij hx hy=>tQ hc.2 hij hx hy
  refine wp_bind (bK (P:=fun s : List (Str×Str×Int)×Sto=>k9 cs s.1∧s.1.length ≤ 64) (fun i s=>k9 cs s.1∧(∀ q ∈ s.1,∃ j,j < i∧cs[j]? = some q.1)∧s.1.length ≤ i * 8) ⟨⟨fun q hq=>(nomatch hq),List.Pairwise.nil⟩,fun q hq=>(nomatch hq),by simp⟩ ?_ ?_) fun fin ⟨hf,hf2⟩=>?_
  · intro i x s hx ⟨g1,g2,g3⟩
    have hi : i < n + 1:=by have:=(List.getElem?_eq_some_iff.mp hx).1; omega
    rw [hl2]
    refine wp_bind (bY (P:=fun t=>t = aN 0 ((n + 1 : Nat) : Int)) (by omega) rfl) fun t22 e22=>?_
    subst e22
    refine wp_bind (bK (P:=fun s : List (Str×Str×Int)×Sto=>k9 cs s.1∧(∀ q ∈ s.1,∃ j,j < i + 1∧cs[j]? = some q.1)∧s.1.length ≤ (i + 1) * 8) (fun k s=>k9 cs s.1∧(∀ q ∈ s.1,(∃ j,j < i∧cs[j]? = some q.1)∨(q.1 = x∧∃ j,j < k∧cs[j]? = some q.2.1))∧s.1.length ≤ i * 8 + k) ⟨g1,fun q hq=>.inl (g2 q hq),by dsimp only; omega⟩ ?_ ?_) fun f2 h=>af h
    · intro k y s hy ⟨b1,b2,b3⟩
      obtain ⟨hk,rfl⟩:=cf hy
      refine wp_bind (fZ (P:=fun t=>2 ≤ t∧t ≤ m) (by omega) (h14 _ (List.getElem_mem _))) fun t30 h30=>?_
      refine wp_bind (lg _ (by omega) h30.1 (by omega)) fun t31 h31=>?_
      have hk' : k < cs.length:=by omega
      have ey : cs[k]? = some cs[k]:=List.getElem?_eq_getElem hk'
      refine wp_bind (c5 (P:=fun t=>t = cs[k]) (bA hk') rfl) fun t32 e32=>?_
      subst e32
      refine aO (fun e=>?_) fun e=>af ⟨b1,fun q hq=>(b2 q hq).imp id fun ⟨c1,j,c2,c3⟩=>⟨c1,j,by omega,c3⟩,by dsimp only; omega⟩
      rw [Bool.and_eq_true] at e
      have e1 : cs[k] ≠ x:=by simpa using e.1
      have e2 : 0 < t31.1:=by simpa using e.2
      refine wp_bind (c5 (P:=fun t=>t = cs[k]) (bA hk') rfl) fun t33 e33=>?_
      subst e33
      refine wp_bind (gR (P:=fun t=>t = s.1 ++ [(x,cs[k],t31.1)]) (by omega) rfl) fun t34 e34=>af ?_
      subst e34
      refine ⟨⟨fun q hq=>?_,vQ b1.2 fun q hq=>?_⟩,fun q hq=>?_,by dsimp only; rw [List.length_append]; simp; omega⟩
      · rcases List.mem_append.mp hq with hq | hq
        · exact b1.1 q hq
        · rw [List.mem_singleton.mp hq]
          exact ⟨List.mem_of_getElem? hx,List.mem_of_getElem? ey,fun z=>e1 z.symm,by dsimp only; omega,by dsimp only; omega⟩
      · unfold ltP
        dsimp only
        rcases b2 q hq with ⟨j,c1,c2⟩ | ⟨c1,j,c2,c3⟩
        · have:=uq c1 c2 hx
          rw [if_neg (nV this)]
          exact this
        · rw [if_pos c1]
          exact uq c2 c3 ey
      · rcases List.mem_append.mp hq with hq | hq
        · exact (b2 q hq).imp id fun ⟨c1,j,c2,c3⟩=>⟨c1,j,by omega,c3⟩
        · rw [List.mem_singleton.mp hq]
          exact .inr ⟨rfl,k,by omega,ey⟩
    · intro s ⟨b1,b2,b3⟩
      rw [av] at b2 b3
      refine ⟨b1,fun q hq=>?_,by omega⟩
      rcases b2 q hq with ⟨j,c1,c2⟩ | ⟨c1,j,c2,c3⟩
      · exact ⟨j,by omega,c2⟩
      · exact ⟨i,by omega,by rw [c1]; exact hx⟩
  · intro s ⟨g1,g2,g3⟩
    exact ⟨g1,by omega⟩
  rw [hl2]
  refine wp_bind (bY (P:=fun t=>t = aN 0 ((n + 1 : Nat) : Int)) (by omega) rfl) fun t35 e35=>?_
  subst e35
  refine wp_bind (P:=fun t : List (Str×Int)=>t.length = n + 1∧t.map (·.1) = cs∧∀ x ∈ t,2 ≤ x.2∧x.2 ≤ m) (c6 (fun x y=>∃ k : Nat,x = (k : Int)∧cs[k]? = some y.1∧2 ≤ y.2∧y.2 ≤ m) (by rw [av]; omega) (fun x hx=>?_) ?_) fun t44 ⟨d1,d2,d3⟩=>af ?_
  · obtain ⟨k,hk,rfl⟩:=cu hx
    have hk' : k < cs.length:=by omega
    refine wp_bind (c5 (P:=fun t=>t = cs[k]) (bA hk') rfl) fun t42 e42=>?_
    subst e42
    refine wp_bind (fZ (P:=fun t=>2 ≤ t∧t ≤ m) (by omega) (h14 _ (List.getElem_mem _))) fun t43 h43=>af ⟨k,rfl,List.getElem?_eq_getElem hk',h43⟩
  · intro ys hl h
    rw [av] at hl
    have at' : ∀ (i : Nat) (y : Str×Int),ys[i]? = some y→cs[i]? = some y.1∧2 ≤ y.2∧y.2 ≤ m:=fun i y e=>by
      have hi : i < n + 1:=by have:=(List.getElem?_eq_some_iff.mp e).1; omega
      obtain ⟨k,c1,c2⟩:=h i (i : Int) y (by rw [cP (by omega)]; simp) e
      have : i = k:=by omega
      subst this
      exact c2
    refine ⟨hl,List.ext_getElem? fun i=>?_,fun x hx=>?_⟩
    · rw [List.getElem?_map]
      by_cases hi : i < n + 1
      · have:=(at' i _ (List.getElem?_eq_getElem (by omega))).1
        rw [List.getElem?_eq_getElem (by omega : i < ys.length),this]
        rfl
      · rw [List.getElem?_eq_none (by omega),List.getElem?_eq_none (by omega)]
        rfl
    · obtain ⟨i,hi⟩:=List.mem_iff_getElem?.mp hx
      exact (at' i x hi).2
  · refine ⟨⟨by dsimp only; omega,by dsimp only; omega,?_,fun x hx=>(by have:=d3 x hx; omega),?_,hf2⟩,by dsimp only; omega,fun x hx=>(d3 x hx).2,by dsimp only; rw [d2]; exact hwd⟩
    · dsimp only; rw [d2]; exact hc
    · dsimp only; rw [d2]; exact hf
theorem mv {u m : Int} (z : Sto) (hu1 : 1 ≤ u) (hu2 : u ≤ 8) (hm1 : 2 ≤ m) (hm2 : m ≤ 24) : Wp (iT (u,m) z) fun r=>Kit r.1∧(r.1.1.length : Int) ≤ u∧∀ b ∈ r.1.1,b.2 ≤ m:=(pH z hu1 hu2 hm1 hm2).imp fun _ h=>⟨h.1,h.2.1,h.2.2.1⟩
end K13
end
section
namespace K13
open PySem L2 Kx Mx
theorem dZ {x lo hi : Int} (h1 : lo ≤ x) (h2 : x ≤ hi) : ip (x,lo,hi) = some true:=by
  unfold ip pb
  simp [h1,h2]
section
variable {α β : Type} [DecidableEq α]
theorem iu {xs : List (α×β)} {k : α} {v : β} (h : k ∉ xs.map (·.1)) : bZ xs k v = xs ++ [(k,v)]:=by
  unfold bZ
  rw [if_neg]
  intro e
  obtain ⟨x,hx,e⟩:=List.any_eq_true.mp e
  exact h (List.mem_map.mpr ⟨x,hx,of_decide_eq_true e⟩)
theorem cI : ∀ {more acc : List (α×β)},((acc ++ more).map (·.1)).Nodup→aU acc more = acc ++ more
  | [],acc,_=>by rw [List.append_nil]; rfl
  | p :: more,acc,h=>by
    have hn : p.1 ∉ acc.map (·.1):=fun e=>by
      rw [List.map_append] at h
      have:=(List.nodup_append.mp h).2.2 p.1 e p.1 (by simp)
      exact this rfl
    show aU (bZ acc p.1 p.2) more = _
    rw [iu hn,cI (by simpa using h)]
    simp
theorem dW {xs : List (α×β)} (hl : xs.length ≤ 16777216) (h : (xs.map (·.1)).Nodup) : fq xs = some xs:=by
  unfold fq
  rw [bD hl,cI (by simpa using h)]
  rfl
theorem hV {xs : List (α×β)} {k : α} (h : k ∈ xs.map (·.1)) : ∃ b,bS xs k = some b:=by
  induction xs with
  | nil=>simp at h
  | cons p xs ih=>
    by_cases e : p.1 = k
    · exact ⟨_,bI e⟩
    · rw [bH e]
      refine ih ?_
      rcases List.mem_cons.mp h with q | q
      · exact absurd q.symm e
      · exact q
end
def cs (k : List (Str×Int)×List (Str×Str×Int)) : List Str:=k.1.map (·.1)
def tb (k : List (Str×Int)×List (Str×Str×Int)) : List ((Str×Str)×Int):=k.2.map fun n=>((n.1,n.2.1),n.2.2)
abbrev pl (k : List (Str×Int)×List (Str×Str×Int)) : List (Str×Int)×List (Str×Str×Int)×List (Str×Int)×List ((Str×Str)×Int):=(k.1,k.2,k.1,tb k)
def tk (k : List (Str×Int)×List (Str×Str×Int)) (a b : Str) : Int:=bt (tb k) (a,b) 0
theorem qx {xs : List Str} (h : Nms xs) : xs.Nodup:=h.2.imp fun h=>nV h
theorem rX {a b : Str×Str} (h : ltP a b = true) : a ≠ b:=fun e=>by
  unfold ltP at h
  rw [e,if_pos rfl,eR] at h
  cases h
section
variable {k : List (Str×Int)×List (Str×Str×Int)}
theorem Kit.nd (h : Kit k) : (cs k).Nodup:=qx h.nm
theorem Kit.tnd (h : Kit k) : ((tb k).map (·.1)).Nodup:=by
  unfold tb
  rw [List.map_map]
  exact (List.pairwise_map.mpr (h.nt.2.imp fun h=>rX h))
theorem tF (h : Kit k) : dcO (fun x : Str×Str×Int=>some ((x.1,x.2.1),x.2.2)) k.2 = some (tb k):=by
  unfold dcO
  have : lcO (fun x : Str×Str×Int=>some ((x.1,x.2.1),x.2.2)) k.2 = some (tb k):=by
    obtain ⟨r,e1,e2⟩:=bC (P:=fun t=>t = tb k) (f:=fun x : Str×Str×Int=>some ((x.1,x.2.1),x.2.2)) (fun n=>((n.1,n.2.1),n.2.2)) (by have:=h.nl; omega) (fun _ _=>rfl) rfl
    rw [e1,e2]
  rw [this]
  show some (aU [] (tb k)) = _
  rw [cI (by simpa using h.tnd)]
  rfl
theorem gX (h : Kit k) : pQ k = some (tb k):=by
  unfold pQ
  have : lcO (fun x : Str×Str×Int=>some ((x.1,x.2.1),x.2.2)) k.2 = some (tb k):=by
    obtain ⟨r,e1,e2⟩:=bC (P:=fun t=>t = tb k) (f:=fun x : Str×Str×Int=>some ((x.1,x.2.1),x.2.2)) (fun n=>((n.1,n.2.1),n.2.2)) (by have:=h.nl; omega) (fun _ _=>rfl) rfl
    rw [e1,e2]
  rw [this]
  show (fq (tb k)).bind _ = _
  rw [dW (by unfold tb; rw [List.length_map]; have:=h.nl; omega) h.tnd]
  rfl
theorem ke {b : Str×Int} (h1 : dY b.1) (h2 : 2 ≤ b.2∧b.2 ≤ 24) : mB b = some true:=by
  unfold mB
  rw [bL h1,dZ h2.1 h2.2]
  rfl
theorem Kit.name (h : Kit k) {x : Str×Int} (hx : x ∈ k.1) : dY x.1:=h.nm.1 _ (List.mem_map.mpr ⟨x,hx,rfl⟩)
theorem fW (h : Kit k) : qr k.1 = some ():=by
  have W : Wp (qr k.1) fun _=>True:=by
    unfold qr
    refine aO (fun e=>?_) fun _=>?_
    · have h1:=h.l1
      have h2:=h.l2
      have e1 : decide ((1 : Int) ≤ (k.1.length : Int)) = true:=decide_eq_true (by omega)
      have e2 : decide ((k.1.length : Int) ≤ 8) = true:=decide_eq_true (by omega)
      rw [e1,e2] at e
      cases e
    refine wp_bind (bK (P:=fun _=>True) (fun _ _=>True) trivial (fun i p s hp _=>?_) fun _ _=>trivial) fun _ _=>af trivial
    obtain ⟨x,hx,rfl⟩:=kz hp
    have hxm:=List.mem_of_getElem? hx
    refine wp_bind (c5 (P:=fun t=>t = true) (ke (h.name hxm) (h.sz x hxm)) rfl) fun t e=>?_
    subst e
    refine wp_bind (P:=fun t=>t = false) (aO (fun e=>by cases e) fun _=>wp_bind (P:=fun t=>t = false) (aO (fun e=>?_) fun _=>af rfl) fun t e=>af e) fun t e=>?_
    · have hi : 0 < i:=by have : (0 : Int) < (i : Int):=of_decide_eq_true e; omega
      have hil:=(List.getElem?_eq_some_iff.mp hx).1
      have e1 : (i : Int) - 1 = ((i - 1 : Nat) : Int):=by omega
      dsimp only
      rw [e1]
      refine wp_bind (c5 (P:=fun t=>t = k.1[i - 1]) (bA (by omega)) rfl) fun t13 e13=>af ?_
      subst e13
      have:=tQ h.nm.2 (i:=i - 1) (j:=i) (x:=(k.1[i - 1]).1) (y:=x.1) (by omega) (by rw [List.getElem?_map,List.getElem?_eq_getElem (by omega)]; rfl) (by rw [List.getElem?_map,hx]; rfl)
      rw [this]
      rfl
    · subst e
      exact aO (fun e=>by cases e) fun _=>af trivial
  obtain ⟨⟨⟩,hr,_⟩:=W
  exact hr
theorem jc (h : Kit k) {n : Str×Str×Int} (hn : n ∈ k.2) : jk (n,cs k) = some true:=by
  obtain ⟨h1,h2,h3,h4,h5⟩:=h.nt.1 n hn
  have n1:=h.nm.1 _ h1
  have n2:=h.nm.1 _ h2
  have W : Wp (jk (n,cs k)) fun b=>b = true:=by
    unfold jk
    refine aO (fun e=>by cases e) fun _=>?_
    refine wp_bind (P:=fun t : List Bool=>t.all id = true) ?_ fun t8 h8=>?_
    · refine (c5 (x:=[true,true]) ?_ rfl)
      unfold lcO
      rw [bD (by simp)]
      have m1 : gI n.1 (cs k) = true:=decide_eq_true h1
      have m2 : gI n.2.1 (cs k) = true:=decide_eq_true h2
      simp [cD,bL n1,bL n2,m1,m2]
    · rw [h8]
      refine aO (fun e=>by cases e) fun _=>wp_bind (P:=fun t=>t = true) (aO (fun _=>?_) fun e=>?_) fun t e=>af e
      · rw [dZ h4 h5]
        exact af rfl
      · exact absurd (by simpa using e) h3
  obtain ⟨r,hr,e⟩:=W
  rw [hr,e]
theorem fw (h : Kit k) : mV (k.2,cs k) = some ():=by
  have W : Wp (mV (k.2,cs k)) fun _=>True:=by
    unfold mV
    refine aO (fun e=>by cases e) fun _=>?_
    refine wp_bind (bK (P:=fun _=>True) (fun _ _=>True) trivial (fun i p s hp _=>?_) fun _ _=>trivial) fun _ _=>af trivial
    obtain ⟨x,hx,rfl⟩:=kz hp
    have hxm:=List.mem_of_getElem? hx
    refine wp_bind (c5 (P:=fun t=>t = true) (jc h hxm) rfl) fun t e=>?_
    subst e
    refine wp_bind (P:=fun t=>t = false) (aO (fun e=>by cases e) fun _=>wp_bind (P:=fun t=>t = false) (aO (fun e=>?_) fun _=>af rfl) fun t e=>af e) fun t e=>?_
    · have hi : 0 < i:=by have : (0 : Int) < (i : Int):=of_decide_eq_true e; omega
      have hil:=(List.getElem?_eq_some_iff.mp hx).1
      have e1 : (i : Int) - 1 = ((i - 1 : Nat) : Int):=by omega
      dsimp only at hil ⊢
      rw [e1]
      refine wp_bind (c5 (P:=fun t=>t = k.2[i - 1]) (bA (by omega)) rfl) fun t13 e13=>af ?_
      subst e13
      have:=tQ h.nt.2 (i:=i - 1) (j:=i) (x:=k.2[i - 1]) (y:=x) (by omega) (List.getElem?_eq_getElem (by omega)) hx
      rw [this]
      rfl
    · subst e
      exact aO (fun e=>by cases e) fun _=>af trivial
  obtain ⟨⟨⟩,hr,_⟩:=W
  exact hr
theorem cQ (h : Kit k) : lcO (fun x : Str×Int=>some x.1) k.1 = some (cs k):=by
  obtain ⟨r,e1,e2⟩:=bC (P:=fun t=>t = cs k) (f:=fun x : Str×Int=>some x.1) (fun n=>n.1) (by have:=h.l2; omega) (fun _ _=>rfl) rfl
  rw [e1,e2]
theorem jJ (h : Kit k) : pR (k.1,k.2) = some (pl k):=by
  unfold pR
  rw [fW h]
  show (lcO _ k.1).bind _ = _
  rw [cQ h]
  show (mV (k.2,cs k)).bind _ = _
  rw [fw h]
  show (fq k.1).bind _ = _
  rw [dW (by have:=h.l2; omega) h.nd]
  show (dcO _ k.2).bind _ = _
  rw [tF h]
  rfl
theorem b7 (h : Kit k) {a : Str} (ha : a ∈ cs k) : mM (pl k,a) = some ():=by
  unfold mM
  rw [bL (h.nm.1 _ ha)]
  obtain ⟨b,e⟩:=hV (xs:=k.1) ha
  show cond ((!true) || !iK k.1 a) none (some ()) = _
  unfold iK
  rw [e]
  rfl
theorem dF (h : Kit k) {a b : Str} (ha : a ∈ cs k) (hb : b ∈ cs k) : mC (pl k,a,b) = some (tk k a b):=by
  unfold mC
  rw [b7 h ha,b7 h hb]
  rfl
end
end K13
end
section
namespace K13
open PySem L2 Kx Mx
section
variable {k : List (Str×Int)×List (Str×Str×Int)}
theorem gC (h : Kit k) {r : List Str} (p : r.Perm (cs k)) : srt r = cs k:=by
  refine eo (le:=fun a b=>sLe a b = true) (fun a b=>mj) ((cA r).trans p) (ft r) (h.nm.2.imp fun {a b} z=>?_)
  unfold sLe
  cases e : sLt b a with
  | false=>rfl
  | true=>
    have:=eU z e
    rw [eR] at this
    cases this
theorem cM (h : Kit k) {r : List Str} (p : r.Perm (cs k)) : fj (pl k,r) = some ():=by
  have hl : r.length = k.1.length:=by rw [p.length_eq]; unfold cs; rw [List.length_map]
  have W : Wp (fj (pl k,r)) fun _=>True:=by
    unfold fj
    refine wp_bind (P:=fun t=>t = true) ?_ fun t e=>by subst e; exact aO (fun e=>by cases e) fun _=>af trivial
    unfold gz
    refine aO (fun e=>?_) fun _=>?_
    · dsimp only at e
      rw [show decide ((r.length : Int) = (k.1.length : Int)) = true from decide_eq_true (by omega)] at e
      cases e
    refine wp_bind (P:=fun t : List Bool=>t.all id = true) (c6 (fun _ y=>y = true) (by have:=h.l2; dsimp only; omega) (fun x hx=>?_) ?_) fun t8 h8=>?_
    · rw [bL (h.nm.1 _ (p.mem_iff.mp hx))]
      exact af rfl
    · intro ys hl h
      rw [List.all_eq_true]
      intro y hy
      obtain ⟨i,hi⟩:=List.mem_iff_getElem?.mp hy
      have hil:=(List.getElem?_eq_some_iff.mp hi).1
      have:=h i _ y (List.getElem?_eq_getElem (by omega)) hi
      rw [this]; rfl
    · rw [h8]
      refine wp_bind (P:=fun t=>t = true) (aO (fun _=>?_) fun e=>by cases e) fun t e=>af e
      refine wp_bind (P:=fun t=>t = cs k) (wp_bind (bQ (by have:=h.l2; dsimp only; omega)) fun _ _=>af (gC h p)) fun t9 e9=>wp_bind (P:=fun t=>t = cs k) ?_ fun t10 e10=>af (by rw [e9,e10]; simp)
      unfold lY
      show Wp ((lcO _ k.1).bind _) _
      rw [cQ h]
      exact af rfl
  obtain ⟨⟨⟩,hr,_⟩:=W
  exact hr
end
end K13
end
section
namespace K13
open PySem L2 Kx Mx
section
variable {k : List (Str×Int)×List (Str×Str×Int)}
theorem vG {i n : Nat} (h : i < n) : seqIndex? (i : Int) n = some i:=by
  unfold seqIndex?
  have e1 : ¬ ((i : Int) < 0):=by omega
  simp only [e1,if_false]
  rw [if_pos (by simp; omega),Int.toNat_natCast]
theorem wa {α : Type} {xs : List α} {i : Nat} {P : α×List α→Prop} (h : i < xs.length) (hl : xs.length ≤ 16777216) (q : P (xs[i],xs.eraseIdx i)) : Wp (tj xs (i : Int)) P:=by
  unfold tj
  refine wp_bind (bQ (by omega)) fun _ _=>wp_bind (c5 (P:=fun t=>t = i) (vG h) rfl) fun t e=>?_
  subst e
  exact wp_bind (c5 (P:=fun y=>y = xs[t]) (List.getElem?_eq_getElem h) rfl) fun y e=>by subst e; exact af q
theorem nJ {α : Type} {xs : List α} {i : Nat} (h : i < xs.length) : xs.Perm (xs[i] :: xs.eraseIdx i):=by
  have e : xs = xs.take i ++ xs[i] :: xs.drop (i + 1):=by rw [List.getElem_cons_drop,List.take_append_drop]
  have e2 : xs.eraseIdx i = xs.take i ++ xs.drop (i + 1):=List.eraseIdx_eq_take_drop_succ xs i
  rw [e2]
  calc xs = xs.take i ++ xs[i] :: xs.drop (i + 1):=e
    List.Perm _ _:=List.perm_middle
theorem qo (h : Kit k) (z : Sto) : Wp (mN k z) fun r=>r.1.Perm (cs k):=by
  unfold mN
  refine wp_bind (c5 (P:=fun t=>t = cs k) (cQ h) rfl) fun t7 e7=>?_
  subst e7
  have hl8:=h.l2
  have hcl : (cs k).length = k.1.length:=by unfold cs; rw [List.length_map]
  refine wp_bind (bY (P:=fun t=>t = aN 0 (k.1.length : Int)) (by omega) rfl) fun t8 e8=>?_
  subst e8
  refine wp_bind (bK (P:=fun s : List Str×List Str×Sto=>s.2.1.Perm (cs k)) (fun i s=>(s.2.1 ++ s.1).Perm (cs k)∧s.1.length + i = k.1.length) ⟨by simp,by dsimp only; omega⟩ ?_ ?_) fun fin hf=>af hf
  · intro i x s hx ⟨g1,g2⟩
    obtain ⟨hi,rfl⟩:=cf hx
    refine wp_bind (aW _ (by omega) (by omega)) fun t16 ⟨j,e16,hj⟩=>?_
    rw [e16]
    have hj' : j < s.1.length:=by omega
    refine wp_bind (wa (P:=fun r=>r = (s.1[j],s.1.eraseIdx j)) hj' (by omega) rfl) fun t17 e17=>?_
    subst e17
    have g3:=g1.length_eq
    rw [List.length_append] at g3
    refine wp_bind (gR (P:=fun t=>t = s.2.1 ++ [s.1[j]]) (by omega) rfl) fun t19 e19=>af ⟨?_,?_⟩
    · subst e19
      dsimp only
      rw [List.append_assoc]
      exact (((nJ hj').symm.append_left s.2.1).trans g1)
    · dsimp only
      rw [List.length_eraseIdx_of_lt hj']
      omega
  · intro s ⟨g1,g2⟩
    rw [av] at g2
    have : s.1 = []:=List.eq_nil_of_length_eq_zero (by omega)
    rw [this,List.append_nil] at g1
    exact g1
end
end K13
end
section
namespace K13
open PySem L2 Kx Mx
def prs : List Str→List (Str×Str)
  | []=>[]
  | x :: xs=>xs.map (fun y=>(x,y)) ++ prs xs
theorem ax {a b x : Str} {xs : List Str} : (a,b) ∈ prs (x :: xs) ↔ (a = x∧b ∈ xs)∨(a,b) ∈ prs xs:=by
  rw [prs,List.mem_append,List.mem_map]
  constructor
  · rintro (⟨y,hy,e⟩ | h)
    · cases e
      exact .inl ⟨rfl,hy⟩
    · exact .inr h
  · rintro (⟨rfl,h⟩ | h)
    · exact .inl ⟨b,h,rfl⟩
    · exact .inr h
theorem bF {a b : Str} : ∀ {xs : List Str},(a,b) ∈ prs xs→a ∈ xs∧b ∈ xs
  | [],h=>nomatch h
  | x :: xs,h=>by
    rcases ax.mp h with ⟨e,h2⟩ | h2
    · exact ⟨e ▸ List.mem_cons_self,List.mem_cons_of_mem _ h2⟩
    · obtain ⟨h1,h2⟩:=bF h2
      exact ⟨List.mem_cons_of_mem _ h1,List.mem_cons_of_mem _ h2⟩
theorem fU : ∀ xs : List Str,(prs xs).length ≤ xs.length * xs.length
  | []=>Nat.le_refl _
  | x :: xs=>by
    have:=fU xs
    rw [prs,List.length_append,List.length_map,List.length_cons,Nat.add_mul,Nat.mul_add]
    omega
theorem cW {a b : Str} : ∀ {xs : List Str},xs.Nodup→(a,b) ∈ prs xs→(b,a) ∉ prs xs
  | [],_,h=>nomatch h
  | x :: xs,nd,h=>by
    obtain ⟨n1,n2⟩:=List.nodup_cons.mp nd
    intro h'
    rcases ax.mp h with ⟨e1,q1⟩ | q1
    · rcases ax.mp h' with ⟨e2,q2⟩ | q2
      · exact n1 (e1 ▸ q2)
      · exact n1 (e1 ▸ (bF q2).2)
    · rcases ax.mp h' with ⟨e2,q2⟩ | q2
      · exact n1 (e2 ▸ (bF q1).2)
      · exact cW n2 q1 q2
theorem iq {a b : Str} {xs : List Str} (nd : xs.Nodup) (h : (a,b) ∈ prs xs) : a ≠ b:=fun e=>by
  subst e
  exact cW nd h h
theorem eO {a b : Str} : ∀ {xs : List Str},a ∈ xs→b ∈ xs→a ≠ b→(a,b) ∈ prs xs∨(b,a) ∈ prs xs
  | [],h,_,_=>nomatch h
  | x :: xs,ha,hb,n=>by
    rw [ax,ax]
    rcases List.mem_cons.mp ha with e1 | q1
    · rcases List.mem_cons.mp hb with e2 | q2
      · exact absurd (e1.trans e2.symm) n
      · exact .inl (.inl ⟨e1,q2⟩)
    · rcases List.mem_cons.mp hb with e2 | q2
      · exact .inr (.inl ⟨e2,q1⟩)
      · exact (eO q1 q2 n).imp .inr .inr
theorem kG {a : Str} : ∀ {xs : List Str},a ∈ xs→∃ i,c8 a xs = some i
  | [],h=>nomatch h
  | x :: xs,h=>by
    unfold c8
    by_cases e : x = a
    · exact ⟨0,if_pos e⟩
    · rw [if_neg e]
      rcases List.mem_cons.mp h with q | q
      · exact absurd q.symm e
      · obtain ⟨i,hi⟩:=kG q
        exact ⟨i + 1,by rw [hi]; rfl⟩
theorem rP {a b : Str} : ∀ {xs : List Str} {i j : Nat},xs.Nodup→c8 a xs = some i→c8 b xs = some j→((a,b) ∈ prs xs ↔ i < j)
  | [],_,_,_,h,_=>by cases h
  | x :: xs,i,j,nd,ha,hb=>by
    obtain ⟨n1,n2⟩:=List.nodup_cons.mp nd
    unfold c8 at ha hb
    rw [ax]
    by_cases ea : x = a
    · rw [if_pos ea] at ha
      cases ha
      subst ea
      by_cases eb : x = b
      · rw [if_pos eb] at hb
        cases hb
        subst eb
        constructor
        · rintro (⟨_,h⟩ | h)
          · exact absurd h n1
          · exact absurd (bF h).1 n1
        · intro h; omega
      · rw [if_neg eb] at hb
        cases e : c8 b xs with
        | none=>rw [e] at hb; cases hb
        | some j'=>
          rw [e] at hb
          cases hb
          refine ⟨fun _=>Nat.succ_pos _,fun _=>.inl ⟨rfl,List.mem_of_getElem? (kC e).1⟩⟩
    · rw [if_neg ea] at ha
      cases e1 : c8 a xs with
      | none=>rw [e1] at ha; cases ha
      | some i'=>
        rw [e1] at ha
        cases ha
        by_cases eb : x = b
        · rw [if_pos eb] at hb
          cases hb
          subst eb
          constructor
          · rintro (⟨h,_⟩ | h)
            · exact absurd h.symm ea
            · exact absurd (bF h).2 n1
          · intro h; omega
        · rw [if_neg eb] at hb
          cases e2 : c8 b xs with
          | none=>rw [e2] at hb; cases hb
          | some j'=>
            rw [e2] at hb
            cases hb
            have ih:=rP n2 e1 e2
            constructor
            · rintro (⟨h,_⟩ | h)
              · exact absurd h.symm ea
              · have:=ih.mp h
                show i' + 1 < j' + 1
                omega
            · intro h
              have h : i' + 1 < j' + 1:=h
              exact .inr (ih.mpr (by omega))
theorem oL {x : Str} : ∀ {xs ys : List Str},x ∉ xs→c8 x (xs ++ x :: ys) = some xs.length
  | [],ys,_=>by
    show c8 x (x :: ys) = _
    unfold c8
    rw [if_pos rfl]
    rfl
  | y :: xs,ys,h=>by
    show c8 x (y :: (xs ++ x :: ys)) = _
    unfold c8
    rw [if_neg (fun e=>h (by rw [e]; exact List.mem_cons_self)),oL fun e=>h (List.mem_cons_of_mem _ e)]
    rfl
def ps2 : List Str→List (List (Str×Str))
  | []=>[]
  | x :: xs=>xs.map (fun y=>(x,y)) :: ps2 xs
theorem eB : ∀ xs : List Str,(ps2 xs).flatten = prs xs
  | []=>rfl
  | x :: xs=>by rw [ps2,List.flatten_cons,eB xs,prs]
theorem gh {α β : Type} {f : α→Option β} {g : α→β} : ∀ {xs : List α},(∀ x ∈ xs,f x = some (g x))→cD f xs = some (xs.map g)
  | [],_=>rfl
  | x :: xs,h=>by
    unfold cD
    rw [h x List.mem_cons_self,gh fun y hy=>h y (List.mem_cons_of_mem _ hy)]
    rfl
theorem jF (r : List Str) : ∀ (pre s : List Str),r = pre ++ s→cD (fun x : Int×Str=>(some (cut r (some (x.1 + 1)) none)).bind fun zs=>cD (fun y : Str=>some (x.2,y)) zs) (s.mapIdx fun i x=>(((pre.length + i : Nat) : Int),x)) = some (ps2 s)
  | pre,[],_=>rfl
  | pre,x :: s,e=>by
    rw [List.mapIdx_cons]
    have e1 : ((pre.length + 0 : Nat) : Int) + 1 = ((pre.length + 1 : Nat) : Int):=by omega
    have e2 : cut r (some (((pre.length + 0 : Nat) : Int) + 1)) none = s:=by
      rw [e1,d7,e]
      rw [show pre.length + 1 = (pre ++ [x]).length by simp,show pre ++ x :: s = (pre ++ [x]) ++ s by simp,List.drop_left]
    have ih:=jF r (pre ++ [x]) s (by rw [e]; simp)
    have e3 : (fun (i : Nat) (y : Str)=>(((pre.length + (i + 1) : Nat) : Int),y)) = fun (i : Nat) (y : Str)=>((((pre ++ [x]).length + i : Nat) : Int),y):=by
      funext i y
      rw [List.length_append,List.length_singleton]
      congr 2
      omega
    rw [← e3] at ih
    unfold cD
    rw [ih]
    dsimp only
    rw [e2]
    show ((some s).bind fun zs=>cD _ zs).bind _ = _
    rw [Bss,gh (g:=fun y=>(x,y)) fun _ _=>rfl]
    rfl
def sumF {α : Type} (xs : List α) (f : α→Int) : Int:=(xs.map f).sum
theorem cJ {α : Type} {f : α→Int} : sumF [] f = 0:=rfl
theorem aE {α : Type} {x : α} {xs : List α} {f : α→Int} : sumF (x :: xs) f = f x + sumF xs f:=by unfold sumF; simp
theorem ez {α : Type} {xs ys : List α} {f : α→Int} : sumF (xs ++ ys) f = sumF xs f + sumF ys f:=by unfold sumF; simp
theorem lu {α β : Type} {xs : List α} {g : α→β} {f : β→Int} : sumF (xs.map g) f = sumF xs fun x=>f (g x):=by unfold sumF; rw [List.map_map]; rfl
theorem jM {α : Type} {xs ys : List α} {f : α→Int} (h : xs.Perm ys) : sumF xs f = sumF ys f:=by
  induction h with
  | nil=>rfl
  | cons x _ ih=>rw [aE,aE,ih]
  | swap x y l=>rw [aE,aE,aE,aE]; omega
  | trans _ _ h1 h2=>exact h1.trans h2
theorem bB {α : Type} {xs : List α} {f g : α→Int} (h : ∀ x ∈ xs,f x = g x) : sumF xs f = sumF xs g:=by
  unfold sumF
  rw [List.map_congr_left h]
theorem eX {α : Type} {xs : List α} {f : α→Int} (h : ∀ x ∈ xs,f x = 0) : sumF xs f = 0:=by
  induction xs with
  | nil=>rfl
  | cons x xs ih=>rw [aE,h x List.mem_cons_self,ih fun y hy=>h y (List.mem_cons_of_mem _ hy)]; rfl
theorem fO {xs : List Str} {b : Str} {v : Int} (nd : xs.Nodup) : sumF xs (fun y=>if y = b then v else 0) = if b ∈ xs then v else 0:=by
  induction xs with
  | nil=>simp [cJ]
  | cons x xs ih=>
    obtain ⟨n1,n2⟩:=List.nodup_cons.mp nd
    rw [aE,ih n2]
    by_cases e : x = b
    · subst e
      rw [if_pos rfl,if_neg n1,if_pos List.mem_cons_self]
      omega
    · rw [if_neg e]
      by_cases hb : b ∈ xs
      · rw [if_pos hb,if_pos (List.mem_cons_of_mem _ hb)]; omega
      · rw [if_neg hb,if_neg fun q=>(List.mem_cons.mp q).elim (fun z=>e z.symm) hb]; omega
theorem fx {b : Str} {g : Str→Int} : ∀ {xs : List Str},xs.Nodup→sumF (prs xs) (fun p=>if p.2 = b then g p.1 else 0) = sumF xs fun a=>if (a,b) ∈ prs xs then g a else 0
  | [],_=>rfl
  | x :: xs,nd=>by
    obtain ⟨n1,n2⟩:=List.nodup_cons.mp nd
    rw [prs,ez,lu,fx n2,aE]
    have e1 : sumF xs (fun y=>if (x,y).2 = b then g (x,y).1 else 0) = if (x,b) ∈ prs (x :: xs) then g x else 0:=by
      rw [show (fun y : Str=>if (x,y).2 = b then g (x,y).1 else 0) = fun y=>if y = b then g x else 0 from rfl,fO n2]
      by_cases hb : b ∈ xs
      · rw [if_pos hb,if_pos (ax.mpr (.inl ⟨rfl,hb⟩))]
      · rw [if_neg hb,if_neg fun q=>(ax.mp q).elim (fun z=>hb z.2) fun z=>n1 (bF z).1]
    have e2 : sumF xs (fun a=>if (a,b) ∈ prs xs then g a else 0) = sumF xs fun a=>if (a,b) ∈ prs (x :: xs) then g a else 0:=by
      refine bB fun a ha=>?_
      have : (a,b) ∈ prs (x :: xs) ↔ (a,b) ∈ prs xs:=by
        rw [ax]
        exact ⟨fun q=>q.elim (fun z=>absurd (z.1 ▸ ha) n1) id,.inr⟩
      by_cases q : (a,b) ∈ prs xs
      · rw [if_pos q,if_pos (this.mpr q)]
      · rw [if_neg q,if_neg fun z=>q (this.mp z)]
    rw [e1,e2]
    rfl
theorem jQ {b : Str} {g : Str→Int} : ∀ {xs : List Str},xs.Nodup→sumF (prs xs) (fun p=>if p.1 = b then g p.2 else 0) = sumF xs fun a=>if (b,a) ∈ prs xs then g a else 0
  | [],_=>rfl
  | x :: xs,nd=>by
    obtain ⟨n1,n2⟩:=List.nodup_cons.mp nd
    rw [prs,ez,lu,jQ n2,aE]
    have e0 : ¬ (b,x) ∈ prs (x :: xs):=fun q=>(ax.mp q).elim (fun z=>n1 z.2) fun z=>n1 (bF z).2
    rw [show (if (b,x) ∈ xs.map (fun y=>(x,y)) ++ prs xs then g x else 0) = 0 from if_neg e0,Int.zero_add]
    by_cases e : x = b
    · subst e
      have z : sumF xs (fun a=>if (x,a) ∈ prs xs then g a else 0) = 0:=eX fun a _=>if_neg fun q=>n1 (bF q).1
      rw [z,Int.add_zero]
      refine bB fun a ha=>?_
      show (if x = x then g a else 0) = _
      rw [if_pos rfl]
      exact (if_pos (ax.mpr (.inl ⟨rfl,ha⟩) : (x,a) ∈ prs (x :: xs))).symm
    · have z : sumF xs (fun y=>if (x,y).1 = b then g (x,y).2 else 0) = 0:=eX fun a _=>if_neg e
      rw [z,Int.zero_add]
      refine bB fun a ha=>?_
      have : (b,a) ∈ prs (x :: xs) ↔ (b,a) ∈ prs xs:=by
        rw [ax]
        exact ⟨fun q=>q.elim (fun z=>absurd z.1.symm e) id,.inr⟩
      by_cases q : (b,a) ∈ prs xs
      · rw [if_pos q]
        exact (if_pos (this.mpr q)).symm
      · rw [if_neg q]
        exact (if_neg fun z=>q (this.mp z)).symm
end K13
end
section
namespace K13
open PySem L2 Kx Mx
theorem i8 {r : List Str} (h : r.length ≤ 8) : jD r = some (prs r):=by
  unfold jD sY
  have e : dO r = r.mapIdx fun i x=>(((([] : List Str).length + i : Nat) : Int),x):=by
    unfold dO
    congr 1
    funext i x
    simp
  have:=jF r [] r rfl
  show ((cD (fun x : Int×Str=>(some (cut r (some (x.1 + 1)) none)).bind fun zs=>cD (fun y : Str=>some (x.2,y)) zs) (dO r)).bind fun rs=>(grd (rs.flatten.length ≤ 16777216)).bind fun _=>some rs.flatten).bind (fun t=>some t) = _
  rw [e,this]
  show ((grd ((ps2 r).flatten.length ≤ 16777216)).bind fun _=>some (ps2 r).flatten).bind _ = _
  rw [eB,bD (by have:=fU r; have : r.length * r.length ≤ 8 * 8:=Nat.mul_le_mul h h; omega)]
  rfl
end K13
end
section
namespace K13
open PySem L2 Kx Mx
section
variable {α β : Type} [DecidableEq α]
theorem kU {k j : α} {v : β} : ∀ {xs : List (α×β)},bS (xs.map fun x=>if x.1 = k then (x.1,v) else x) j = (bS xs j).map fun y=>if j = k then v else y
  | []=>rfl
  | p :: xs=>by
    rw [List.map_cons]
    have e1 : (if p.1 = k then (p.1,v) else p).1 = p.1:=by split <;> rfl
    by_cases e : p.1 = j
    · rw [bI (e1.trans e),bI e]
      subst e
      by_cases q : p.1 = k
      · simp [q]
      · simp [q]
    · rw [bH (fun z=>e (e1.symm.trans z)),bH e,kU]
theorem jw {k j : α} {v : β} : ∀ {xs : List (α×β)},(¬ k ∈ xs.map (·.1))→bS (xs ++ [(k,v)]) j = if j = k then some v else bS xs j
  | [],_=>by
    by_cases e : k = j
    · subst e
      rw [if_pos rfl]
      exact bI (p:=(k,v)) rfl
    · rw [if_neg (fun z=>e z.symm)]
      exact bH (p:=(k,v)) e
  | p :: xs,h=>by
    have h1 : p.1 ≠ k:=fun e=>h (by rw [List.map_cons,e]; exact List.mem_cons_self)
    have ih:=jw (j:=j) (v:=v) (xs:=xs) fun e=>h (by rw [List.map_cons]; exact List.mem_cons_of_mem _ e)
    rw [List.cons_append]
    by_cases e : p.1 = j
    · rw [bI e,bI e,if_neg fun z=>h1 (e.trans z)]
    · rw [bH e,bH e,ih]
theorem qD {k j : α} {v : β} {xs : List (α×β)} : bS (bZ xs k v) j = if j = k then some v else bS xs j:=by
  by_cases q : k ∈ xs.map (·.1)
  · obtain ⟨b,hb⟩:=hV q
    have : (xs.any fun x=>decide (x.1 = k)) = true:=by
      obtain ⟨x,hx,e⟩:=List.mem_map.mp q
      exact List.any_eq_true.mpr ⟨x,hx,decide_eq_true e⟩
    unfold bZ
    rw [if_pos this,kU]
    by_cases e : j = k
    · subst e
      rw [hb,if_pos rfl]
      simp
    · rw [if_neg e]
      cases bS xs j <;> simp [e]
  · rw [iu q,jw q]
theorem iA {k j : α} {v z : β} {xs : List (α×β)} : bt (bZ xs k v) j z = if j = k then v else bt xs j z:=by
  unfold bt
  rw [qD]
  by_cases e : j = k
  · rw [if_pos e,if_pos e]; rfl
  · rw [if_neg e,if_neg e]
end
abbrev KT0:=List (Str×Int)×List (Str×Str×Int)
section
variable {k : KT0}
theorem fE (h : Kit k) {r : List Str} (p : r.Perm (cs k)) : r.length ≤ 8:=by
  rw [p.length_eq]
  unfold cs
  rw [List.length_map]
  exact h.l2
theorem gf (h : Kit k) {r : List Str} (p : r.Perm (cs k)) : r.Nodup:=p.nodup_iff.mpr h.nd
theorem tE (h : Kit k) {f : Str×Int→Int} : lcO (fun x : Str×Int=>(dr (f x) x.2).bind fun t=>some t) k.1 = some (k.1.map fun b=>f b % b.2):=by
  obtain ⟨r,e1,e2⟩:=bC (P:=fun t=>t = k.1.map fun b=>f b % b.2) (f:=fun x : Str×Int=>(dr (f x) x.2).bind fun t=>some t) (fun b=>f b % b.2) (by have:=h.l2; omega) (fun x hx=>by
    have:=h.sz x hx
    unfold dr
    rw [bD (by omega)]
    show some ((f x).fmod x.2) = _
    rw [fm (by omega)]) rfl
  rw [e1,e2]
theorem rM {γ δ : Type} {f : γ→δ} {xs : List γ} {i : Nat} {x : γ} (h : xs[i]? = some x) : (xs.take i).map f ++ [f x] = (xs.take (i + 1)).map f:=by
  rw [List.take_add_one,h,List.map_append]
  rfl
end
end K13
end
section
namespace K13
open PySem L2 Kx Mx
section
variable {k : List (Str×Int)×List (Str×Str×Int)}
theorem jd (h : Kit k) {r : List Str} (p : r.Perm (cs k)) : gz (pl k,r) = some true:=by
  have hl : r.length = k.1.length:=by rw [p.length_eq]; unfold cs; rw [List.length_map]
  have W : Wp (gz (pl k,r)) fun t=>t = true:=by
    unfold gz
    refine aO (fun e=>?_) fun _=>?_
    · dsimp only at e
      rw [show decide ((r.length : Int) = (k.1.length : Int)) = true from decide_eq_true (by omega)] at e
      cases e
    refine wp_bind (P:=fun t : List Bool=>t.all id = true) (c6 (fun _ y=>y = true) (by have:=h.l2; dsimp only; omega) (fun x hx=>?_) ?_) fun t8 h8=>?_
    · rw [bL (h.nm.1 _ (p.mem_iff.mp hx))]
      exact af rfl
    · intro ys hl h
      rw [List.all_eq_true]
      intro y hy
      obtain ⟨i,hi⟩:=List.mem_iff_getElem?.mp hy
      have hil:=(List.getElem?_eq_some_iff.mp hi).1
      have:=h i _ y (List.getElem?_eq_getElem (by omega)) hi
      rw [this]; rfl
    · rw [h8]
      refine wp_bind (P:=fun t=>t = true) (aO (fun _=>?_) fun e=>by cases e) fun t e=>af e
      refine wp_bind (P:=fun t=>t = cs k) (wp_bind (bQ (by have:=h.l2; dsimp only; omega)) fun _ _=>af (gC h p)) fun t9 e9=>wp_bind (P:=fun t=>t = cs k) ?_ fun t10 e10=>af (by rw [e9,e10]; simp)
      unfold lY
      show Wp ((lcO _ k.1).bind _) _
      rw [cQ h]
      exact af rfl
  obtain ⟨r,hr,e⟩:=W
  rw [hr,e]
end
end K13
end
section
namespace K13
open PySem L2 Kx Mx
abbrev SS:=List Str×(Str×Int→Int)
def ahd (r : List Str) (x : Str) : List Str:=r.takeWhile fun y=>!decide (y = x)
theorem db {x : Str} : ∀ {r : List Str},x ∈ r→∃ post,r = ahd r x ++ x :: post∧x ∉ ahd r x∧r.erase x = ahd r x ++ post
  | [],h=>nomatch h
  | y :: r,h=>by
    by_cases e : y = x
    · subst e
      refine ⟨r,by simp [ahd],by simp [ahd],by simp [ahd]⟩
    · have hx : x ∈ r:=(List.mem_cons.mp h).resolve_left fun z=>e z.symm
      obtain ⟨post,e1,e2,e3⟩:=db hx
      have ea : ahd (y :: r) x = y :: ahd r x:=by simp [ahd,e]
      refine ⟨post,by rw [ea,List.cons_append,← e1],by rw [ea]; exact fun z=>(List.mem_cons.mp z).elim (fun z=>e z.symm) e2,?_⟩
      rw [List.erase_cons_tail (by simpa using e),ea,List.cons_append,e3]
def cS (k : KT0) (s : SS) (x : Str) : SS:=(x :: s.1.erase x,fun b=>(s.2 b + if b.1 ∈ ahd s.1 x then tk k x b.1 else 0) % b.2)
abbrev evS (k : KT0) (s : SS) : List Str×List Int:=(s.1,k.1.map s.2)
structure OkS (k : KT0) (s : SS) : Prop where
  p : s.1.Perm (cs k)
  d : ∀ b ∈ k.1,0 ≤ s.2 b∧s.2 b < b.2
section
variable {k : KT0} {s : SS} {x : Str}
theorem OkS.ring (h : Kit k) (o : OkS k s) (hx : x ∈ cs k) : OkS k (cS k s x):=by
  refine ⟨((List.perm_cons_erase (o.p.mem_iff.mpr hx)).symm.trans o.p),fun b hb=>?_⟩
  have:=h.sz b hb
  exact ⟨Int.emod_nonneg _ (by omega),Int.emod_lt_of_pos _ (by omega)⟩
theorem jV {α β : Type} (f : α→β) : ∀ l : List α,(l.map f).zip l = l.map fun b=>(f b,b)
  | []=>rfl
  | a :: l=>by rw [List.map_cons,List.zip_cons_cons,jV f l,List.map_cons]
theorem ub {α : Type} {xs : List α} {ys : List Bool} (hl : ys.length = xs.length) (h : ∀ (i : Nat) (x : α) (y : Bool),xs[i]? = some x→ys[i]? = some y→y = true) : ys.all id = true:=by
  rw [List.all_eq_true]
  intro y hy
  obtain ⟨i,hi⟩:=List.mem_iff_getElem?.mp hy
  have hil:=(List.getElem?_eq_some_iff.mp hi).1
  have:=h i _ y (List.getElem?_eq_getElem (by omega)) hi
  rw [this]; rfl
theorem jY (h : Kit k) (o : OkS k s) : qp (pl k,k.1.map s.2) = some true:=by
  have W : Wp (qp (pl k,k.1.map s.2)) fun t=>t = true:=by
    unfold qp
    refine aO (fun e=>?_) fun _=>?_
    · dsimp only at e
      rw [show decide (((k.1.map s.2).length : Int) = (k.1.length : Int)) = true from decide_eq_true (by rw [List.length_map])] at e
      cases e
    dsimp only
    rw [jV]
    refine wp_bind (P:=fun t : List Bool=>t.all id = true) (c6 (fun _ y=>y = true) (by have:=h.l2; rw [List.length_map]; omega) (fun y hy=>?_) fun ys hl h=>ub hl h) fun t h=>af h
    obtain ⟨c,hc,rfl⟩:=List.mem_map.mp hy
    have hd:=o.d c hc
    rw [dZ hd.1 (by dsimp only; omega)]
    exact af rfl
  obtain ⟨r,hr,e⟩:=W
  rw [hr,e]
theorem gb (h : Kit k) (o : OkS k s) : rQ (pl k,evS k s) = some ():=by
  unfold rQ vc
  dsimp only
  rw [jd h o.p,jY h o]
  rfl
theorem Kit.knd (h : Kit k) : k.1.Nodup:=by
  have:=h.nd
  unfold cs at this
  exact (List.pairwise_map.mp this).imp fun {a b} z e=>z (by rw [e])
theorem sB (h : Kit k) {ds : List Int} (hl : ds.length = k.1.length) : ∃ f,ds = k.1.map f:=by
  refine ⟨fun b=>ds.getD (k.1.idxOf b) 0,?_⟩
  refine List.ext_getElem (by rw [List.length_map,hl]) fun i h1 h2=>?_
  rw [List.getElem_map]
  have hi : i < k.1.length:=by omega
  rw [h.knd.idxOf_getElem i hi]
  simp [List.getD,h1]
theorem i5 (h : Kit k) (z : Sto) : Wp (pP k z) fun r=>∃ s,OkS k s∧r.1 = evS k s:=by
  unfold pP
  refine wp_bind (qo h z) fun t1 p1=>?_
  refine wp_bind (mU (P:=fun r=>r.1.length = k.1.length∧∀ (i : Nat) (x : Str×Int) (y : Int),k.1[i]? = some x→r.1[i]? = some y→0 ≤ y∧y < x.2) (fun x y=>0 ≤ y∧y < x.2) (by have:=h.l2; omega) (fun x hx z=>?_) fun r h1 h2=>⟨h1,h2⟩) fun t11 ⟨h1,h2⟩=>?_
  · have:=h.sz x hx
    exact wp_bind (jO z (by omega) (by omega)) fun t e=>af e
  · obtain ⟨f,hf⟩:=sB h h1
    refine af ⟨(t1.1,f),⟨p1,fun b hb=>?_⟩,by show (t1.1,t11.1) = _; rw [hf]⟩
    obtain ⟨i,hi⟩:=List.mem_iff_getElem?.mp hb
    exact h2 i b (f b) hi (by rw [hf,List.getElem?_map,hi]; rfl)
abbrev eS : List Str×List Int→Dat:=eP2 (eT Dat.str) (eT Dat.int)
end
end K13
end
section
namespace K13
open PySem L2 Kx Mx
section
variable {k : KT0} {s : SS} {x : Str}
theorem mf (h : Kit k) (p : s.1.Perm (cs k)) (hx : x ∈ cs k) : nN (s.1,x) = some (x :: s.1.erase x,ahd s.1 x):=by
  obtain ⟨post,e1,e2,e3⟩:=db (p.mem_iff.mpr hx)
  have hl:=fE h p
  generalize ahd s.1 x = pre at e1 e2 e3
  rw [e3,e1]
  rw [e1,List.length_append,List.length_cons] at hl
  unfold nN
  dsimp only
  rw [oL e2,Bss]
  have ec : cut (pre ++ x :: post) none (some (pre.length : Int)) = pre:=by rw [xZ,List.take_left]
  have e1 : ((pre.length : Nat) : Int) + 1 = ((pre.length + 1 : Nat) : Int):=by omega
  have ed : cut (pre ++ x :: post) (some ((pre.length : Int) + 1)) none = post:=by
    rw [e1,d7,show pre.length + 1 = (pre ++ [x]).length by simp,show pre ++ x :: post = (pre ++ [x]) ++ post by simp,List.drop_left]
  rw [ec,ed]
  unfold gH
  rw [bD (by rw [List.length_singleton]; omega)]
  simp only [Bss]
  rw [bD (by rw [List.length_append,List.length_singleton]; omega)]
  simp
theorem pC (h : Kit k) (o : OkS k s) (hx : x ∈ cs k) : jB (pl k,evS k s,x) = some (evS k (cS k s x)):=by
  have W : Wp (jB (pl k,evS k s,x)) fun t=>t = evS k (cS k s x):=by
    unfold jB
    dsimp only
    rw [mf h o.p hx,Bss,jV]
    have hl8:=h.l2
    refine wp_bind (bK (P:=fun st : List Int=>st = k.1.map (cS k s x).2) (fun i st=>st = (k.1.take i).map (cS k s x).2) rfl ?_ fun st e=>by rw [e,List.length_map,List.take_length]) fun fin hf=>af (by rw [hf]; rfl)
    intro i y st hy e
    subst e
    rw [List.getElem?_map] at hy
    obtain ⟨c,hc,rfl⟩:=Option.map_eq_some_iff.mp hy
    have hil:=(List.getElem?_eq_some_iff.mp hc).1
    have hcm:=List.mem_of_getElem? hc
    have hs:=h.sz c hcm
    have hd:=o.d c hcm
    refine wp_bind (P:=fun t=>t = (cS k s x).2 c) (aO (fun e=>?_) fun e=>?_) fun t23 e23=>?_
    · have hm : c.1 ∈ ahd s.1 x:=of_decide_eq_true e
      rw [dF h hx (List.mem_map.mpr ⟨c,hcm,rfl⟩),Bss]
      refine wp_bind (cZ (P:=fun t=>t = (cS k s x).2 c) (by dsimp only; omega) ?_) fun t e=>af e
      rw [fm (by dsimp only; omega)]
      show _ = (s.2 c + if c.1 ∈ ahd s.1 x then tk k x c.1 else 0) % c.2
      rw [if_pos hm]
    · have hm : c.1 ∉ ahd s.1 x:=of_decide_eq_false e
      refine af ?_
      show _ = (s.2 c + if c.1 ∈ ahd s.1 x then tk k x c.1 else 0) % c.2
      rw [if_neg hm,Int.add_zero,Int.emod_eq_of_lt hd.1 hd.2]
    · subst e23
      exact wp_bind (gR (P:=fun t=>t = (k.1.take (i + 1)).map (cS k s x).2) (by rw [List.length_map,List.length_take]; omega) (rM hc)) fun t e=>af e
  obtain ⟨r,hr,e⟩:=W
  rw [hr,e]
end
end K13
end
section
namespace K13
open PySem L2 Kx Mx
def fg (k : KT0) (s : SS) (rs : List Str) : SS:=rs.foldl (cS k) s
structure RgOk (k : KT0) (rs : List Str) : Prop where
  l : rs.length ≤ 400
  m : ∀ x ∈ rs,x ∈ cs k
section
variable {k : KT0} {s : SS} {rs : List Str}
theorem mI (h : Kit k) : ∀ {rs : List Str} {s : SS},OkS k s→(∀ x ∈ rs,x ∈ cs k)→OkS k (fg k s rs)
  | [],_,o,_=>o
  | x :: rs,s,o,m=>mI h (rs:=rs) (s:=cS k s x) (o.ring h (m x List.mem_cons_self)) fun y hy=>m y (List.mem_cons_of_mem _ hy)
theorem jv (h : Kit k) {f : List Str×List Int→Str→Option (List Str×List Int)} (hf : ∀ (s : SS) (x : Str),OkS k s→x ∈ cs k→f (evS k s) x = some (evS k (cS k s x))) : ∀ {rs : List Str} {s : SS},OkS k s→(∀ x ∈ rs,x ∈ cs k)→cC f rs (evS k s) = some (evS k (fg k s rs))
  | [],_,_,_=>rfl
  | x :: rs,s,o,m=>by
    have hx:=m x List.mem_cons_self
    show (f (evS k s) x).bind _ = _
    rw [hf s x o hx]
    exact jv h hf (rs:=rs) (s:=cS k s x) (o.ring h hx) fun y hy=>m y (List.mem_cons_of_mem _ hy)
end
end K13
end
section
namespace K13
open PySem L2 Kx Mx
section
variable {k : KT0} {s : SS} {rs : List Str}
theorem u7 {x : Str} (hx : x ∈ cs k) : iK k.1 x = true:=by
  obtain ⟨b,e⟩:=hV (xs:=k.1) (k:=x) hx
  unfold iK
  rw [e]
  rfl
theorem fh (h : Kit k) (r : RgOk k rs) : nP (pl k,rs) = some ():=by
  have W : Wp (nP (pl k,rs)) fun _=>True:=by
    unfold nP
    refine aO (fun e=>?_) fun _=>?_
    · have:=r.l
      simp at e
      omega
    refine wp_bind (P:=fun _=>True) (bK (fun _ _=>True) trivial (fun i x st hx _=>?_) fun _ _=>trivial) fun _ _=>af trivial
    obtain ⟨y,hy,rfl⟩:=kz hx
    have hm:=r.m y (List.mem_of_getElem? hy)
    dsimp only
    rw [bL (h.nm.1 y hm),Bss,u7 hm]
    exact af trivial
  obtain ⟨r,hr,_⟩:=W
  exact hr
theorem ql (h : Kit k) (o : OkS k s) (m : ∀ x ∈ rs,x ∈ cs k) : mh (pl k,evS k s,rs) = some (evS k (fg k s rs)):=by
  unfold mh
  dsimp only
  rw [jv h (fun s x o hx=>by rw [pC h o hx]; rfl) o m]
  rfl
theorem xH (h : Kit k) (o : OkS k s) (r : RgOk k rs) : gY (pl k,evS k s,rs) = some (evS k (fg k s rs)):=by
  unfold gY
  have e : jf (pl k) = some ():=by unfold jf; rfl
  dsimp only
  rw [e,Bss,gb h o,Bss,fh h r,Bss,ql h o r.m]
  rfl
end
end K13
end
section
namespace K13
open PySem L2 Kx Mx
section
variable {k : KT0} {s : SS} {rs : List Str}
theorem kr (h : Kit k) {n : Int} (h0 : 0 ≤ n) (hn : n ≤ 1000) (z : Sto) : Wp (qz (k,n) z) fun r=>r.1.length = n.toNat∧∀ x ∈ r.1,x ∈ cs k:=by
  unfold qz
  obtain ⟨n,rfl⟩ : ∃ m : Nat,n = (m : Int):=⟨n.toNat,by omega⟩
  refine wp_bind (bY (P:=fun t=>t = aN 0 (n : Int)) (by omega) rfl) fun t1 e1=>?_
  subst e1
  have h1:=h.l1
  have h2:=h.l2
  refine wp_bind (mU (P:=fun r=>r.1.length = n∧∀ x ∈ r.1,x ∈ cs k) (fun _ y=>y ∈ cs k) (by rw [av]; omega) (fun x hx z=>?_) fun r h1 h2=>⟨by rw [h1,av],fun x hx=>?_⟩) fun t ht=>af ⟨by rw [ht.1]; omega,ht.2⟩
  · refine wp_bind (aW z (a:=(k.1.length : Int)) (by omega) (by omega)) fun t ⟨j,e,hj⟩=>?_
    rw [e]
    exact wp_bind (fZ (P:=fun b=>b ∈ k.1) (by show j < k.1.length; omega) (List.getElem_mem _)) fun b hb=>af (List.mem_map.mpr ⟨b,hb,rfl⟩)
  · obtain ⟨i,hi⟩:=List.mem_iff_getElem?.mp hx
    have hil:=(List.getElem?_eq_some_iff.mp hi).1
    exact h2 i _ x (List.getElem?_eq_getElem (by omega)) hi
end
end K13
end
section
namespace K13
open PySem L2 Kx Mx
def da (r : List Str) (rs : List Str) : List Str:=rs.foldl (fun r x=>x :: r.erase x) r
section
variable {r rs : List Str} {x y : Str}
theorem pO : da r (x :: rs) = da (x :: r.erase x) rs:=rfl
theorem jz {k : KT0} : ∀ {rs : List Str} {s : SS},(fg k s rs).1 = da s.1 rs
  | [],_=>rfl
  | x :: rs,s=>jz (rs:=rs) (s:=cS k s x)
theorem fi (nd : r.Nodup) : (x :: r.erase x).Nodup:=List.nodup_cons.mpr ⟨fun h=>(List.Nodup.not_mem_erase nd h),nd.erase x⟩
theorem pI (h : ∀ x ∈ rs,x ∈ r) : (da r rs).Perm r:=by
  induction rs generalizing r with
  | nil=>exact .refl _
  | cons x rs ih=>
    have p : (x :: r.erase x).Perm r:=(List.perm_cons_erase (h x List.mem_cons_self)).symm
    exact (ih fun y hy=>p.mem_iff.mpr (h y (List.mem_cons_of_mem _ hy))).trans p
def tot (g : Str×Str→Int) : List Str→List Str→Int
  | _,[]=>0
  | r,x :: rs=>sumF (ahd r x) (fun o=>g (x,o)) + tot g (x :: r.erase x) rs
theorem bv {g : Str×Str→Int} : tot g r (x :: rs) = sumF (ahd r x) (fun o=>g (x,o)) + tot g (x :: r.erase x) rs:=rfl
theorem ja {α : Type} {g : α→Int} (h0 : ∀ p,0 ≤ g p∧g p ≤ 1) : ∀ l : List α,0 ≤ sumF l g∧sumF l g ≤ l.length
  | []=>by simp [cJ]
  | a :: l=>by
    have:=ja h0 l
    have:=h0 a
    rw [aE,List.length_cons]
    omega
theorem vR : (ahd r x).length ≤ r.length:=by
  unfold ahd
  exact (List.takeWhile_sublist _).length_le
theorem jC {g : Str×Str→Int} (h0 : ∀ p,0 ≤ g p∧g p ≤ 1) : ∀ {rs r : List Str},(∀ x ∈ rs,x ∈ r)→r.length ≤ 8→0 ≤ tot g r rs∧tot g r rs ≤ 8 * rs.length
  | [],r,_,_=>by simp [tot]
  | x :: rs,r,hm,hl=>by
    have p : (x :: r.erase x).Perm r:=(List.perm_cons_erase (hm x List.mem_cons_self)).symm
    have ih:=jC h0 (rs:=rs) (r:=x :: r.erase x) (fun y hy=>p.mem_iff.mpr (hm y (List.mem_cons_of_mem _ hy))) (by rw [p.length_eq]; exact hl)
    have a:=ja (fun o=>h0 (x,o)) (ahd r x)
    have b:=vR (r:=r) (x:=x)
    rw [bv,List.length_cons]
    have e : sumF (ahd r x) (fun o=>g (x,o)) ≤ 8:=by omega
    omega
theorem sm (nd : r.Nodup) : (ahd r x).Nodup:=by
  unfold ahd
  exact nd.sublist (List.takeWhile_sublist _)
def gB (k : KT0) (b : Str×Int) (p : Str×Str) : Int:=if p.2 = b.1 then tk k p.1 b.1 else 0
theorem vh {k : KT0} {b : Str×Int} (nd : r.Nodup) : sumF (ahd r x) (fun o=>gB k b (x,o)) = if b.1 ∈ ahd r x then tk k x b.1 else 0:=by
  show sumF (ahd r x) (fun o=>if o = b.1 then tk k x b.1 else 0) = _
  exact fO (sm nd)
theorem hX {k : KT0} (h : Kit k) {b : Str×Int} (hb : b ∈ k.1) : ∀ {rs : List Str} {s : SS},OkS k s→(∀ x ∈ rs,x ∈ cs k)→(fg k s rs).2 b = (s.2 b + tot (gB k b) s.1 rs) % b.2
  | [],s,o,_=>by
    have:=o.d b hb
    show s.2 b = (s.2 b + 0) % b.2
    rw [Int.add_zero,Int.emod_eq_of_lt this.1 this.2]
  | x :: rs,s,o,m=>by
    have hx:=m x List.mem_cons_self
    have nd:=gf h o.p
    have:=hX h hb (rs:=rs) (s:=cS k s x) (o.ring h hx) fun y hy=>m y (List.mem_cons_of_mem _ hy)
    show (fg k (cS k s x) rs).2 b = _
    rw [this]
    show ((s.2 b + if b.1 ∈ ahd s.1 x then tk k x b.1 else 0) % b.2 + tot (gB k b) (x :: s.1.erase x) rs) % b.2 = _
    rw [bv,vh nd,Int.emod_add_emod,Int.add_assoc]
end
end K13
end
section
namespace K13
open PySem L2 Kx Mx
abbrev PD:=List ((Str×Str)×Int)
def dS (g : Str×Str→Int) (xs : PD) : Int:=sumF xs fun e=>e.2 * g e.1
def ind (p q : Str×Str) : Int:=if q = p then 1 else 0
theorem px (p : Str×Str) : ∀ q,0 ≤ ind p q∧ind p q ≤ 1:=fun q=>by unfold ind; split <;> omega
structure DK (k : KT0) (xs : PD) : Prop where
  nd : (xs.map (·.1)).Nodup
  m : ∀ e ∈ xs,e.1.1 ∈ cs k∧e.1.2 ∈ cs k
theorem sub_len {α : Type} [DecidableEq α] : ∀ {xs ys : List α},xs.Nodup→(∀ x ∈ xs,x ∈ ys)→xs.length ≤ ys.length
  | [],_,_,_=>by simp
  | x :: xs,ys,nd,h=>by
    obtain ⟨n1,n2⟩:=List.nodup_cons.mp nd
    have hx:=h x List.mem_cons_self
    have:=sub_len (xs:=xs) (ys:=ys.erase x) n2 fun y hy=>by
      have e : y ≠ x:=fun e=>n1 (e ▸ hy)
      exact (List.mem_erase_of_ne e).mpr (h y (List.mem_cons_of_mem _ hy))
    rw [List.length_erase_of_mem hx] at this
    have : 0 < ys.length:=List.length_pos_of_mem hx
    rw [List.length_cons]
    omega
def pairsOf (l : List Str) : List (Str×Str):=l.flatMap fun a=>l.map fun b=>(a,b)
theorem ll {l : List Str} {a b : Str} (ha : a ∈ l) (hb : b ∈ l) : (a,b) ∈ pairsOf l:=List.mem_flatMap.mpr ⟨a,ha,List.mem_map.mpr ⟨b,hb,rfl⟩⟩
theorem jG {α β : Type} {f : α→List β} {n : Nat} (h : ∀ a,(f a).length = n) : ∀ l : List α,(l.flatMap f).length = n * l.length
  | []=>by simp
  | a :: l=>by rw [List.flatMap_cons,List.length_append,h,jG h l,List.length_cons,Nat.mul_add]; omega
theorem DK.len {k : KT0} {xs : PD} (h : Kit k) (d : DK k xs) : xs.length ≤ 64:=by
  have:=sub_len (xs:=xs.map (·.1)) (ys:=pairsOf (cs k)) d.nd fun p hp=>by
    obtain ⟨e,he,rfl⟩:=List.mem_map.mp hp
    exact ll (d.m e he).1 (d.m e he).2
  rw [List.length_map] at this
  unfold pairsOf at this
  rw [jG (n:=(cs k).length) fun a=>List.length_map _] at this
  have hc : (cs k).length = k.1.length:=by unfold cs; rw [List.length_map]
  have hl:=h.l2
  have : (cs k).length * (cs k).length ≤ 8 * 8:=Nat.mul_le_mul (by omega) (by omega)
  omega
section
variable {g : Str×Str→Int} {xs : PD} {p : Str×Str} {v : Int}
theorem vq {e : (Str×Str)×Int} : dS g (e :: xs) = e.2 * g e.1 + dS g xs:=aE
theorem lU {e : (Str×Str)×Int} {z : Int} (h : e.1 = p) : bt (e :: xs) p z = e.2:=by unfold bt; rw [bI h]; rfl
theorem i6 {e : (Str×Str)×Int} {z : Int} (h : e.1 ≠ p) : bt (e :: xs) p z = bt xs p z:=by unfold bt; rw [bH h]
theorem oU : ∀ {xs : PD},p ∉ xs.map (·.1)→bt xs p 0 = 0
  | [],_=>rfl
  | e :: xs,h=>by
    have h1 : e.1 ≠ p:=fun z=>h (by rw [List.map_cons,z]; exact List.mem_cons_self)
    rw [i6 h1]
    exact oU fun z=>h (by rw [List.map_cons]; exact List.mem_cons_of_mem _ z)
theorem kT {w : Int} : (bZ xs p w).map (·.1) = if p ∈ xs.map (·.1) then xs.map (·.1) else xs.map (·.1) ++ [p]:=by
  by_cases q : p ∈ xs.map (·.1)
  · have : (xs.any fun x=>decide (x.1 = p)) = true:=by
      obtain ⟨x,hx,e⟩:=List.mem_map.mp q
      exact List.any_eq_true.mpr ⟨x,hx,decide_eq_true e⟩
    unfold bZ
    rw [if_pos this,if_pos q,List.map_map]
    apply List.map_congr_left
    intro a _
    show (if a.1 = p then (a.1,w) else a).1 = a.1
    split <;> rfl
  · rw [iu q,if_neg q,List.map_append]
    rfl
theorem DK.put {k : KT0} {w : Int} (d : DK k xs) (h1 : p.1 ∈ cs k) (h2 : p.2 ∈ cs k) : DK k (bZ xs p w):=by
  refine ⟨?_,fun e he=>?_⟩
  · rw [kT]
    by_cases q : p ∈ xs.map (·.1)
    · rw [if_pos q]; exact d.nd
    · rw [if_neg q]
      exact List.nodup_append.mpr ⟨d.nd,by simp,fun a ha b hb=>by rw [List.mem_singleton.mp hb]; exact fun z=>q (z ▸ ha)⟩
  · have : e.1 ∈ (bZ xs p w).map (·.1):=List.mem_map.mpr ⟨e,he,rfl⟩
    rw [kT] at this
    have z : e.1 ∈ xs.map (·.1)∨e.1 = p:=by
      by_cases q : p ∈ xs.map (·.1)
      · rw [if_pos q] at this; exact .inl this
      · rw [if_neg q] at this
        rcases List.mem_append.mp this with z | z
        · exact .inl z
        · exact .inr (List.mem_singleton.mp z)
    rcases z with z | z
    · obtain ⟨e',he',z⟩:=List.mem_map.mp z
      rw [← z]
      exact d.m e' he'
    · rw [z]; exact ⟨h1,h2⟩
theorem qA : ∀ {xs : PD},(xs.map (·.1)).Nodup→dS (ind p) xs = bt xs p 0
  | [],_=>rfl
  | e :: xs,nd=>by
    rw [List.map_cons] at nd
    obtain ⟨n1,n2⟩:=List.nodup_cons.mp nd
    rw [vq,qA n2]
    unfold ind
    by_cases q : e.1 = p
    · subst q
      rw [if_pos rfl,lU rfl,oU n1,Int.mul_one,Int.add_zero]
    · rw [if_neg q,i6 q,Int.mul_zero,Int.zero_add]
theorem getD_mem {e : (Str×Str)×Int} : ∀ {xs : PD},(xs.map (·.1)).Nodup→e ∈ xs→bt xs e.1 0 = e.2
  | [],_,h=>nomatch h
  | a :: xs,nd,h=>by
    rw [List.map_cons] at nd
    obtain ⟨n1,n2⟩:=List.nodup_cons.mp nd
    rcases List.mem_cons.mp h with rfl | h
    · exact lU rfl
    · rw [i6 fun z=>n1 (z ▸ List.mem_map.mpr ⟨e,h,rfl⟩),getD_mem n2 h]
end
end K13
end
section
namespace K13
open PySem L2 Kx Mx
section
variable {k : KT0} {xs ys : PD} {t : Int}
structure PO (k : KT0) (r rs : List Str) (xs : PD) : Prop where
  d : DK k xs
  s : ∀ g,dS g xs = tot g r rs
theorem PO.val {r rs : List Str} (p : PO k r rs xs) (hr : ∀ x ∈ rs,x ∈ r) (hl : r.length ≤ 8) {e : (Str×Str)×Int} (he : e ∈ xs) : 0 ≤ e.2∧e.2 ≤ 8 * rs.length:=by
  rw [← getD_mem p.d.nd he,← qA p.d.nd,p.s]
  exact jC (px e.1) hr hl
theorem PO.nil {r : List Str} : PO k r [] []:=⟨⟨by simp,fun e he=>nomatch he⟩,fun g=>rfl⟩
inductive Crs (k : KT0) : Nat→List Dat→List Str→Nat→Prop
  | nil {n : Nat} : Crs k n [] [] 0
  | nm {n p : Nat} {ds : List Dat} {rs : List Str} {x : Str} (hx : x ∈ cs k) (h : Crs k n ds rs p) : Crs k n (.str x :: ds) (x :: rs) (1 + p)
  | rp {n p q t : Nat} {ds es : List Dat} {rs qs : List Str} (h1 : Crs k n es qs q) (ht : 1 ≤ t) (ht2 : t ≤ 10 ^ 30) (h : Crs k (n + 1) ds rs p) : Crs k (n + 1) (.tuple [.tuple es,.int (t : Int)] :: ds) ((List.replicate t qs).flatten ++ rs) (1 + q + p)
theorem vm {α : Type} {l : List α} {t : Nat} : (List.replicate t l).flatten.length = t * l.length:=PyProof.Rows.lm_len_rep_flat _ _
theorem Crs.len {n p : Nat} {ds : List Dat} {rs : List Str} (h : Crs k n ds rs p) : rs.length ≤ p * 2 ^ (100 * n):=by
  induction h with
  | nil=>simp
  | @nm n p ds rs x hx _ ih=>
    rw [List.length_cons,Nat.add_mul]
    have : 1 ≤ 2 ^ (100 * n):=Nat.one_le_two_pow
    omega
  | @rp n p q t ds es rs qs _ ht ht2 _ ih1 ih2=>
    rw [List.length_append,vm,Nat.add_mul,Nat.add_mul]
    have e : 2 ^ (100 * (n + 1)) = 2 ^ 100 * 2 ^ (100 * n):=by rw [← Nat.pow_add]; congr 1; omega
    have a : t * qs.length ≤ 2 ^ 100 * (q * 2 ^ (100 * n)):=Nat.mul_le_mul (Nat.le_trans ht2 (by decide)) ih1
    have b : q * 2 ^ (100 * (n + 1)) = 2 ^ 100 * (q * 2 ^ (100 * n)):=by
      rw [e,Nat.mul_left_comm]
    omega
theorem Crs.mono {n m p : Nat} {ds : List Dat} {rs : List Str} (h : Crs k n ds rs p) (hm : n ≤ m) : Crs k m ds rs p:=by
  induction h generalizing m with
  | nil=>exact .nil
  | nm hx _ ih=>exact .nm hx (ih hm)
  | rp _ ht ht2 _ ih1 ih2=>
    obtain ⟨m,rfl⟩ : ∃ j,m = j + 1:=⟨m - 1,by omega⟩
    exact .rp (ih1 (by omega)) ht ht2 (ih2 hm)
end
end K13
end
section
namespace K13
open PySem L2 Kx Mx
section
variable {k : KT0} {s : SS}
def flp (r rs : List Str) (p : Str×Str) : Int:=tot (ind p) r rs + tot (ind (p.2,p.1)) r rs
def aP (k : KT0) (r rs : List Str) : List (Str×Str×Int):=(prs (cs k)).map fun p=>(p.1,p.2,flp r rs p)
theorem lO (h : Kit k) : (prs (cs k)).length ≤ 64:=by
  have hc : (cs k).length = k.1.length:=by unfold cs; rw [List.length_map]
  have:=fU (cs k)
  have hl:=h.l2
  have : (cs k).length * (cs k).length ≤ 8 * 8:=Nat.mul_le_mul (by omega) (by omega)
  omega
end
end K13
end
section
namespace K13
open PySem L2 Kx Mx
section
variable {k : KT0} {s : SS}
theorem o7 : ∀ {xs : List Str} {i : Nat} (h : i < xs.length),(ps2 xs)[i]? = some ((xs.drop (i + 1)).map fun y=>(xs[i],y))
  | x :: xs,0,_=>rfl
  | x :: xs,i + 1,h=>by
    rw [ps2,List.getElem?_cons_succ,o7 (xs:=xs) (by rw [List.length_cons] at h; omega)]
    rfl
theorem mQ : ∀ xs : List Str,(ps2 xs).length = xs.length
  | []=>rfl
  | x :: xs=>by rw [ps2,List.length_cons,List.length_cons,mQ xs]
theorem jb (h : Kit k) : jS k = some (prs (cs k)):=by
  have W : Wp (jS k) fun t=>t = prs (cs k):=by
    unfold jS
    rw [cQ h,Bss]
    have hl8 : (cs k).length ≤ 8:=by unfold cs; rw [List.length_map]; exact h.l2
    have lp : (prs (cs k)).length ≤ 64:=by have:=fU (cs k); have : (cs k).length * (cs k).length ≤ 8 * 8:=Nat.mul_le_mul hl8 hl8; omega
    refine wp_bind (bY (P:=fun t=>t = aN 0 ((cs k).length : Int)) (by omega) rfl) fun t8 e8=>?_
    subst e8
    refine wp_bind (bK (P:=fun st=>st = prs (cs k)) (fun i st=>st = ((ps2 (cs k)).take i).flatten) rfl ?_ fun s e=>by rw [e,av,← mQ,List.take_length,eB]) fun fin hf=>af hf
    intro i x st hx e
    subst e
    obtain ⟨hi,rfl⟩:=cf hx
    have e1 : (i : Int) + 1 = ((i + 1 : Nat) : Int):=by omega
    rw [e1,d7]
    refine wp_bind (bC (P:=fun t=>t = ((cs k).drop (i + 1)).map fun y=>((cs k)[i],y)) (fun y=>((cs k)[i],y)) (by rw [List.length_drop]; omega) (fun y _=>by rw [bA hi]; rfl) rfl) fun t23 e23=>?_
    have et : ((ps2 (cs k)).take (i + 1)).flatten = ((ps2 (cs k)).take i).flatten ++ t23:=by
      rw [List.take_add_one,o7 hi,e23,List.flatten_append]
      simp
    have lt : (((ps2 (cs k)).take i).flatten ++ t23).length ≤ 64:=by
      rw [← et]
      refine Nat.le_trans ?_ lp
      rw [← eB]
      have : (ps2 (cs k)).flatten = ((ps2 (cs k)).take (i + 1)).flatten ++ ((ps2 (cs k)).drop (i + 1)).flatten:=by rw [← List.flatten_append,List.take_append_drop]
      rw [this,List.length_append]
      omega
    rw [List.length_append] at lt
    exact wp_bind (km (P:=fun t=>t = ((ps2 (cs k)).take (i + 1)).flatten) (by omega) et.symm) fun t e=>af e
  obtain ⟨r,hr,e⟩:=W
  rw [hr,e]
theorem eZ : ∀ {xs : List Str},(xs.Pairwise fun a b=>sLt a b = true)→∀ p ∈ prs xs,sLt p.1 p.2 = true
  | [],_,p,hp=>nomatch hp
  | x :: xs,h,p,hp=>by
    obtain ⟨h1,h2⟩:=List.pairwise_cons.mp h
    rcases List.mem_append.mp (show p ∈ xs.map (fun y=>(x,y)) ++ prs xs from hp) with hp | hp
    · obtain ⟨y,hy,rfl⟩:=List.mem_map.mp hp
      exact h1 y hy
    · exact eZ h2 p hp
theorem tG : ∀ {xs : List Str},(xs.Pairwise fun a b=>sLt a b = true)→(prs xs).Pairwise fun a b=>ltP a b = true
  | [],_=>.nil
  | x :: xs,h=>by
    obtain ⟨h1,h2⟩:=List.pairwise_cons.mp h
    show (xs.map (fun y=>(x,y)) ++ prs xs).Pairwise _
    refine List.pairwise_append.mpr ⟨List.pairwise_map.mpr (h2.imp fun {a b} e=>by unfold ltP; rw [if_pos rfl]; exact e),tG h2,fun p hp q hq=>?_⟩
    obtain ⟨y,hy,rfl⟩:=List.mem_map.mp hp
    have hx:=h1 q.1 (bF (show (q.1,q.2) ∈ prs xs from hq)).1
    unfold ltP
    rw [if_neg (show ¬ x = q.1 from nV hx)]
    exact hx
theorem uW (h : Kit k) : (prs (cs k)).Nodup:=(tG h.nm.2).imp fun e=>rX e
def tD (k : KT0) (f : Str×Str→Int) : List ((Str×Str)×Int):=(prs (cs k)).map fun p=>(p,f p)
theorem wc {f : Str×Str→Int} : (tD k f).map (·.1) = prs (cs k):=by
  unfold tD
  rw [List.map_map]
  exact List.map_id' _
theorem mO {f : Str×Str→Int} {q : Str×Str} : ∀ {l : List (Str×Str)},q ∈ l→bS (l.map fun p=>(p,f p)) q = some (f q)
  | p :: l,h=>by
    by_cases e : p = q
    · rw [List.map_cons,bI (show ((p,f p) : (Str×Str)×Int).1 = q from e),e]
    · rw [List.map_cons,bH (show ¬ ((p,f p) : (Str×Str)×Int).1 = q from e)]
      exact mO ((List.mem_cons.mp h).resolve_left fun z=>e z.symm)
theorem xW {f : Str×Str→Int} {q : Str×Str} (h : q ∈ prs (cs k)) : bS (tD k f) q = some (f q):=mO h
theorem x7 (h : Kit k) {f : Str×Str→Int} {q : Str×Str} {v : Int} (hq : q ∈ prs (cs k)) : fN (tD k f) q v = some (tD k fun p=>if p = q then v else f p):=by
  have l64:=lO h
  have hl : (tD k f).length ≤ 64:=by unfold tD; rw [List.length_map]; exact l64
  have hp : bZ (tD k f) q v = tD k fun p=>if p = q then v else f p:=by
    unfold bZ
    rw [if_pos]
    · unfold tD
      rw [List.map_map]
      refine List.map_congr_left fun p _=>?_
      show (if p = q then (p,v) else (p,f p)) = (p,if p = q then v else f p)
      split <;> rfl
    · unfold tD
      rw [List.any_map,List.any_eq_true]
      exact ⟨q,hq,decide_eq_true rfl⟩
  unfold fN
  rw [hp]
  have : (tD k f).length < 16777216:=by omega
  simp [bD,this]
theorem fF {f g : Str×Str→Int} (h : ∀ p ∈ prs (cs k),f p = g p) : tD k f = tD k g:=List.map_congr_left fun p hp=>by rw [h p hp]
def mm (x y : Str) : Str×Str:=(iS x y,iX x y)
theorem fP {a b : Str} (h : sLt a b = true) : sLt b a = false:=by
  cases e : sLt b a with
  | false=>rfl
  | true=>have:=eU h e; rw [eR] at this; cases this
theorem sJ {x y : Str} (h : sLt x y = true) : mm x y = (x,y):=by
  unfold mm iS iX
  rw [if_neg (by rw [fP h]; exact Bool.false_ne_true),if_pos h]
theorem uG {x y : Str} (h : sLt y x = true) : mm x y = (y,x):=by
  unfold mm iS iX
  rw [if_pos h,if_neg (by rw [fP h]; exact Bool.false_ne_true)]
theorem wZ (h : Kit k) {x y : Str} (hx : x ∈ cs k) (hy : y ∈ cs k) (ne : x ≠ y) : mm x y ∈ prs (cs k):=by
  rcases eO hx hy ne with q | q
  · rw [sJ (eZ h.nm.2 _ q)]; exact q
  · rw [uG (eZ h.nm.2 _ q)]; exact q
theorem xy (h : Kit k) {x y : Str} (hx : x ∈ cs k) (hy : y ∈ cs k) (ne : x ≠ y) {p : Str×Str} (hp : p ∈ prs (cs k)) : (if p = mm x y then (1 : Int) else 0) = ind p (x,y) + ind (p.2,p.1) (x,y):=by
  have hlt:=eZ h.nm.2 p hp
  unfold ind
  rcases eO hx hy ne with q | q
  · have hq:=eZ h.nm.2 _ q
    rw [sJ hq,if_neg (show ¬ (x,y) = (p.2,p.1) from fun e=>by
      have e1:=(Prod.mk.inj e).1
      have e2:=(Prod.mk.inj e).2
      rw [← e1,← e2] at hlt
      have:=fP hq
      rw [this] at hlt
      cases hlt),Int.add_zero]
    by_cases e : p = (x,y)
    · rw [if_pos e,if_pos e.symm]
    · rw [if_neg e,if_neg fun z=>e z.symm]
  · have hq:=eZ h.nm.2 _ q
    have hq : sLt y x = true:=hq
    rw [uG hq,if_neg (show ¬ (x,y) = p from fun e=>by
      rw [← e] at hlt
      have:=fP hq
      rw [show sLt x y = true from hlt] at this
      cases this),Int.zero_add]
    by_cases e : p = (y,x)
    · rw [if_pos e,if_pos (by rw [e])]
    · rw [if_neg e,if_neg fun z=>e (Prod.ext (Prod.mk.inj z).2.symm (Prod.mk.inj z).1.symm)]
theorem ig (h : Kit k) {x : Str} : ∀ {ys : List Str} {f : Str×Str→Int},(∀ y ∈ ys,mm x y ∈ prs (cs k))→
    cC (fun (st19 : List ((Str×Str)×Int)) (x20 : Str)=>(bS st19 (iS x x20,iX x x20)).bind fun t25=>(fN st19 (iS x x20,iX x x20) (t25 + (1 : Int))).bind fun t26=>some t26) ys (tD k f) = some (tD k fun p=>f p + sumF ys fun y=>if p = mm x y then 1 else 0)
  | [],f,_=>by
    show some _ = some _
    congr 1
    exact fF fun p _=>by rw [cJ,Int.add_zero]
  | y :: ys,f,hm=>by
    have hy:=hm y List.mem_cons_self
    show ((bS (tD k f) (mm x y)).bind fun t25=>(fN (tD k f) (mm x y) (t25 + (1 : Int))).bind fun t26=>some t26).bind _ = _
    rw [xW hy,Bss,x7 h hy,Bss,Bss,ig h fun z hz=>hm z (List.mem_cons_of_mem _ hz)]
    congr 1
    refine fF fun p _=>?_
    rw [aE]
    by_cases e : p = mm x y
    · rw [if_pos e,if_pos e,e]; omega
    · rw [if_neg e,if_neg e]; omega
theorem dj {α : Type} {f g : α→Int} : ∀ {xs : List α},(sumF xs fun x=>f x + g x) = sumF xs f + sumF xs g
  | []=>rfl
  | x :: xs=>by rw [aE,aE,aE,dj]; omega
theorem tz (h : Kit k) {r rs : List Str} (hr : r.Perm (cs k)) {x : Str} (hx : x ∈ cs k) {p : Str×Str} (hp : p ∈ prs (cs k)) : flp r (x :: rs) p = (sumF (ahd r x) fun y=>if p = mm x y then 1 else 0) + flp (x :: r.erase x) rs p:=by
  obtain ⟨post,e1,e2,e3⟩:=db (hr.mem_iff.mpr hx)
  have : (sumF (ahd r x) fun y=>if p = mm x y then (1 : Int) else 0) = (sumF (ahd r x) fun y=>ind p (x,y)) + sumF (ahd r x) fun y=>ind (p.2,p.1) (x,y):=by
    rw [← dj]
    refine bB fun y hy=>xy h hx (hr.mem_iff.mp ?_) (fun e=>e2 (by rw [← e] at hy; exact hy)) hp
    rw [e1]
    exact List.mem_append_left _ hy
  unfold flp
  rw [bv,bv,this]
  omega
theorem ie (h : Kit k) {g : List Str×List ((Str×Str)×Int)→Str→Option (List Str×List ((Str×Str)×Int))}
    (hg : ∀ (r : List Str) (f : Str×Str→Int) (x : Str),r.Perm (cs k)→x ∈ cs k→g (r,tD k f) x = some (x :: r.erase x,tD k fun p=>f p + sumF (ahd r x) fun y=>if p = mm x y then 1 else 0)) :
    ∀ {rs r : List Str} {f : Str×Str→Int},r.Perm (cs k)→(∀ x ∈ rs,x ∈ cs k)→cC g rs (r,tD k f) = some (da r rs,tD k fun p=>f p + flp r rs p)
  | [],r,f,_,_=>by
    show some _ = some _
    congr 1
    refine Prod.ext rfl (fF fun p _=>?_)
    show f p = f p + (0 + 0)
    omega
  | x :: rs,r,f,hr,hm=>by
    have hx:=hm x List.mem_cons_self
    show (g (r,tD k f) x).bind _ = _
    have hr' : (x :: r.erase x).Perm (cs k):=(List.perm_cons_erase (hr.mem_iff.mpr hx)).symm.trans hr
    rw [hg r f x hr hx,Bss,ie h hg hr' fun y hy=>hm y (List.mem_cons_of_mem _ hy)]
    congr 1
    refine Prod.ext rfl (fF fun p hp=>?_)
    rw [tz h hr hx hp]
    omega
end
end K13
end
section
namespace K13
open PySem L2 Kx Mx
section
variable {k : KT0} {s : SS}
theorem iW (r : List Str) : ∀ (pre s : List Str),r = pre ++ s→cD (fun x : Int×Str=>(some (cut r (some (x.1 + 1)) none)).bind fun zs=>cD (fun y : Str=>some ((x.2,y),(0 : Int))) zs) (s.mapIdx fun i x=>(((pre.length + i : Nat) : Int),x)) = some ((ps2 s).map fun l=>l.map fun p=>(p,(0 : Int)))
  | pre,[],_=>rfl
  | pre,x :: s,e=>by
    rw [List.mapIdx_cons]
    have e1 : ((pre.length + 0 : Nat) : Int) + 1 = ((pre.length + 1 : Nat) : Int):=by omega
    have e2 : cut r (some (((pre.length + 0 : Nat) : Int) + 1)) none = s:=by
      rw [e1,d7,e]
      rw [show pre.length + 1 = (pre ++ [x]).length by simp,show pre ++ x :: s = (pre ++ [x]) ++ s by simp,List.drop_left]
    have ih:=iW r (pre ++ [x]) s (by rw [e]; simp)
    have e3 : (fun (i : Nat) (y : Str)=>(((pre.length + (i + 1) : Nat) : Int),y)) = fun (i : Nat) (y : Str)=>((((pre ++ [x]).length + i : Nat) : Int),y):=by
      funext i y
      rw [List.length_append,List.length_singleton]
      congr 2
      omega
    rw [← e3] at ih
    unfold cD
    rw [ih]
    dsimp only
    rw [e2]
    show ((some s).bind fun zs=>cD _ zs).bind _ = _
    rw [Bss,gh (g:=fun y=>((x,y),(0 : Int))) fun _ _=>rfl,ps2,List.map_cons,List.map_map]
    rfl
theorem rE (h : Kit k) : vN (fun x5 : Int×Str=>some (cut (cs k) (some (x5.1 + (1 : Int))) none)) (fun (x5 : Int×Str) (y13 : Str)=>some ((x5.2,y13),(0 : Int))) (dO (cs k)) = some (tD k fun _=>0):=by
  unfold vN sY
  have e : dO (cs k) = (cs k).mapIdx fun i x=>(((([] : List Str).length + i : Nat) : Int),x):=by
    unfold dO
    congr 1
    funext i x
    simp
  have:=iW (cs k) [] (cs k) rfl
  have l64:=lO h
  have ef : ((ps2 (cs k)).map fun l=>l.map fun p=>(p,(0 : Int))).flatten = tD k fun _=>0:=by
    rw [← List.map_flatten,eB]
    rfl
  have el : (tD k fun _=>(0 : Int)).length ≤ 64:=by unfold tD; rw [List.length_map]; exact l64
  show (((cD (fun x : Int×Str=>(some (cut (cs k) (some (x.1 + 1)) none)).bind fun zs=>cD (fun y : Str=>some ((x.2,y),(0 : Int))) zs) (dO (cs k))).bind fun rs=>(grd (rs.flatten.length ≤ 16777216)).bind fun _=>some rs.flatten)).bind (fun ys=>some (aU [] ys)) = _
  rw [e,this]
  show (((grd (((ps2 (cs k)).map fun l=>l.map fun p=>(p,(0 : Int))).flatten.length ≤ 16777216)).bind fun _=>some ((ps2 (cs k)).map fun l=>l.map fun p=>(p,(0 : Int))).flatten)).bind _ = _
  rw [ef,bD (by omega)]
  show some (aU [] (tD k fun _=>0)) = _
  rw [cI (by rw [List.nil_append,wc]; exact uW h),List.nil_append]
theorem wb (h : Kit k) {r rs : List Str} (hr : r.Perm (cs k)) (o : RgOk k rs) : lx (pl k,r,rs) = some (aP k r rs):=by
  unfold lx
  have e : jf (pl k) = some ():=by unfold jf; rfl
  have en : lY (pl k) = some (cs k):=by
    unfold lY
    show (lcO _ k.1).bind _ = _
    rw [cQ h]
    rfl
  have l64:=lO h
  dsimp only
  rw [e,Bss,cM h hr,Bss,fh h o,Bss,en,Bss,rE h,Bss]
  rw [ie h (fun r f x hr hx=>?_) hr o.m,Bss]
  · dsimp only
    have e2 : lcO (fun x41 : (Str×Str)×Int=>some (x41.1.1,x41.1.2,x41.2)) (tD k fun p=>0 + flp r rs p) = some (aP k r rs):=by
      obtain ⟨r',e1,e2⟩:=bC (P:=fun z=>z = aP k r rs) (f:=fun x41 : (Str×Str)×Int=>some (x41.1.1,x41.1.2,x41.2)) (xs:=tD k fun p=>0 + flp r rs p) (fun x=>(x.1.1,x.1.2,x.2)) (by unfold tD; rw [List.length_map]; omega) (fun _ _=>rfl) (by
        unfold tD aP
        rw [List.map_map]
        exact List.map_congr_left fun p _=>by show (p.1,p.2,0 + flp r rs p) = _; rw [Int.zero_add])
      rw [e1,e2]
    rw [e2]
    rfl
  · obtain ⟨post,a1,a2,a3⟩:=db (hr.mem_iff.mpr hx)
    have hb : nN (r,x) = some (x :: r.erase x,ahd r x):=mf (s:=(r,fun _=>0)) h hr hx
    dsimp only
    rw [hb,Bss]
    dsimp only
    rw [ig h (fun y hy=>wZ h hx (hr.mem_iff.mp (by rw [a1]; exact List.mem_append_left _ hy)) fun e=>a2 (by rw [← e] at hy; exact hy)),Bss]
end
end K13
end
section
namespace K13
open PySem L2 Kx Mx
def brs (k : KT0) (row other : List Str) (b : Str) : Int:=sumF (cs k) fun a=>if (a,b) ∈ prs other then (if (a,b) ∈ prs row then 0 else tk k a b) else 0
section
variable {k : KT0}
theorem iB (h : Kit k) {row other : List Str} (pr : row.Perm (cs k)) (po : other.Perm (cs k)) : gU (pl k,row,other) = some (k.1.map fun b=>brs k row other b.1 % b.2):=by
  have W : Wp (gU (pl k,row,other)) fun t=>t = k.1.map fun b=>brs k row other b.1 % b.2:=by
    unfold gU
    dsimp only
    rw [i8 (fE h pr),i8 (fE h po)]
    rw [Bss,Bss]
    have lo:=fE h po
    have lp : (prs other).length ≤ 64:=by have:=fU other; have : other.length * other.length ≤ 8 * 8:=Nat.mul_le_mul lo lo; omega
    refine wp_bind (bK (P:=fun st : List (Str×Int)=>∀ b,bt st b 0 = brs k row other b) (fun i st=>(∀ b,bt st b 0 = sumF ((prs other).take i) fun p=>if p.2 = b then (if (p.1,b) ∈ prs row then 0 else tk k p.1 b) else 0)∧st.length ≤ i) ⟨fun b=>rfl,Nat.le_refl _⟩ ?_ ?_) fun fin hf=>?_
    · intro i p st hp ⟨g1,g2⟩
      have hm:=List.mem_of_getElem? hp
      have hil:=(List.getElem?_eq_some_iff.mp hp).1
      obtain ⟨m1,m2⟩:=bF (a:=p.1) (b:=p.2) hm
      have tks : ∀ b,sumF ((prs other).take (i + 1)) (fun p=>if p.2 = b then (if (p.1,b) ∈ prs row then 0 else tk k p.1 b) else 0) = bt st b 0 + if p.2 = b then (if (p.1,b) ∈ prs row then 0 else tk k p.1 b) else 0:=fun b=>by
        rw [List.take_add_one,hp,ez,g1 b]
        congr 1
        show sumF [p] _ = _
        rw [aE,cJ,Int.add_zero]
      refine aO (fun e=>?_) fun e=>af ⟨fun b=>?_,by omega⟩
      · have e' : ¬ (p.1,p.2) ∈ prs row:=by
          unfold gI at e
          simpa using e
        rw [dF h (po.mem_iff.mp m1) (po.mem_iff.mp m2),Bss]
        refine wp_bind (P:=fun t=>t = bZ st p.2 (bt st p.2 0 + tk k p.1 p.2)) (wp_bind (bQ (by omega)) fun _ _=>af rfl) fun t e=>af ⟨fun b=>?_,?_⟩
        · subst e
          rw [tks b,iA]
          by_cases q : p.2 = b
          · subst q
            rw [if_pos rfl,if_pos rfl,if_neg e']
          · rw [if_neg (fun z=>q z.symm),if_neg q,Int.add_zero]
        · subst e
          have:=lW st p.2 (bt st p.2 0 + tk k p.1 p.2)
          omega
      · have e' : (p.1,p.2) ∈ prs row:=by
          unfold gI at e
          simpa using e
        rw [tks b]
        by_cases q : p.2 = b
        · subst q
          rw [if_pos rfl,if_pos e',Int.add_zero]
        · rw [if_neg q,Int.add_zero]
    · intro st ⟨g1,_⟩ b
      rw [g1 b,List.take_length,fx (g:=fun a=>if (a,b) ∈ prs row then 0 else tk k a b) (gf h po)]
      exact jM po
    · refine wp_bind (P:=fun t=>t = k.1.map fun b=>brs k row other b.1 % b.2) ?_ fun t e=>af e
      unfold jm
      dsimp only
      rw [tE h (f:=fun b=>bt fin b.1 0),Bss]
      refine af (List.map_congr_left fun b _=>?_)
      rw [hf b.1]
  obtain ⟨r,hr,e⟩:=W
  rw [hr,e]
theorem mx (h : Kit k) {row other : List Str} (pr : row.Perm (cs k)) (po : other.Perm (cs k)) : mr (pl k,row,other) = some (k.1.map fun b=>brs k row other b.1 % b.2):=by
  unfold mr
  show (fj (pl k,row)).bind _ = _
  rw [cM h pr]
  show (fj (pl k,other)).bind _ = _
  rw [cM h po]
  show (gU (pl k,row,other)).bind _ = _
  rw [iB h pr po]
  rfl
end
section
variable {k : KT0}
def swf (k : KT0) (a b c : Str) : Int:=(if c = a then tk k b a else 0) + if c = b then tk k a b else 0
theorem nH (h : Kit k) {a b : Str} (ha : a ∈ cs k) (hb : b ∈ cs k) (ne : a ≠ b) : ii (pl k,a,b) = some (k.1.map fun c=>swf k a b c.1 % c.2):=by
  unfold ii
  show (jp (pl k,a,b)).bind _ = _
  have e1 : jp (pl k,a,b) = some ():=by
    unfold jp
    rw [b7 h ha,Bss,b7 h hb,Bss]
    dsimp only
    rw [decide_eq_false (fun z=>ne z.symm)]
    rfl
  rw [e1,Bss]
  unfold oK
  dsimp only
  rw [dF h ha hb,Bss,dF h hb ha,Bss]
  unfold jm
  dsimp only
  rw [tE h (f:=fun c=>bt (aU [] [(b,tk k a b),(a,tk k b a)]) c.1 0),Bss,Bss,Bss]
  congr 1
  refine List.map_congr_left fun c _=>?_
  congr 1
  have em : aU [] [(b,tk k a b),(a,tk k b a)] = bZ (bZ [] b (tk k a b)) a (tk k b a):=rfl
  rw [em,iA,iA]
  unfold swf
  by_cases q1 : c.1 = a
  · rw [if_pos q1,if_pos q1,if_neg fun z=>ne (q1.symm.trans z)]
    omega
  · rw [if_neg q1,if_neg q1,Int.zero_add]
    rfl
end
end K13
end
section
namespace K13
open PySem L2 Kx Mx
section
variable {k : KT0} {s : SS} {r : List Str} {x y a b : Str}
def oN (r : List Str) (a b : Str) : Int:=if (a,b) ∈ prs r then 1 else 0
theorem oE (nd : r.Nodup) (hx : x ∈ r) : y ∈ ahd r x ↔ (y,x) ∈ prs r:=by
  obtain ⟨post,e1,e2,e3⟩:=db hx
  clear e3
  generalize ahd r x = pre at e1 e2
  subst e1
  clear hx
  induction pre with
  | nil=>
    constructor
    · intro h; cases h
    · intro h
      rw [List.nil_append] at h nd
      rcases ax.mp h with ⟨_,q⟩ | q
      · exact absurd q (List.nodup_cons.mp nd).1
      · exact absurd (bF q).2 (List.nodup_cons.mp nd).1
  | cons z pre ih=>
    rw [List.cons_append] at nd
    have nd2:=(List.nodup_cons.mp nd)
    rw [List.cons_append,ax]
    have ne : x ≠ z:=fun e=>e2 (by rw [e]; exact List.mem_cons_self)
    have ih:=ih (fun q=>e2 (List.mem_cons_of_mem _ q)) nd2.2
    constructor
    · intro q
      rcases List.mem_cons.mp q with q | q
      · exact .inl ⟨q,List.mem_append_right _ List.mem_cons_self⟩
      · exact .inr (ih.mp q)
    · rintro (⟨q,_⟩ | q)
      · rw [q]; exact List.mem_cons_self
      · exact List.mem_cons_of_mem _ (ih.mpr q)
theorem jR (ha : a ≠ x) (hb : b ≠ x) : ∀ {r : List Str},(a,b) ∈ prs (r.erase x) ↔ (a,b) ∈ prs r
  | []=>Iff.rfl
  | z :: r=>by
    by_cases e : z = x
    · subst e
      rw [List.erase_cons_head,ax]
      exact ⟨.inr,fun q=>q.resolve_left fun q=>ha q.1⟩
    · rw [List.erase_cons_tail (by simpa using e),ax,ax,jR ha hb,List.mem_erase_of_ne hb]
theorem vy (nd : r.Nodup) (ha : a ∈ r) (hb : b ∈ r) (ne : a ≠ b) : oN r b a = 1 - oN r a b:=by
  unfold oN
  rcases eO ha hb ne with q | q
  · rw [if_neg (cW nd q),if_pos q]; rfl
  · rw [if_pos q,if_neg (cW nd q)]; rfl
theorem iH (nd : r.Nodup) (hx : x ∈ r) : (sumF (ahd r x) fun o=>ind (a,b) (x,o)) = if x = a∧(b,x) ∈ prs r then 1 else 0:=by
  by_cases e : x = a
  · subst e
    have : (sumF (ahd r x) fun o=>ind (x,b) (x,o)) = sumF (ahd r x) fun o=>if o = b then (1 : Int) else 0:=bB fun o _=>by
      unfold ind
      by_cases q : o = b
      · rw [if_pos q,if_pos (by rw [q])]
      · rw [if_neg q,if_neg fun z=>q (Prod.mk.inj z).2]
    rw [this,fO (sm nd)]
    by_cases q : b ∈ ahd r x
    · rw [if_pos q,if_pos ⟨rfl,(oE nd hx).mp q⟩]
    · rw [if_neg q,if_neg fun z=>q ((oE nd hx).mpr z.2)]
  · rw [if_neg fun z=>e z.1]
    exact eX fun o _=>by unfold ind; rw [if_neg fun z=>e (Prod.mk.inj z).1]
theorem lP (ne : a ≠ b) : ∀ {rs r : List Str},r.Nodup→(∀ x ∈ rs,x ∈ r)→a ∈ r→b ∈ r→tot (ind (a,b)) r rs - tot (ind (b,a)) r rs = oN (da r rs) a b - oN r a b
  | [],r,_,_,_,_=>by show (0 : Int) - 0 = oN r a b - oN r a b; omega
  | x :: rs,r,nd,hm,ha,hb=>by
    have hx:=hm x List.mem_cons_self
    have pm : (x :: r.erase x).Perm r:=(List.perm_cons_erase hx).symm
    have ih:=lP ne (rs:=rs) (r:=x :: r.erase x) (fi nd) (fun y hy=>pm.mem_iff.mpr (hm y (List.mem_cons_of_mem _ hy))) (pm.mem_iff.mpr ha) (pm.mem_iff.mpr hb)
    rw [bv,bv,pO,iH nd hx,iH nd hx]
    have key : ((if x = a∧(b,x) ∈ prs r then (1 : Int) else 0) - (if x = b∧(a,x) ∈ prs r then 1 else 0)) = oN (x :: r.erase x) a b - oN r a b:=by
      by_cases e1 : x = a
      · subst e1
        rw [if_neg (show ¬ (x = b∧(x,x) ∈ prs r) from fun z=>ne z.1)]
        have o1 : oN (x :: r.erase x) x b = 1:=by
          unfold oN
          rw [if_pos (ax.mpr (.inl ⟨rfl,(List.mem_erase_of_ne fun z=>ne z.symm).mpr hb⟩))]
        rw [o1]
        have fl:=vy nd hx hb ne
        unfold oN at fl ⊢
        by_cases q : (b,x) ∈ prs r
        · rw [if_pos ⟨rfl,q⟩]; rw [if_pos q] at fl; omega
        · rw [if_neg fun z=>q z.2]; rw [if_neg q] at fl; omega
      · rw [if_neg (show ¬ (x = a∧(b,x) ∈ prs r) from fun z=>e1 z.1)]
        by_cases e2 : x = b
        · subst e2
          have o1 : oN (x :: r.erase x) a x = 0:=by
            unfold oN
            rw [if_neg fun z=>?_]
            rcases ax.mp z with q | q
            · exact e1 q.1.symm
            · exact List.Nodup.not_mem_erase nd (bF q).2
          rw [o1]
          unfold oN
          by_cases q : (a,x) ∈ prs r
          · rw [if_pos ⟨rfl,q⟩,if_pos q]
          · rw [if_neg fun z=>q z.2,if_neg q]
        · rw [if_neg (show ¬ (x = b∧(a,x) ∈ prs r) from fun z=>e2 z.1)]
          have : oN (x :: r.erase x) a b = oN r a b:=by
            unfold oN
            have q : (a,b) ∈ prs (x :: r.erase x) ↔ (a,b) ∈ prs r:=by
              rw [ax,jR (fun z=>e1 z.symm) (fun z=>e2 z.symm)]
              exact ⟨fun q=>q.resolve_left fun q=>e1 q.1.symm,.inr⟩
            by_cases z : (a,b) ∈ prs r
            · rw [if_pos z,if_pos (q.mpr z)]
            · rw [if_neg z,if_neg fun w=>z (q.mp w)]
          rw [this]
          omega
    omega
theorem wQ (r : List Str) (a b : Str) : oN r a b = 0∨oN r a b = 1:=by
  unfold oN
  split
  · exact .inr rfl
  · exact .inl rfl
theorem nf (ne : a ≠ b) {rs : List Str} (nd : r.Nodup) (hm : ∀ x ∈ rs,x ∈ r) (ha : a ∈ r) (hb : b ∈ r) : tot (ind (a,b)) r rs = (if oN (da r rs) a b = 1∧oN r a b = 0 then 1 else 0) + flp r rs (a,b) / 2:=by
  have d:=lP ne nd hm ha hb
  have f : flp r rs (a,b) = tot (ind (a,b)) r rs + tot (ind (b,a)) r rs:=rfl
  rcases wQ (da r rs) a b with e1 | e1 <;> rcases wQ r a b with e2 | e2 <;> rw [e1,e2] at d ⊢ <;> simp <;> omega
theorem rO {rs : List Str} : flp r rs (a,b) = flp r rs (b,a):=by
  unfold flp
  show tot (ind (a,b)) r rs + tot (ind (b,a)) r rs = tot (ind (b,a)) r rs + tot (ind (a,b)) r rs
  omega
theorem lH {α : Type} {f : α→Int} {v : Int} : ∀ {xs : List α},(sumF xs fun x=>f x * v) = sumF xs f * v
  | []=>by show (0 : Int) = 0 * v; omega
  | x :: xs=>by rw [aE,aE,lH,Int.add_mul]
theorem om {g h : Str×Str→Int} : ∀ {rs r : List Str},tot (fun p=>g p + h p) r rs = tot g r rs + tot h r rs
  | [],_=>by show (0 : Int) = 0 + 0; omega
  | x :: rs,r=>by rw [bv,bv,bv,om,dj]; omega
theorem oY {g : Str×Str→Int} {v : Int} : ∀ {rs r : List Str},tot (fun p=>g p * v) r rs = tot g r rs * v
  | [],_=>by show (0 : Int) = 0 * v; omega
  | x :: rs,r=>by rw [bv,bv,oY,lH,Int.add_mul]
theorem kX : ∀ {rs r : List Str},tot (fun _=>0) r rs = 0
  | [],_=>rfl
  | x :: rs,r=>by rw [bv,kX,eX fun _ _=>rfl]; rfl
theorem o6 {α : Type} {g : α→Str×Str→Int} : ∀ {xs : List α} {rs r : List Str},tot (fun p=>sumF xs fun x=>g x p) r rs = sumF xs fun x=>tot (g x) r rs
  | [],rs,r=>kX
  | x :: xs,rs,r=>by
    have : (fun p=>sumF (x :: xs) fun y=>g y p) = fun p=>g x p + sumF xs fun y=>g y p:=funext fun p=>aE
    rw [this,om,o6,aE]
theorem jU {g h : Str×Str→Int} {S : List Str} (e : ∀ p : Str×Str,p.1 ∈ S→g p = h p) : ∀ {rs r : List Str},(∀ x ∈ rs,x ∈ S)→tot g r rs = tot h r rs
  | [],_,_=>rfl
  | x :: rs,r,hm=>by
    rw [bv,bv,jU e fun y hy=>hm y (List.mem_cons_of_mem _ hy)]
    congr 1
    exact bB fun o _=>e _ (hm x List.mem_cons_self)
theorem xA (h : Kit k) {rs : List Str} (hm : ∀ x ∈ rs,x ∈ cs k) (c : Str×Int) : tot (gB k c) r rs = sumF (cs k) fun x=>tot (ind (x,c.1)) r rs * tk k x c.1:=by
  have e : tot (gB k c) r rs = tot (fun p=>sumF (cs k) fun x=>ind (x,c.1) p * tk k x c.1) r rs:=jU (S:=cs k) (fun p hp=>by
    unfold gB
    have e1 : (sumF (cs k) fun x=>ind (x,c.1) p * tk k x c.1) = sumF (cs k) fun x=>if x = p.1 then (if p.2 = c.1 then tk k p.1 c.1 else 0) else 0:=bB fun x _=>by
      unfold ind
      by_cases q1 : x = p.1
      · subst q1
        by_cases q2 : p.2 = c.1
        · have z : p = (p.1,c.1):=Prod.ext rfl q2
          rw [if_pos z,if_pos rfl,if_pos q2,Int.one_mul]
        · have z : ¬ p = (p.1,c.1):=fun z=>q2 (congrArg Prod.snd z)
          rw [if_neg z,if_pos rfl,if_neg q2,Int.zero_mul]
      · have z : ¬ p = (x,c.1):=fun z=>q1 (congrArg Prod.fst z).symm
        rw [if_neg z,if_neg q1,Int.zero_mul]
    rw [e1,fO h.nd,if_pos hp]) hm
  rw [e,o6]
  exact bB fun x _=>oY
theorem yf (h : Kit k) {c : Str} (q : Str×Str→Int) (hq : ∀ a b,(a,b) ∈ prs (cs k)→q (a,b) = q (b,a)) : (sumF (prs (cs k)) fun p=>swf k p.1 p.2 c * q p) = sumF (cs k) fun x=>if x = c then 0 else if c ∈ cs k then tk k x c * q (x,c) else 0:=by
  have e1 : (sumF (prs (cs k)) fun p=>swf k p.1 p.2 c * q p) = (sumF (prs (cs k)) fun p=>if p.1 = c then tk k p.2 c * q (p.2,c) else 0) + sumF (prs (cs k)) fun p=>if p.2 = c then tk k p.1 c * q (p.1,c) else 0:=by
    rw [← dj]
    refine bB fun p hp=>?_
    unfold swf
    rw [Int.add_mul]
    congr 1
    · by_cases e : c = p.1
      · subst e
        rw [if_pos rfl,if_pos rfl,← hq p.1 p.2 hp]
      · rw [if_neg e,if_neg fun z=>e z.symm,Int.zero_mul]
    · by_cases e : c = p.2
      · subst e
        rw [if_pos rfl,if_pos rfl]
      · rw [if_neg e,if_neg fun z=>e z.symm,Int.zero_mul]
  rw [e1,jQ (g:=fun a=>tk k a c * q (a,c)) h.nd,fx (g:=fun a=>tk k a c * q (a,c)) h.nd,← dj]
  refine bB fun x hx=>?_
  by_cases e : x = c
  · subst e
    rw [if_pos rfl,if_neg fun z=>iq h.nd z rfl]
    rfl
  · rw [if_neg e]
    by_cases hc : c ∈ cs k
    · rw [if_pos hc]
      rcases eO hx hc e with z | z
      · rw [if_neg (cW h.nd z),if_pos z,Int.zero_add]
      · rw [if_pos z,if_neg (cW h.nd z),Int.add_zero]
    · rw [if_neg hc,if_neg fun z=>hc (bF z).1,if_neg fun z=>hc (bF z).2]
      rfl
theorem lk {rs : List Str} : ∀ {rs r : List Str},r.Nodup→(∀ x ∈ rs,x ∈ r)→tot (ind (a,a)) r rs = 0
  | [],_,_,_=>rfl
  | x :: rs,r,nd,hm=>by
    have hx:=hm x List.mem_cons_self
    have pm : (x :: r.erase x).Perm r:=(List.perm_cons_erase hx).symm
    rw [bv,lk (rs:=rs) (fi nd) (fun y hy=>pm.mem_iff.mpr (hm y (List.mem_cons_of_mem _ hy))),iH nd hx,if_neg]
    · rfl
    · rintro ⟨e,q⟩
      subst e
      exact iq nd q rfl
theorem qm (h : Kit k) {rs : List Str} (hr : r.Perm (cs k)) (hm : ∀ x ∈ rs,x ∈ cs k) {c : Str×Int} (hc : c ∈ k.1) : brs k r (da r rs) c.1 + (sumF (prs (cs k)) fun p=>swf k p.1 p.2 c.1 * (flp r rs p / 2)) = tot (gB k c) r rs:=by
  have nd:=gf h hr
  have hm' : ∀ x ∈ rs,x ∈ r:=fun x hx=>hr.mem_iff.mpr (hm x hx)
  have hcc : c.1 ∈ cs k:=List.mem_map.mpr ⟨c,hc,rfl⟩
  rw [yf h (fun p=>flp r rs p / 2) (fun a b _=>by show flp r rs (a,b) / 2 = flp r rs (b,a) / 2; rw [rO]),xA h hm]
  unfold brs
  rw [← dj]
  refine bB fun x hx=>?_
  by_cases e : x = c.1
  · rw [if_pos e,e,lk (rs:=rs) nd hm',if_neg fun z=>iq ((pI hm').nodup_iff.mpr nd) z rfl]
    omega
  · rw [if_neg e,if_pos hcc,nf e nd hm' (hr.mem_iff.mpr hx) (hr.mem_iff.mpr hcc),Int.add_mul,Int.mul_comm (tk k x c.1)]
    congr 1
    unfold oN
    by_cases q1 : (x,c.1) ∈ prs (da r rs)
    · by_cases q2 : (x,c.1) ∈ prs r
      · simp [q1,q2]
      · simp [q1,q2]
    · simp [q1]
end
end K13
end
section
namespace K13
open PySem L2 Kx Mx
section
variable {k : KT0} {s : SS}
theorem jZ (h : Kit k) {f : Int→Option Int} {g : Str×Int→Int} (hf : ∀ (i : Nat) (b : Str×Int),k.1[i]? = some b→b ∈ k.1→f (i : Int) = some (g b)) : lcO f (aN 0 (k.1.length : Int)) = some (k.1.map g):=by
  have l8:=h.l2
  have W : Wp (lcO f (aN 0 (k.1.length : Int))) fun t=>t = k.1.map g:=by
    refine c6 (fun x y=>∀ i : Nat,x = (i : Int)→(k.1.map g)[i]? = some y) (by rw [av]; omega) (fun x hx=>?_) fun ys hl hy=>?_
    · obtain ⟨i,hi,rfl⟩:=cu hx
      have e : k.1[i]? = some k.1[i]:=List.getElem?_eq_getElem hi
      refine ⟨_,hf i _ e (List.getElem_mem hi),fun j hj=>?_⟩
      have : j = i:=by omega
      subst this
      rw [List.getElem?_map,e]
      rfl
    · rw [av] at hl
      refine List.ext_getElem? fun i=>?_
      by_cases hi : i < k.1.length
      · have h1 : ys[i]? = some ys[i]:=List.getElem?_eq_getElem (by omega)
        have h2 : (aN 0 (k.1.length : Int))[i]? = some (i : Int):=by
          rw [nj,List.getElem?_map,List.getElem?_range hi]
          rfl
        rw [h1,hy i _ _ h2 h1 i rfl]
      · rw [List.getElem?_eq_none (by omega),List.getElem?_eq_none (by rw [List.length_map]; omega)]
  obtain ⟨r,hr,e⟩:=W
  rw [hr,e]
theorem gv {u : Str×Int→Int} {i : Nat} {b : Str×Int} (hb : k.1[i]? = some b) : atI (k.1.map u) (i : Int) = some (u b):=by
  obtain ⟨hi,e⟩:=List.getElem?_eq_some_iff.mp hb
  rw [bA (by rw [List.length_map]; exact hi),List.getElem_map,e]
theorem j9 {i : Nat} {b : Str×Int} (hb : k.1[i]? = some b) : atI k.1 (i : Int) = some b:=by
  obtain ⟨hi,e⟩:=List.getElem?_eq_some_iff.mp hb
  rw [bA hi,e]
theorem tH (h : Kit k) {b : Str×Int} (hb : b ∈ k.1) (v : Int) : dr v b.2 = some (v % b.2):=by
  have:=h.sz b hb
  unfold dr
  rw [bD (by omega),Bss,fm (by omega)]
theorem pj (h : Kit k) : cE (k.1.length : Int) = some (aN 0 (k.1.length : Int)):=by
  have:=h.l2
  unfold cE
  rw [bD (by omega)]
  rfl
theorem on_S (h : Kit k) (u v : Str×Int→Int) : js (k,k.1.map u,k.1.map v) = some (k.1.map fun b=>(v b - u b) % b.2):=by
  unfold js
  dsimp only
  rw [pj h,Bss,jZ h (g:=fun b=>(v b - u b) % b.2) fun i b hb hm=>by rw [gv hb,Bss,gv hb,Bss,j9 hb,Bss,tH h hm]; rfl]
  rfl
theorem oO (h : Kit k) (u : Str×Int→Int) : lK (k,k.1.map u) = some (k.1.map fun b=>u b % b.2):=by
  unfold lK
  dsimp only
  rw [pj h,Bss,jZ h (g:=fun b=>u b % b.2) fun i b hb hm=>by rw [gv hb,Bss,j9 hb,Bss,tH h hm]; rfl]
  rfl
def dz (k : KT0) (f : Str→Int) : List (Str×Int):=k.1.map fun b=>(b.1,f b.1)
theorem ow {f : Str→Int} {x : Str} (hx : x ∈ cs k) : bS (dz k f) x = some (f x):=by
  unfold dz
  unfold cs at hx
  generalize k.1 = l at hx
  induction l with
  | nil=>cases hx
  | cons b l ih=>
    rw [List.map_cons]
    by_cases q : b.1 = x
    · rw [bI (p:=(b.1,f b.1)) q]
      show some (f b.1) = _
      rw [q]
    · rw [bH (p:=(b.1,f b.1)) q]
      rw [List.map_cons] at hx
      exact ih ((List.mem_cons.mp hx).resolve_left fun z=>q z.symm)
theorem vr {f : Str→Int} {x : Str} {v : Int} (hx : x ∈ cs k) : bZ (dz k f) x v = dz k fun y=>if y = x then v else f y:=by
  unfold bZ
  have : ((dz k f).any fun p=>decide (p.1 = x)) = true:=by
    obtain ⟨b,hb,rfl⟩:=List.mem_map.mp hx
    rw [List.any_eq_true]
    exact ⟨(b.1,f b.1),List.mem_map.mpr ⟨b,hb,rfl⟩,decide_eq_true rfl⟩
  rw [if_pos this]
  unfold dz
  rw [List.map_map]
  refine List.map_congr_left fun b _=>?_
  show (if b.1 = x then (b.1,v) else (b.1,f b.1)) = (b.1,if b.1 = x then v else f b.1)
  by_cases q : b.1 = x
  · rw [if_pos q,if_pos q]
  · rw [if_neg q,if_neg q]
theorem tA (f : Str→Int) : (dz k f).length = k.1.length:=List.length_map ..
theorem ix {a c : Str} : ∀ {r : List Str} {i : Nat},r.Nodup→r[i]? = some a→((a,c) ∈ prs r ↔ c ∈ r.drop (i + 1))
  | [],i,_,h=>by simp at h
  | x :: xs,0,nd,h=>by
    have h : some x = some a:=h
    cases h
    rw [ax]
    exact ⟨fun z=>z.elim (fun z=>z.2) fun z=>absurd (bF z).1 (List.nodup_cons.mp nd).1,fun z=>.inl ⟨rfl,z⟩⟩
  | x :: xs,i + 1,nd,h=>by
    have h' : xs[i]? = some a:=h
    rw [ax]
    have ih:=ix (c:=c) (List.nodup_cons.mp nd).2 h'
    have ne : a ≠ x:=fun z=>(List.nodup_cons.mp nd).1 (z ▸ List.mem_of_getElem? h')
    exact ⟨fun z=>z.elim (fun z=>absurd z.1 ne) fun z=>ih.mp z,fun z=>.inr (ih.mpr z)⟩
def kE (k : KT0) (r other : List Str) (c a : Str) : Int:=if (a,c) ∈ prs other then (if (a,c) ∈ prs r then 0 else tk k a c) else 0
theorem m9 (h : Kit k) {r other : List Str} (pr : r.Perm (cs k)) (po : other.Perm (cs k)) : pF (k,tb k,r,other) = some (k.1.map fun b=>brs k r other b.1):=by
  have l8:=h.l2
  have lo:=fE h po
  have ndo:=gf h po
  have W : Wp (pF (k,tb k,r,other)) fun t=>t = k.1.map fun b=>brs k r other b.1:=by
    unfold pF
    dsimp only
    refine wp_bind (bC (P:=fun t=>t = dz k fun _=>0) (fun b=>(b.1,(0 : Int))) (by omega) (fun _ _=>rfl) rfl) fun t7 e7=>?_
    subst e7
    have nd0 : ((dz k fun _=>0).map (·.1)).Nodup:=by unfold dz; rw [List.map_map]; exact h.nd
    rw [dW (by rw [tA]; omega) nd0,Bss]
    refine wp_bind (bY (P:=fun t=>t = aN 0 (other.length : Int)) (by omega) rfl) fun t9 e9=>?_
    subst e9
    refine wp_bind (bK (P:=fun st=>st = dz k fun c=>brs k r other c) (fun i st=>st = dz k fun c=>sumF (other.take i) (kE k r other c)) rfl (fun i x st hx e=>?_) fun st e=>?_) fun fin ef=>?_
    · obtain ⟨hi,rfl⟩:=cf hx
      subst e
      have ha : other[i]? = some other[i]:=List.getElem?_eq_getElem hi
      have aI : atI other (i : Int) = some other[i]:=bA hi
      have am : other[i] ∈ other:=List.getElem_mem hi
      generalize other[i] = a at ha aI am
      have ac:=po.mem_iff.mp am
      have ar:=pr.mem_iff.mpr ac
      obtain ⟨ia,ea⟩:=kG ar
      rw [show ((i : Int) + 1) = ((i + 1 : Nat) : Int) by omega,d7]
      have ndd : (other.drop (i + 1)).Nodup:=ndo.sublist (List.drop_sublist _ _)
      refine wp_bind (bK (P:=fun st=>st = dz k fun c=>sumF (other.take (i + 1)) (kE k r other c)) (fun j st=>st = dz k fun c=>sumF (other.take i) (kE k r other c) + if c ∈ (other.drop (i + 1)).take j then kE k r other c a else 0) ?_ (fun j y st hy e=>?_) fun st e=>?_) fun f17 e17=>af e17
      · unfold dz
        refine List.map_congr_left fun b _=>?_
        dsimp only
        rw [List.take_zero,if_neg (List.not_mem_nil),Int.add_zero]
      · subst e
        have ym : y ∈ other.drop (i + 1):=List.mem_of_getElem? hy
        have yo : y ∈ other:=List.mem_of_mem_drop ym
        have yc:=po.mem_iff.mp yo
        have yr:=pr.mem_iff.mpr yc
        obtain ⟨iy,ey⟩:=kG yr
        have pay : (a,y) ∈ prs other:=(ix ndo ha).mpr ym
        have ne : a ≠ y:=iq ndo pay
        have ty : ∀ c,c ∈ (other.drop (i + 1)).take (j + 1) ↔ c ∈ (other.drop (i + 1)).take j∨c = y:=fun c=>by
          rw [List.take_add_one,hy]
          simp
        have yn : y ∉ (other.drop (i + 1)).take j:=fun z=>by
          obtain ⟨hj,ej⟩:=List.getElem?_eq_some_iff.mp hy
          obtain ⟨m,hm,em⟩:=List.mem_iff_getElem.mp z
          rw [List.length_take] at hm
          rw [List.getElem_take] at em
          have:=(List.getElem_inj ndd).mp (em.trans ej.symm)
          omega
        have lt:=rP (gf h pr) ey ea
        have q1 : decide ((iy : Int) < (ia : Int)) = decide ((y,a) ∈ prs r):=decide_eq_decide.mpr (by rw [lt]; omega)
        rw [aI,Bss,ea,Bss,ey,Bss,q1]
        refine aO (fun e=>?_) fun e=>?_
        · have no : (a,y) ∉ prs r:=cW (gf h pr) (of_decide_eq_true e)
          rw [ow yc,Bss,if_neg yn,Int.add_zero,Bss]
          refine wp_bind (P:=fun t=>t = dz k fun c=>sumF (other.take i) (kE k r other c) + if c ∈ (other.drop (i + 1)).take (j + 1) then kE k r other c a else 0) (wp_bind (bQ (by rw [tA]; omega)) fun _ _=>af ?_) fun t e=>af e
          rw [vr yc]
          unfold dz
          refine List.map_congr_left fun b _=>?_
          congr 1
          dsimp only
          by_cases q : b.1 = y
          · rw [if_pos q,q,if_pos ((ty y).mpr (.inr rfl))]
            congr 1
            unfold kE
            rw [if_pos pay,if_neg no]
            rfl
          · rw [if_neg q]
            congr 1
            by_cases q2 : b.1 ∈ (other.drop (i + 1)).take j
            · rw [if_pos q2,if_pos ((ty _).mpr (.inl q2))]
            · rw [if_neg q2,if_neg fun z=>((ty _).mp z).elim q2 q]
        · have yes : (a,y) ∈ prs r:=(eO ar yr ne).resolve_right (of_decide_eq_false e)
          refine af ?_
          unfold dz
          refine List.map_congr_left fun b _=>?_
          congr 1
          dsimp only
          congr 1
          by_cases q : b.1 = y
          · rw [q,if_neg yn,if_pos ((ty y).mpr (.inr rfl))]
            unfold kE
            rw [if_pos pay,if_pos yes]
          · by_cases q2 : b.1 ∈ (other.drop (i + 1)).take j
            · rw [if_pos q2,if_pos ((ty _).mpr (.inl q2))]
            · rw [if_neg q2,if_neg fun z=>((ty _).mp z).elim q2 q]
      · subst e
        unfold dz
        refine List.map_congr_left fun b _=>?_
        congr 1
        dsimp only
        rw [List.take_length,List.take_add_one,ha,ez]
        congr 1
        show _ = sumF [a] _
        rw [aE,cJ,Int.add_zero]
        by_cases q : b.1 ∈ other.drop (i + 1)
        · rw [if_pos q]
        · rw [if_neg q]
          unfold kE
          rw [if_neg fun z=>q ((ix ndo ha).mp z)]
    · subst e
      rw [av,List.take_length]
      unfold dz
      refine List.map_congr_left fun b _=>?_
      congr 1
      exact jM po
    · subst ef
      refine wp_bind (bC (P:=fun t=>t = k.1.map fun b=>brs k r other b.1) (fun b=>brs k r other b.1) (by omega) (fun b hb=>by rw [ow (List.mem_map.mpr ⟨b,hb,rfl⟩)]; rfl) rfl) fun t e=>af e
  obtain ⟨t,ht,e⟩:=W
  rw [ht,e]
theorem qe (h : Kit k) {a b : Str} (ha : a ∈ cs k) (hb : b ∈ cs k) (ne : a ≠ b) : je (k,tb k,(a,b)) = some (k.1.map fun c=>swf k a b c.1):=by
  have l8:=h.l2
  have lc : (cs k).length = k.1.length:=List.length_map ..
  have W : Wp (je (k,tb k,(a,b))) fun t=>t = k.1.map fun c=>swf k a b c.1:=by
    unfold je
    dsimp only
    rw [cQ h,Bss]
    refine wp_bind (bC (P:=fun t=>t = k.1.map fun _=>(0 : Int)) (fun _=>(0 : Int)) (by omega) (fun _ _=>rfl) rfl) fun t14 e14=>?_
    subst e14
    have im : ∀ {x : Str} {l : List Str},x ∈ l→∃ j,lF x l = some j:=by
      intro x l hx
      induction l with
      | nil=>cases hx
      | cons y l ih=>
        unfold lF
        by_cases q : y = x
        · rw [if_pos q]; exact ⟨_,rfl⟩
        · obtain ⟨j,hj⟩:=ih ((List.mem_cons.mp hx).resolve_left fun z=>q z.symm)
          rw [if_neg q,hj]; exact ⟨_,rfl⟩
    obtain ⟨i,ei⟩:=im ha
    obtain ⟨j,ej⟩:=im hb
    obtain ⟨i1,_⟩:=gQ ei
    obtain ⟨j1,_⟩:=gQ ej
    have hi:=(List.getElem?_eq_some_iff.mp i1).1
    have hj:=(List.getElem?_eq_some_iff.mp j1).1
    rw [ei,Bss]
    refine wp_bind (ol (P:=fun t=>t = (k.1.map fun _=>(0 : Int)).set i (tk k b a)) (by rw [List.length_map]; omega) rfl) fun t16 e16=>?_
    subst e16
    rw [ej,Bss]
    refine wp_bind (ol (P:=fun t=>t = ((k.1.map fun _=>(0 : Int)).set i (tk k b a)).set j (tk k a b)) (by rw [List.length_set,List.length_map]; omega) rfl) fun t19 e19=>af ?_
    subst e19
    have nij : i ≠ j:=fun z=>by
      rw [z,j1] at i1
      exact ne (Option.some.inj i1).symm
    refine List.ext_getElem? fun m=>?_
    rw [List.getElem?_set,List.getElem?_set,List.length_set,List.length_map,List.getElem?_map,List.getElem?_map]
    cases hm : k.1[m]? with
    | none=>
      have:=List.getElem?_eq_none_iff.mp hm
      rw [if_neg (by omega),if_neg (by omega)]
      rfl
    | some c=>
      have hml:=(List.getElem?_eq_some_iff.mp hm).1
      have cm : (cs k)[m]? = some c.1:=by unfold cs; rw [List.getElem?_map,hm]; rfl
      have inj : ∀ {n : Nat} {x : Str},(cs k)[n]? = some x→(c.1 = x ↔ n = m):=fun {n x} hn=>by
        obtain ⟨u1,w1⟩:=List.getElem?_eq_some_iff.mp hn
        obtain ⟨u2,w2⟩:=List.getElem?_eq_some_iff.mp cm
        refine ⟨fun z=>(List.getElem_inj h.nd).mp (w1.trans (z ▸ w2.symm)),fun z=>?_⟩
        subst z
        rw [hn] at cm
        exact (Option.some.inj cm).symm
      show _ = some (swf k a b c.1)
      unfold swf
      by_cases q : j = m
      · rw [if_pos q,if_pos (by omega),if_neg fun z=>nij (((inj i1).mp z).trans q.symm),if_pos ((inj j1).mpr q),Int.zero_add]
      · rw [if_neg q,if_neg fun z=>q ((inj j1).mp z),Int.add_zero]
        by_cases q2 : i = m
        · rw [if_pos q2,if_pos (by omega),if_pos ((inj i1).mpr q2)]
        · rw [if_neg q2,if_neg fun z=>q2 ((inj i1).mp z)]
          rfl
  obtain ⟨t,ht,e⟩:=W
  rw [ht,e]
theorem rq (h : Kit k) {a b : Str} : 0 ≤ tk k a b∧tk k a b ≤ 99:=by
  unfold tk bt
  cases e : bS (tb k) (a,b) with
  | none=>simp
  | some v=>
    unfold bS at e
    obtain ⟨x,hx,rfl⟩:=Option.map_eq_some_iff.mp e
    have:=List.mem_of_find?_eq_some hx
    unfold tb at this
    obtain ⟨n,hn,rfl⟩:=List.mem_map.mp this
    have:=h.nt.1 n hn
    show 0 ≤ n.2.2∧n.2.2 ≤ 99
    omega
theorem oS {α β : Type} [DecidableEq α] {a : α} {v : β} : ∀ {xs : List (α×β)},bS xs a = some v→∃ e ∈ xs,e.1 = a∧e.2 = v
  | [],e=>by cases e
  | x :: xs,e=>by
    by_cases q : x.1 = a
    · rw [bI q] at e
      exact ⟨x,List.mem_cons_self,q,Option.some.inj e⟩
    · rw [bH q] at e
      obtain ⟨y,hy,e1⟩:=oS e
      exact ⟨y,List.mem_cons_of_mem _ hy,e1⟩
def mW (k : KT0) (r : List Str) (key : List Str×List (Str×Str×Int)) : List Int:=k.1.map fun c=>(brs k r key.1 c.1 + sumF ((prs (cs k)).zip key.2) fun x=>swf k x.1.1 x.1.2 c.1 * (x.2.2.2 / 2)) % c.2
theorem qc (h : Kit k) {a b c : Str} : -(2 ^ 64) < swf k a b c∧swf k a b c < 2 ^ 64:=by
  have t : ∀ x y,0 ≤ tk k x y∧tk k x y ≤ 99:=fun x y=>rq h
  have t1:=t b a
  have t2:=t a b
  unfold swf
  split <;> split <;> omega
theorem rn (h : Kit k) {p : Str×Str} (hp : p ∈ prs (cs k)) : p.1 ∈ cs k∧p.2 ∈ cs k∧p.1 ≠ p.2:=⟨(bF (show (p.1,p.2) ∈ prs (cs k) from hp)).1,(bF (show (p.1,p.2) ∈ prs (cs k) from hp)).2,iq h.nd (show (p.1,p.2) ∈ prs (cs k) from hp)⟩
theorem tY (h : Kit k) {u : Str×Int→Int} {r rs : List Str} : iD (k,k.1.map u,(prs (cs k)).map (fun p=>k.1.map fun c=>swf k p.1 p.2 c.1),aP k r rs) = some (k.1.map fun c=>(u c + sumF ((prs (cs k)).zip (aP k r rs)) fun x=>swf k x.1.1 x.1.2 c.1 * (x.2.2.2 / 2)) % c.2):=by
  have l8:=h.l2
  have l64:=lO h
  have lf : (aP k r rs).length = (prs (cs k)).length:=by unfold aP; rw [List.length_map]
  have W : Wp (iD (k,k.1.map u,(prs (cs k)).map (fun p=>k.1.map fun c=>swf k p.1 p.2 c.1),aP k r rs)) fun t=>t = k.1.map fun c=>(u c + sumF ((prs (cs k)).zip (aP k r rs)) fun x=>swf k x.1.1 x.1.2 c.1 * (x.2.2.2 / 2)) % c.2:=by
    unfold iD
    dsimp only
    rw [lf]
    refine wp_bind (bY (P:=fun t=>t = aN 0 ((prs (cs k)).length : Int)) (by omega) rfl) fun t1 e1=>?_
    subst e1
    refine wp_bind (bK (P:=fun st=>st = k.1.map fun c=>u c + sumF ((prs (cs k)).zip (aP k r rs)) fun x=>swf k x.1.1 x.1.2 c.1 * (x.2.2.2 / 2)) (fun i st=>st = k.1.map fun c=>u c + sumF (((prs (cs k)).zip (aP k r rs)).take i) fun x=>swf k x.1.1 x.1.2 c.1 * (x.2.2.2 / 2)) ?_ (fun i x st hx e=>?_) fun st e=>?_) fun fin ef=>?_
    · refine List.map_congr_left fun c _=>?_
      rw [List.take_zero,cJ,Int.add_zero]
    · obtain ⟨hi,rfl⟩:=cf hx
      subst e
      have hf : i < (aP k r rs).length:=by omega
      rw [List.length_map,pj h,Bss]
      have aS : atI ((prs (cs k)).map (fun p=>k.1.map fun c=>swf k p.1 p.2 c.1)) (i : Int) = some (k.1.map fun c=>swf k (prs (cs k))[i].1 (prs (cs k))[i].2 c.1):=by
        rw [bA (by rw [List.length_map]; exact hi),List.getElem_map]
      have aF : atI (aP k r rs) (i : Int) = some (aP k r rs)[i]:=bA hf
      rw [jZ h (g:=fun c=>(u c + sumF (((prs (cs k)).zip (aP k r rs)).take i) fun x=>swf k x.1.1 x.1.2 c.1 * (x.2.2.2 / 2)) + swf k (prs (cs k))[i].1 (prs (cs k))[i].2 c.1 * ((aP k r rs)[i].2.2 / 2)) fun m b hb hm=>?_]
      · refine af (List.map_congr_left fun c _=>?_)
        have hz : ((prs (cs k)).zip (aP k r rs))[i]? = some ((prs (cs k))[i],(aP k r rs)[i]):=by
          rw [List.getElem?_zip_eq_some]
          exact ⟨List.getElem?_eq_getElem hi,List.getElem?_eq_getElem hf⟩
        rw [List.take_add_one,hz,ez,← Int.add_assoc]
        congr 1
        show _ = sumF [_] _
        rw [aE,cJ,Int.add_zero]
      · rw [gv hb,Bss,aS,Bss,gv hb,Bss,aF,Bss]
        have fd' : dL (aP k r rs)[i].2.2 (2 : Int) = some ((aP k r rs)[i].2.2 / 2):=by
          unfold dL
          rw [bD (.inl (show CDivN _ _ from ⟨by decide,by decide⟩)),Bss,fd (by decide)]
        have ml : fc (swf k (prs (cs k))[i].1 (prs (cs k))[i].2 b.1) ((aP k r rs)[i].2.2 / 2) = some (swf k (prs (cs k))[i].1 (prs (cs k))[i].2 b.1 * ((aP k r rs)[i].2.2 / 2)):=by
          unfold fc
          rw [bD (cr (qc h))]
          rfl
        rw [fd',Bss,ml,Bss]
    · subst e
      rw [av,List.take_of_length_le (by rw [List.length_zip,lf]; omega)]
    · subst ef
      rw [List.length_map,pj h,Bss,jZ h (g:=fun c=>(u c + sumF ((prs (cs k)).zip (aP k r rs)) fun x=>swf k x.1.1 x.1.2 c.1 * (x.2.2.2 / 2)) % c.2) fun i b hb hm=>by rw [gv hb,Bss,j9 hb,Bss,tH h hm]; rfl]
      exact af rfl
  obtain ⟨t,ht,e⟩:=W
  rw [ht,e]
theorem qy (h : Kit k) {r rs : List Str} {c : Str} : (sumF ((prs (cs k)).zip (aP k r rs)) fun x=>swf k x.1.1 x.1.2 c * (x.2.2.2 / 2)) = sumF (prs (cs k)) fun p=>swf k p.1 p.2 c * (flp r rs p / 2):=by
  unfold aP
  generalize prs (cs k) = l
  induction l with
  | nil=>rfl
  | cons p l ih=>rw [List.map_cons,List.zip_cons_cons,aE,aE,ih]
def Known (k : KT0) (r : List Str) (xs : List (KF×List Int)) : Prop:=∀ e ∈ xs,e.2 = mW k r e.1
theorem wM (h : Kit k) (o : OkS k s) {rs : List Str} (g : RgOk k rs) {xs : List (KF×List Int)} (kn : Known k s.1 xs) (hl : xs.length ≤ 10000) : ∃ ys,nK (k,pl k,tb k,evS k s,rs) xs = some (true,ys)∧Known k s.1 ys∧ys.length ≤ xs.length + 1:=by
  have l64:=lO h
  have o':=mI h o g.m
  have er : (fg k s rs).1 = da s.1 rs:=jz
  have pr' : (da s.1 rs).Perm (cs k):=er ▸ o'.p
  have eD : (k.1.map fun b=>((fg k s rs).2 b - s.2 b) % b.2) = mW k s.1 (da s.1 rs,aP k s.1 rs):=by
    unfold mW
    refine List.map_congr_left fun c hc=>?_
    have sz:=h.sz c hc
    rw [hX h hc o g.m,← qm h o.p g.m hc,qy h]
    rw [Int.emod_sub_emod]
    congr 1
    dsimp only
    omega
  have eS : lcO (fun x6 : (Str×Str)=>(je (k,tb k,x6)).bind fun t12=>some t12) (prs (cs k)) = some ((prs (cs k)).map fun p=>k.1.map fun c=>swf k p.1 p.2 c.1):=by
    obtain ⟨t,e1,e2⟩:=bC (P:=fun t=>t = (prs (cs k)).map fun p=>k.1.map fun c=>swf k p.1 p.2 c.1) (f:=fun x6 : (Str×Str)=>(je (k,tb k,x6)).bind fun t12=>some t12) (xs:=prs (cs k)) (fun p=>k.1.map fun c=>swf k p.1 p.2 c.1) (by omega) (fun p hp=>by
      obtain ⟨m1,m2,ne⟩:=rn h hp
      rw [show je (k,tb k,p) = je (k,tb k,(p.1,p.2)) from rfl,qe h m1 m2 ne]
      rfl) rfl
    rw [e1,e2]
  have eF : forR (R:=Bool×List (KF×List Int)) (fun (st20 : Unit) (x21 : Int)=>(atI (prs (cs k)) x21).bind fun t26=>(atI (prs (cs k)) x21).bind fun t27=>(ii (pl k,t26.1,t27.2)).bind fun t28=>(atI ((prs (cs k)).map fun p=>k.1.map fun c=>swf k p.1 p.2 c.1) x21).bind fun t29=>(lK (k,t29)).bind fun t30=>cond (!decide (t28 = t30)) (some (.inr (false,xs))) (some (.inl ()))) (aN 0 ((prs (cs k)).length : Int)) () = some (.inl ()):=by
    have W : Wp (forR (R:=Bool×List (KF×List Int)) (fun (st20 : Unit) (x21 : Int)=>(atI (prs (cs k)) x21).bind fun t26=>(atI (prs (cs k)) x21).bind fun t27=>(ii (pl k,t26.1,t27.2)).bind fun t28=>(atI ((prs (cs k)).map fun p=>k.1.map fun c=>swf k p.1 p.2 c.1) x21).bind fun t29=>(lK (k,t29)).bind fun t30=>cond (!decide (t28 = t30)) (some (.inr (false,xs))) (some (.inl ()))) (aN 0 ((prs (cs k)).length : Int)) ()) fun r=>r = .inl ():=by
      refine vw (fun _=>True) trivial (fun x hx _ _=>?_) fun _ _=>rfl
      obtain ⟨i,hi,rfl⟩:=cu hx
      have hp : (prs (cs k))[i] ∈ prs (cs k):=List.getElem_mem hi
      obtain ⟨m1,m2,ne⟩:=rn h hp
      have aS : atI ((prs (cs k)).map (fun p=>k.1.map fun c=>swf k p.1 p.2 c.1)) (i : Int) = some (k.1.map fun c=>swf k (prs (cs k))[i].1 (prs (cs k))[i].2 c.1):=by
        rw [bA (by rw [List.length_map]; exact hi),List.getElem_map]
      rw [bA hi,Bss,Bss,nH h m1 m2 ne,Bss,aS,Bss,oO h,Bss,decide_eq_true rfl,Bool.not_true,cond_false]
      exact af ⟨(),rfl,trivial⟩
    obtain ⟨r,hr,e⟩:=W
    rw [hr,e]
  have eC : iD (k,k.1.map (fun b=>brs k s.1 (da s.1 rs) b.1),(prs (cs k)).map (fun p=>k.1.map fun c=>swf k p.1 p.2 c.1),aP k s.1 rs) = some (mW k s.1 (da s.1 rs,aP k s.1 rs)):=tY h
  have main : ∀ ys v,oT xs (da s.1 rs,aP k s.1 rs) (mW k s.1 (da s.1 rs,aP k s.1 rs)) = some (v,ys)→v = mW k s.1 (da s.1 rs,aP k s.1 rs)→nK (k,pl k,tb k,evS k s,rs) xs = some (true,ys):=by
    intro ys v e1 e2
    unfold nK
    dsimp only
    rw [xH h o g,Bss,wb h o.p g,Bss]
    show (js (k,k.1.map s.2,k.1.map (fg k s rs).2)).bind _ = _
    rw [on_S h,Bss,jb h,Bss,er,m9 h o.p pr',Bss,eS,Bss,eC,Bss,eD,decide_eq_true rfl,Bool.not_true,cond_false,mx h o.p pr',Bss,oO h,Bss,decide_eq_true rfl,Bool.not_true,Bss,cond_false]
    have er2 : cE ((prs (cs k)).length : Int) = some (aN 0 ((prs (cs k)).length : Int)):=by
      unfold cE
      rw [bD (by omega)]
      rfl
    rw [er2,Bss,eF,Bss]
    unfold orR
    dsimp only
    rw [e1,Bss,e2,decide_eq_true rfl]
  unfold oT at main
  rw [bD (by omega),Bss] at main
  cases hg : bS xs (da s.1 rs,aP k s.1 rs) with
  | some b=>
    rw [hg] at main
    refine ⟨xs,main xs b rfl ?_,kn,by omega⟩
    obtain ⟨e,he,e1,e2⟩:=oS hg
    rw [← e2,kn e he,e1]
  | none=>
    rw [hg] at main
    refine ⟨xs ++ [((da s.1 rs,aP k s.1 rs),mW k s.1 (da s.1 rs,aP k s.1 rs))],main _ _ rfl rfl,fun e he=>?_,by simp⟩
    rcases List.mem_append.mp he with he | he
    · exact kn e he
    · rw [List.mem_singleton.mp he]
end
end K13
end
section
namespace K13
open PySem L2 Kx Mx
section
variable {k : KT0} {s : SS}
theorem fV (h : Kit k) (h3 : k.1.length ≤ 3) {n : Nat} (hn : n ≤ 6) : Wp (tJ (k,(n : Int))) fun t=>t.length ≤ 2200∧∀ rs ∈ t,rs.length ≤ 6∧∀ x ∈ rs,x ∈ cs k:=by
  have p3 : ∀ i,i ≤ 6→3 ^ i ≤ 729:=fun i hi=>Nat.le_trans (Nat.pow_le_pow_right (by decide) hi) (by decide)
  unfold tJ
  dsimp only
  refine wp_bind (bY (P:=fun t=>t = aN 0 (n : Int)) (by omega) rfl) fun t1 e1=>?_
  subst e1
  refine wp_bind (bK (P:=fun st : List (List Str)×List (List Str)=>st.2.length ≤ 2200∧∀ rs ∈ st.2,rs.length ≤ 6∧∀ x ∈ rs,x ∈ cs k) (fun i st=>(st.1.length ≤ 3 ^ i∧∀ rs ∈ st.1,rs.length = i∧∀ x ∈ rs,x ∈ cs k)∧st.2.length ≤ 3 ^ (i + 1)∧∀ rs ∈ st.2,rs.length ≤ 6∧∀ x ∈ rs,x ∈ cs k) ?_ (fun i x st hx ⟨⟨a1,a2⟩,b1,b2⟩=>?_) fun st ⟨_,b1,b2⟩=>?_) fun fin hf=>af hf
  · refine ⟨⟨by simp,fun rs hr=>?_⟩,by simp,fun rs hr=>?_⟩
    · rw [List.mem_singleton.mp hr]; exact ⟨rfl,fun x hx=>nomatch hx⟩
    · rw [List.mem_singleton.mp hr]; exact ⟨by decide,fun x hx=>nomatch hx⟩
  · have hi : i < n:=(cf hx).1
    have p1:=p3 i (by omega)
    refine wp_bind (bK (P:=fun l : List (List Str)=>l.length ≤ 3 ^ (i + 1)∧∀ rs ∈ l,rs.length = i + 1∧∀ x ∈ rs,x ∈ cs k) (fun j l=>l.length ≤ j * 3∧∀ rs ∈ l,rs.length = i + 1∧∀ x ∈ rs,x ∈ cs k) ⟨by simp,fun rs hr=>nomatch hr⟩ (fun j y l hy ⟨c1,c2⟩=>?_) fun l ⟨c1,c2⟩=>⟨by rw [Nat.pow_succ]; omega,c2⟩) fun fin9 ⟨d1,d2⟩=>?_
    · have hj:=(List.getElem?_eq_some_iff.mp hy).1
      have hym:=List.mem_of_getElem? hy
      obtain ⟨y1,y2⟩:=a2 y hym
      refine wp_bind (bC (P:=fun t=>t = k.1.map fun b=>y ++ [b.1]) (fun b=>y ++ [b.1]) (by omega) (fun b _=>by
        unfold gH
        rw [bD (by rw [List.length_singleton]; omega)]
        rfl) rfl) fun t23 e23=>?_
      subst e23
      refine wp_bind (km (P:=fun t=>t = l ++ k.1.map fun b=>y ++ [b.1]) (by rw [List.length_map]; omega) rfl) fun t24 e24=>af ?_
      subst e24
      refine ⟨by rw [List.length_append,List.length_map]; omega,fun rs hr=>?_⟩
      rcases List.mem_append.mp hr with hr | hr
      · exact c2 rs hr
      · obtain ⟨b,hb,rfl⟩:=List.mem_map.mp hr
        refine ⟨by rw [List.length_append,List.length_singleton,y1],fun x hx=>?_⟩
        rcases List.mem_append.mp hx with hx | hx
        · exact y2 x hx
        · rw [List.mem_singleton.mp hx]; exact List.mem_map.mpr ⟨b,hb,rfl⟩
    · have p2:=p3 (i + 1) (by omega)
      refine wp_bind (km (P:=fun t=>t = st.2 ++ fin9) (by omega) rfl) fun t25 e25=>af ?_
      subst e25
      refine ⟨⟨d1,d2⟩,by rw [List.length_append,Nat.pow_succ 3 (i + 1)]; omega,fun rs hr=>?_⟩
      rcases List.mem_append.mp hr with hr | hr
      · exact b2 rs hr
      · exact ⟨by rw [(d2 rs hr).1]; omega,(d2 rs hr).2⟩
  · rw [av] at b1
    have : 3 ^ (n + 1) ≤ 3 ^ 7:=Nat.pow_le_pow_right (by decide) (by omega)
    exact ⟨Nat.le_trans b1 (Nat.le_trans this (by decide)),b2⟩
theorem gr {α S R : Type} {f : S→α→Option (S ⊕ R)} {P : S ⊕ R→Prop} (I : Nat→S→Prop) : ∀ {xs : List α} {s : S} (j : Nat),I j s→(∀ (i : Nat) (x : α) (s : S),x ∈ xs→j ≤ i→i < j + xs.length→I i s→Wp (f s x) fun r=>∃ s',r = .inl s'∧I (i + 1) s')→(∀ s,I (j + xs.length) s→P (.inl s))→Wp (forR f xs s) P
  | [],s,j,h0,_,hd=>af (hd s h0)
  | x :: xs,s,j,h0,hs,hd=>by
    obtain ⟨r,e,s',rfl,i'⟩:=hs j x s List.mem_cons_self (Nat.le_refl _) (by rw [List.length_cons]; omega) h0
    have:=gr (xs:=xs) (s:=s') (P:=P) I (j + 1) i' (fun i y s hy h1 h2 hi=>hs i y s (List.mem_cons_of_mem _ hy) (by omega) (by rw [List.length_cons]; omega) hi) fun s h=>hd s (by rw [List.length_cons]; rw [show j + (xs.length + 1) = j + 1 + xs.length by omega]; exact h)
    obtain ⟨q,eq,pq⟩:=this
    refine ⟨q,?_,pq⟩
    unfold forR
    rw [e]
    exact eq
theorem m8 (z : Sto) : Wp (ux () z) fun r=>r.1 = true:=by
  unfold ux
  refine wp_bind (mv z (u:=3) (m:=6) (by decide) (by decide) (by decide) (by decide)) fun t1 ⟨h,hu⟩=>?_
  obtain ⟨k,z0⟩:=t1
  dsimp only at h hu ⊢
  have l1:=h.l1
  have h3 : k.1.length ≤ 3:=by omega
  rw [jJ h,Bss,gX h,Bss]
  refine wp_bind (i5 h _) fun t4 ⟨s,o,e4⟩=>?_
  have fd3 : dL (k.1.length : Int) (3 : Int) = some ((k.1.length : Int) / 3):=by
    unfold dL
    rw [bD (.inl (show CDivN _ _ from ⟨by omega,by decide⟩)),Bss,fd (by decide)]
  rw [fd3,Bss]
  obtain ⟨n,en,hn⟩ : ∃ n : Nat,(6 : Int) - (k.1.length : Int) / 3 = (n : Int)∧n ≤ 6:=⟨((6 : Int) - (k.1.length : Int) / 3).toNat,by omega,by omega⟩
  rw [en]
  refine wp_bind (fV h h3 hn) fun t6 ⟨la,ha⟩=>?_
  rw [e4]
  refine wp_bind (P:=fun r : List (KF×List Int) ⊕ (Bool×Sto)=>∃ st,r = .inl st) (gr (fun i st=>Known k s.1 st∧st.length ≤ i) 0 ⟨fun e he=>(nomatch he),Nat.le_refl _⟩ (fun i rs st hr _ hi ⟨kn,hl⟩=>?_) fun st _=>⟨st,rfl⟩) fun fin7 ⟨st,e7⟩=>?_
  · obtain ⟨r1,r2⟩:=ha rs hr
    obtain ⟨ys,e1,k1,l1⟩:=wM h o (rs:=rs) ⟨by omega,r2⟩ kn (by omega)
    rw [e1,Bss,Bool.not_true,cond_false]
    exact af ⟨ys,rfl,k1,by omega⟩
  subst e7
  unfold orR
  dsimp only
  refine wp_bind (mv _ (u:=6) (m:=24) (by decide) (by decide) (by decide) (by decide)) fun t15 ⟨h2,hu2⟩=>?_
  obtain ⟨k2,z2⟩:=t15
  dsimp only at h2 hu2 ⊢
  have l1':=h2.l1
  have l2':=h2.l2
  rw [jJ h2,Bss,gX h2,Bss]
  refine wp_bind (i5 h2 _) fun t18 ⟨s2,o2,e18⟩=>?_
  rw [e18]
  refine wp_bind (bY (n:=30) (P:=fun t=>t = aN 0 ((30 : Nat) : Int)) (by decide) rfl) fun t19 e19=>?_
  subst e19
  refine wp_bind (P:=fun r : (List (KF×List Int)×Sto) ⊕ (Bool×Sto)=>∃ st,r = .inl st) (gr (fun i st=>Known k2 s2.1 st.1∧st.1.length ≤ i) 0 ⟨fun e he=>(nomatch he),Nat.le_refl _⟩ (fun i x st hx _ hi ⟨kn,hl⟩=>?_) fun st _=>⟨st,rfl⟩) fun fin20 ⟨st2,e20⟩=>?_
  · rw [av] at hi
    refine wp_bind (aW _ (by decide) (by decide)) fun t27 ⟨m,em,hm⟩=>?_
    rw [em]
    refine wp_bind (kr h2 (by omega) (by omega) _) fun t28 ⟨s1,s3⟩=>?_
    obtain ⟨ys,e1,k1,l1⟩:=wM h2 o2 (rs:=t28.1) ⟨by rw [s1]; omega,s3⟩ kn (by omega)
    rw [e1,Bss,Bool.not_true,cond_false]
    exact af ⟨(ys,t28.2),rfl,k1,by dsimp only; omega⟩
  subst e20
  exact af rfl
end
end K13
end
section
namespace K13
open PySem L2 Kx Mx
theorem rH (ns : List Int) (h : ns.length ≤ 63) : lC ns = some true:=by
  have W : Wp (lC ns) fun b=>b = true:=by
    unfold lC
    generalize hn : (if (if (3 : Int) < (ns.length : Int) then (3 : Int) else (ns.length : Int)) > (2 : Int) then (if (3 : Int) < (ns.length : Int) then (3 : Int) else (ns.length : Int)) else (2 : Int)) = n
    have b : 0 ≤ n∧n ≤ 63:=by
      rw [← hn]
      split <;> split <;> omega
    obtain ⟨k,rfl⟩ : ∃ k : Nat,n = (k : Int):=⟨n.toNat,by omega⟩
    refine wp_bind (bY (P:=fun t=>t = aN 0 (k : Int)) (by omega) rfl) fun t1 e1=>?_
    subst e1
    refine wp_bind (P:=fun t : List Bool=>t.all id = true) (c6 (fun _ y=>y = true) (by rw [av]; omega) (fun x hx=>?_) ?_) fun t10 h=>af h
    · obtain ⟨j,hj,rfl⟩:=cu hx
      exact wp_bind (mG ns j) fun t8 _=>wp_bind (m8 t8) fun t9 h=>af h
    · intro ys hl h
      rw [List.all_eq_true]
      intro y hy
      obtain ⟨i,hi⟩:=List.mem_iff_getElem?.mp hy
      have hil:=(List.getElem?_eq_some_iff.mp hi).1
      have:=h i _ y (List.getElem?_eq_getElem (by omega)) hi
      rw [this]; rfl
  obtain ⟨r,hr,e⟩:=W
  rw [hr,e]
end K13
end
section
namespace K13
open PySem L2 Kx
theorem vV [Tb] {K : Fg} {H : Hp} {a : Addr} {ns : List Int} (hl : ns.length ≤ 63) (hT : ∀ p ∈ Tb.t,H p.1 = some (.tbl #[])) (hS : SqL K H a (ns.map V.int)) : nw K [.ref a] H (fun v _=>v = .bl true) fun _ _ _=>False:=
 let ⟨G,ok,hG⟩:=qE hT hS
 ⟨G,fun _=>none,ns,true,ok,⟨.ref a,[],rfl,⟨a,rfl,hG⟩,rfl⟩,rH ns hl,fun v G' H' _ _ hv=>by (cases hv; rfl)⟩
theorem yT {l : PySem.W.OpenLaw} {w : World} {K : Fg} {h : Heap} {mg : Str→Option Value} {fa : Addr} (X : K.In h) (G : h.Ns mainGlobals mg) (hfa : mg "law" = some (.ref fa))
  {c_Peal : Addr}
  {f0 : Addr}
  {f1 : Addr}
  {f2 : Addr}
  {f3 : Addr}
  {f4 : Addr}
  {f5 : Addr}
  {f6 : Addr}
  {tt7 te7 : Addr} {dt7 : Option Addr} {st7 : Array (Option Value)} {cc7 : Value} {nt7 : Nat}
  {f7 : Addr} {od7 an7 : Option Addr} {sl7 : Array (Option Value)} {oc7 kV7 dc7 pm7 cd7 ct7 : Value}
  {f8 : Addr}
  {f9 : Addr}
  {f10 : Addr}
  {f11 : Addr}
  {f12 : Addr}
  {f13 : Addr}
  {f14 : Addr}
  {f15 : Addr}
  {f16 : Addr}
  {f17 : Addr}
  {f18 : Addr}
  {f19 : Addr}
  {f20 : Addr}
  {f21 : Addr}
  {f22 : Addr}
  {f23 : Addr}
  {f24 : Addr}
  {f25 : Addr}
  {f26 : Addr}
  {f27 : Addr}
  {f28 : Addr}
  {f29 : Addr}
  {f30 : Addr}
  {f31 : Addr}
  {f32 : Addr}
  {f33 : Addr}
  {f34 : Addr}
  {f35 : Addr}
  {f36 : Addr}
  {f37 : Addr}
  {f38 : Addr}
  {f39 : Addr}
  {f40 : Addr}
  {f41 : Addr}
  {f42 : Addr}
  {f43 : Addr}
  {f44 : Addr}
  {f45 : Addr}
  {f46 : Addr}
  {f47 : Addr}
  {f48 : Addr}
  {f49 : Addr} {od49 an49 : Option Addr} {sl49 : Array (Option Value)} {oc49 kV49 dc49 pm49 cd49 ct49 : Value}
  {tk0 : Tok}
  {tk1 : Tok}
  {tk2 : Tok}
  {tk3 : Tok}
  {tk4 : Tok}
  {tk5 : Tok}
  {tk6 : Tok}
  (gc_Peal : PySem.W.nsIn K mainGlobals "Peal" = some (some (.ref c_Peal)))
  (p1_Peal : PySem.W.plainGet K c_Peal Str.empty = true) (p2_Peal : PySem.W.hasDictIn K c_Peal = true) (p3_Peal : PySem.W.plainOver K c_Peal = true) (p4_Peal : PySem.W.findIn K (.ref c_Peal) "__setattr__" = some (some (.builtin "object.__setattr__"))) (p5_Peal : PySem.W.makesIn K c_Peal = true) (p6_Peal : PySem.W.keepIn K (.ref c_Peal) = true)
  (p7_Peal : PySem.W.findIn K (.ref c_Peal) "__class__" = some (some (.builtin "object.__class__"))) (p8_Peal : PySem.W.specialIn K (.builtin "object.__class__") "__get__" = some (some (.builtin "getset_descriptor.__get__"))) (p9_Peal : PySem.W.takesIn K (.builtin "object.__class__") = some true) (pa_Peal : PySem.W.mroIn K c_Peal (.type "object") = some true)
  (n_Peal_bells : PySem.W.findIn K (.ref c_Peal) "bells" = some none)
  (n_Peal_notches : PySem.W.findIn K (.ref c_Peal) "notches" = some none)
  (n_Peal_sizes : PySem.W.findIn K (.ref c_Peal) "sizes" = some none)
  (n_Peal_turning : PySem.W.findIn K (.ref c_Peal) "turning" = some none)
  (l0 : FnG K f0 "is_whole" lB)
  (l1 : FnG K f1 "is_within" lj)
  (l2 : FnG K f2 "is_name" jI)
  (l3 : FnG K f3 "is_bell" lV)
  (l4 : FnG K f4 "check_bells" si)
  (l5 : FnG K f5 "is_notch" jh)
  (l6 : FnG K f6 "check_notches" sI)
  (a7 : PySem.W.findIn K (.ref c_Peal) "__init__" = some (some (.ref f7))) (i7 : PySem.W.isFn K (.ref f7) = true) (l7 : K.lookup f7 = some ⟨oc7,od7,.func (PySem.W.fnOf "__init__" "Peal.__init__" (defArgs fD) (defBody fD) (defScope fD) (.ref tt7) kV7 dc7 pm7 an7 cd7 ct7),sl7⟩) (c7 : PySem.W.codeIn K cd7 "Peal.__init__" = true) (k7 : PySem.W.keepIn K (.ref f7) = true)
  (t7 : K.lookup tt7 = some ⟨cc7,dt7,.seq #[.ref te7] nt7,st7⟩)
  (l8 : FnG K f8 "check_peal" tL)
  (l9 : FnG K f9 "check_name" ug)
  (l10 : FnG K f10 "check_two" mq)
  (l11 : MeG K c_Peal f11 "names" "Peal.names" pG)
  (l12 : MeG K c_Peal f12 "notch" "Peal.notch" se)
  (l13 : FnG K f13 "fits_row" jt)
  (l14 : FnG K f14 "fits_dials" pD)
  (l15 : FnG K f15 "fits_standing" rF)
  (l16 : FnG K f16 "check_standing" rL)
  (l17 : FnG K f17 "check_row" lA)
  (l18 : FnG K f18 "check_rings" sL)
  (l19 : FnG K f19 "row_behind" uk)
  (l20 : FnG K f20 "rung_of" mL)
  (l21 : FnG K f21 "gone_of" me)
  (l22 : FnG K f22 "gone" hU)
  (l23 : FnG K f23 "flips" gZ)
  (l24 : FnG K f24 "ahead_in" jx)
  (l25 : FnG K f25 "dials_of" jn)
  (l26 : FnG K f26 "bridge_of" ly)
  (l27 : FnG K f27 "swing_of" lJ)
  (l28 : FnG K f28 "bridge" kZ)
  (l29 : FnG K f29 "swing" lQ)
  (l30 : FnG K f30 "_law_opened" qC)
  (l31 : FnG K f31 "_law_pull" lS)
  (l32 : FnG K f32 "_law_spelt" rD)
  (l33 : FnG K f33 "_law_calls" mT)
  (l34 : FnG K f34 "_law_figure" tO)
  (l35 : FnG K f35 "_law_kit" iC)
  (l36 : FnG K f36 "_law_table" pY)
  (l37 : FnG K f37 "_law_line" jr)
  (l38 : FnG K f38 "_law_stand" pW)
  (l39 : FnG K f39 "_law_strokes" pL)
  (l40 : FnG K f40 "_law_twos" iM)
  (l41 : FnG K f41 "_law_all_strokes" pw)
  (l42 : FnG K f42 "_law_on" jo)
  (l43 : FnG K f43 "_law_bridge" oi)
  (l44 : FnG K f44 "_law_swing" ni)
  (l45 : FnG K f45 "_law_came" hW)
  (l46 : FnG K f46 "_law_rests" qi)
  (l47 : FnG K f47 "_law_one_right" pA)
  (l48 : FnG K f48 "_law_right" uc)
  (a49 : PySem.W.nsIn K mainGlobals "law" = some (some (.ref f49))) (l49 : K.lookup f49 = some ⟨oc49,od49,.func (PySem.W.fnOf "law" "law" (defArgs c0) (defBody c0) (defScope c0) .none kV49 dc49 pm49 an49 cd49 ct49),sl49⟩) (c49 : PySem.W.codeIn K cd49 "law" = true) (k49 : PySem.W.keepIn K (.ref f49) = true)
  (z0 : PySem.W.nsIn K mainGlobals "int" = some none)
  (z1 : PySem.W.nsIn K mainGlobals "isinstance" = some none)
  (z2 : PySem.W.nsIn K mainGlobals "bool" = some none)
  (z3 : PySem.W.nsIn K mainGlobals "str" = some none)
  (z4 : PySem.W.nsIn K mainGlobals "len" = some none)
  (z5 : PySem.W.nsIn K mainGlobals "all" = some none)
  (z6 : PySem.W.nsIn K mainGlobals "tuple" = some none)
  (z7 : PySem.W.nsIn K mainGlobals "enumerate" = some none)
  (z8 : PySem.W.nsIn K mainGlobals "dict" = some none)
  (z9 : PySem.W.nsIn K mainGlobals "sorted" = some none)
  (z10 : PySem.W.nsIn K mainGlobals "zip" = some none)
  (z11 : PySem.W.nsIn K mainGlobals "min" = some none)
  (z12 : PySem.W.nsIn K mainGlobals "max" = some none)
  (z13 : PySem.W.nsIn K mainGlobals "abs" = some none)
  (z14 : PySem.W.nsIn K mainGlobals "divmod" = some none)
  (z15 : PySem.W.nsIn K mainGlobals "range" = some none)
  (z16 : PySem.W.nsIn K mainGlobals "list" = some none)
  (q0 : PySem.W.nsIn K mainGlobals "MOST_LETTERS" = some (some (.int 6 tk0)))
  (q1 : PySem.W.nsIn K mainGlobals "LETTERS" = some (some (.str "abcdefghijklmnopqrstuvwxyz" tk1)))
  (q2 : PySem.W.nsIn K mainGlobals "LEAST_MARKS" = some (some (.int 2 tk2)))
  (q3 : PySem.W.nsIn K mainGlobals "MOST_MARKS" = some (some (.int 24 tk3)))
  (q4 : PySem.W.nsIn K mainGlobals "MOST_BELLS" = some (some (.int 8 tk4)))
  (q5 : PySem.W.nsIn K mainGlobals "MOST_NUMBER" = some (some (.int 99 tk5)))
  (q6 : PySem.W.nsIn K mainGlobals "MOST_RINGS" = some (some (.int 400 tk6)))
  : nF l w K 9 63 "_law_script" mg fa h:=by
 have ec_Peal:=rB gc_Peal
 subst ec_Peal
 obtain ⟨a0,d0,F0⟩:=l0
 obtain ⟨a1,d1,F1⟩:=l1
 obtain ⟨a2,d2,F2⟩:=l2
 obtain ⟨a3,d3,F3⟩:=l3
 obtain ⟨a4,d4,F4⟩:=l4
 obtain ⟨a5,d5,F5⟩:=l5
 obtain ⟨a6,d6,F6⟩:=l6
 obtain ⟨a8,d8,F8⟩:=l8
 obtain ⟨a9,d9,F9⟩:=l9
 obtain ⟨a10,d10,F10⟩:=l10
 obtain ⟨a11,i11,k11,d11,F11⟩:=l11
 obtain ⟨a12,i12,k12,d12,F12⟩:=l12
 obtain ⟨a13,d13,F13⟩:=l13
 obtain ⟨a14,d14,F14⟩:=l14
 obtain ⟨a15,d15,F15⟩:=l15
 obtain ⟨a16,d16,F16⟩:=l16
 obtain ⟨a17,d17,F17⟩:=l17
 obtain ⟨a18,d18,F18⟩:=l18
 obtain ⟨a19,d19,F19⟩:=l19
 obtain ⟨a20,d20,F20⟩:=l20
 obtain ⟨a21,d21,F21⟩:=l21
 obtain ⟨a22,d22,F22⟩:=l22
 obtain ⟨a23,d23,F23⟩:=l23
 obtain ⟨a24,d24,F24⟩:=l24
 obtain ⟨a25,d25,F25⟩:=l25
 obtain ⟨a26,d26,F26⟩:=l26
 obtain ⟨a27,d27,F27⟩:=l27
 obtain ⟨a28,d28,F28⟩:=l28
 obtain ⟨a29,d29,F29⟩:=l29
 obtain ⟨a30,d30,F30⟩:=l30
 obtain ⟨a31,d31,F31⟩:=l31
 obtain ⟨a32,d32,F32⟩:=l32
 obtain ⟨a33,d33,F33⟩:=l33
 obtain ⟨a34,d34,F34⟩:=l34
 obtain ⟨a35,d35,F35⟩:=l35
 obtain ⟨a36,d36,F36⟩:=l36
 obtain ⟨a37,d37,F37⟩:=l37
 obtain ⟨a38,d38,F38⟩:=l38
 obtain ⟨a39,d39,F39⟩:=l39
 obtain ⟨a40,d40,F40⟩:=l40
 obtain ⟨a41,d41,F41⟩:=l41
 obtain ⟨a42,d42,F42⟩:=l42
 obtain ⟨a43,d43,F43⟩:=l43
 obtain ⟨a44,d44,F44⟩:=l44
 obtain ⟨a45,d45,F45⟩:=l45
 obtain ⟨a46,d46,F46⟩:=l46
 obtain ⟨a47,d47,F47⟩:=l47
 obtain ⟨a48,d48,F48⟩:=l48
 have e:=hfa.symm.trans (PySem.W.mg_of X G a49)
 cases e
 have F7:=vX (st:=fD) l7 t7 c7 k7
 have F49:=fun_mk (st:=c0) l49 c49 k49
 let T : Txt K mg:={
  w_Y1h:=⟨f0,_,F0,bn1 F0,PySem.W.mg_of X G a0⟩,
  w_Y19:=⟨f1,_,F1,bn3 F1,PySem.W.mg_of X G a1⟩,
  w_Y1o:=⟨f2,_,F2,bn1 F2,PySem.W.mg_of X G a2⟩,
  w_Y1n:=⟨f3,_,F3,bn1 F3,PySem.W.mg_of X G a3⟩,
  w_Yk:=⟨f4,_,F4,bn1 F4,PySem.W.mg_of X G a4⟩,
  w_Y1g:=⟨f5,_,F5,bn2 F5,PySem.W.mg_of X G a5⟩,
  w_Ya:=⟨f6,_,F6,bn2 F6,PySem.W.mg_of X G a6⟩,
  a_Y8:=f7,
  d_Y8:=_,
  e_Y8:=_,
  F_Y8:=F7,
  b_Y8:=F7.binds3 (ps:=["self","bells","notches"]) (fun _ _ _ _ _ _ _ us its hl hi=>match us,its,hl,hi with | [_,_,_],[_],_,_=>⟨_,rfl,rfl⟩),
  mk_Peal:=⟨p5_Peal,a7,i7,p6_Peal⟩,
  w_Yx:=⟨f8,_,F8,bn1 F8,PySem.W.mg_of X G a8⟩,
  w_Yw:=⟨f9,_,F9,bn2 F9,PySem.W.mg_of X G a9⟩,
  w_Y18:=⟨f10,_,F10,bn3 F10,PySem.W.mg_of X G a10⟩,
  w_Yn:=⟨f11,_,F11,bn1 F11,⟨a11,i11,k11⟩⟩,
  w_Yo:=⟨f12,_,F12,bn3 F12,⟨a12,i12,k12⟩⟩,
  w_Y1f:=⟨f13,_,F13,bn2 F13,PySem.W.mg_of X G a13⟩,
  w_Yy:=⟨f14,_,F14,bn2 F14,PySem.W.mg_of X G a14⟩,
  w_Yb:=⟨f15,_,F15,bn2 F15,PySem.W.mg_of X G a15⟩,
  w_Y7:=⟨f16,_,F16,bn2 F16,PySem.W.mg_of X G a16⟩,
  w_Y17:=⟨f17,_,F17,bn2 F17,PySem.W.mg_of X G a17⟩,
  w_Yl:=⟨f18,_,F18,bn2 F18,PySem.W.mg_of X G a18⟩,
  w_Yz:=⟨f19,_,F19,bn2 F19,PySem.W.mg_of X G a19⟩,
  w_Y1p:=⟨f20,_,F20,bn3 F20,PySem.W.mg_of X G a20⟩,
  w_Y1m:=⟨f21,_,F21,bn3 F21,PySem.W.mg_of X G a21⟩,
  w_gone:=⟨f22,_,F22,bn3 F22,PySem.W.mg_of X G a22⟩,
  w_Y1u:=⟨f23,_,F23,bn3 F23,PySem.W.mg_of X G a23⟩,
  w_Y1d:=⟨f24,_,F24,bn1 F24,PySem.W.mg_of X G a24⟩,
  w_Y1e:=⟨f25,_,F25,bn2 F25,PySem.W.mg_of X G a25⟩,
  w_Y16:=⟨f26,_,F26,bn3 F26,PySem.W.mg_of X G a26⟩,
  w_Y1i:=⟨f27,_,F27,bn3 F27,PySem.W.mg_of X G a27⟩,
  w_Y1s:=⟨f28,_,F28,bn3 F28,PySem.W.mg_of X G a28⟩,
  w_Y1y:=⟨f29,_,F29,bn3 F29,PySem.W.mg_of X G a29⟩,
  w_Yj:=⟨f30,_,F30,bn2 F30,PySem.W.mg_of X G a30⟩,
  w_Y14:=⟨f31,_,F31,bn2 F31,PySem.W.mg_of X G a31⟩,
  w_Ys:=⟨f32,_,F32,bn2 F32,PySem.W.mg_of X G a32⟩,
  w_Yp:=⟨f33,_,F33,bn2 F33,PySem.W.mg_of X G a33⟩,
  w_Yi:=⟨f34,_,F34,bn3 F34,PySem.W.mg_of X G a34⟩,
  w_Y1c:=⟨f35,_,F35,bn3 F35,PySem.W.mg_of X G a35⟩,
  w_Yv:=⟨f36,_,F36,bn1 F36,PySem.W.mg_of X G a36⟩,
  w_Y13:=⟨f37,_,F37,bn2 F37,PySem.W.mg_of X G a37⟩,
  w_Yt:=⟨f38,_,F38,bn2 F38,PySem.W.mg_of X G a38⟩,
  w_Yf:=⟨f39,_,F39,bn3 F39,PySem.W.mg_of X G a39⟩,
  w_Y15:=⟨f40,_,F40,bn1 F40,PySem.W.mg_of X G a40⟩,
  w_Y4:=⟨f41,_,F41,bn2 F41,PySem.W.mg_of X G a41⟩,
  w_Y1l:=⟨f42,_,F42,bn3 F42,PySem.W.mg_of X G a42⟩,
  w_Yh:=⟨f43,_,F43,bn4 F43,PySem.W.mg_of X G a43⟩,
  w_Yu:=⟨f44,_,F44,bn3 F44,PySem.W.mg_of X G a44⟩,
  w_Y12:=⟨f45,_,F45,bn4 F45,PySem.W.mg_of X G a45⟩,
  w_Yq:=⟨f46,_,F46,bn2 F46,PySem.W.mg_of X G a46⟩,
  w_Y6:=⟨f47,_,F47,bn6 F47,PySem.W.mg_of X G a47⟩,
  w_Yr:=⟨f48,_,F48,bn1 F48,PySem.W.mg_of X G a48⟩,
  a_law:=fa,
  d_law:=_,
  F_law:=F49,
  b_law:=F49.binds (ps:=["_law_script"]) fun _ _ _ _ _ _ us hl=>match us,hl with | [_],_=>rfl,
  g_law:=PySem.W.mg_of X G a49,
  cl_Peal:=⟨p1_Peal,p2_Peal,p3_Peal,p4_Peal⟩,
  co_Peal:=⟨⟨p1_Peal,p2_Peal,p3_Peal,p4_Peal⟩,p7_Peal,p8_Peal,p9_Peal,pa_Peal⟩,
  ki_Peal:=qI,
  mg_Peal:=PySem.W.mg_of X G gc_Peal,
  na_Peal_bells:=n_Peal_bells,
  na_Peal_notches:=n_Peal_notches,
  na_Peal_sizes:=n_Peal_sizes,
  na_Peal_turning:=n_Peal_turning,
  n_int:=PySem.W.mg_none_of X G z0,
  n_isinstance:=PySem.W.mg_none_of X G z1,
  n_bool:=PySem.W.mg_none_of X G z2,
  n_str:=PySem.W.mg_none_of X G z3,
  n_len:=PySem.W.mg_none_of X G z4,
  n_all:=PySem.W.mg_none_of X G z5,
  n_tuple:=PySem.W.mg_none_of X G z6,
  n_enumerate:=PySem.W.mg_none_of X G z7,
  n_dict:=PySem.W.mg_none_of X G z8,
  n_sorted:=PySem.W.mg_none_of X G z9,
  n_zip:=PySem.W.mg_none_of X G z10,
  n_min:=PySem.W.mg_none_of X G z11,
  n_max:=PySem.W.mg_none_of X G z12,
  n_abs:=PySem.W.mg_none_of X G z13,
  n_divmod:=PySem.W.mg_none_of X G z14,
  n_range:=PySem.W.mg_none_of X G z15,
  n_list:=PySem.W.mg_none_of X G z16,
  t_MOST_LETTERS:=_,
  c_MOST_LETTERS:=PySem.W.mg_of X G q0,
  t_LETTERS:=_,
  c_LETTERS:=PySem.W.mg_of X G q1,
  t_LEAST_MARKS:=_,
  c_LEAST_MARKS:=PySem.W.mg_of X G q2,
  t_MOST_MARKS:=_,
  c_MOST_MARKS:=PySem.W.mg_of X G q3,
  t_MOST_BELLS:=_,
  c_MOST_BELLS:=PySem.W.mg_of X G q4,
  t_MOST_NUMBER:=_,
  c_MOST_NUMBER:=PySem.W.mg_of X G q5,
  t_MOST_RINGS:=_,
  c_MOST_RINGS:=PySem.W.mg_of X G q6 }
 letI tb : Tb:=⟨[]⟩
 refine ⟨T.d_law,[],nw K,(fun _ h=>nomatch h),(fun _ h=>nomatch h),(fun _ h=>nomatch h),fun s v=>.of_eq rfl,fun H a ns hl hT hS=>vV hl (fun _ h=>nomatch h) hS,fun base kb nb TB=>?_⟩
 have O_Y1h:=yw (P:=l.prog) (w:=w) (base:=base) T
 have O_Y19:=yq (P:=l.prog) (w:=w) (base:=base) T O_Y1h
 have O_Y1o:=xG (P:=l.prog) (w:=w) (base:=base) T
 have O_Y1n:=yB (P:=l.prog) (w:=w) (base:=base) T O_Y1o O_Y19
 have O_Yk:=Ab (P:=l.prog) (w:=w) (base:=base) T O_Y1n
 have O_Y1g:=xu (P:=l.prog) (w:=w) (base:=base) T O_Y1o O_Y19
 have O_Ya:=Bz (P:=l.prog) (w:=w) (base:=base) T O_Y1g
 have O_Y8:=AW (P:=l.prog) (w:=w) (base:=base) T O_Yk O_Ya
 have O_Yx:=AQ (P:=l.prog) (w:=w) (base:=base) T
 have O_Yw:=BR (P:=l.prog) (w:=w) (base:=base) T O_Y1o
 have O_Y18:=yD (P:=l.prog) (w:=w) (base:=base) T O_Yw
 have O_Yn:=zJ (P:=l.prog) (w:=w) (base:=base) T
 have O_Yo:=Aw (P:=l.prog) (w:=w) (base:=base) T O_Yw
 have O_Y1f:=yb (P:=l.prog) (w:=w) (base:=base) T O_Y1o O_Yn
 have O_Yy:=BF (P:=l.prog) (w:=w) (base:=base) T O_Y19
 have O_Yb:=AO (P:=l.prog) (w:=w) (base:=base) T O_Y1f O_Yy
 have O_Y7:=yZ (P:=l.prog) (w:=w) (base:=base) T O_Yb
 have O_Y17:=yh (P:=l.prog) (w:=w) (base:=base) T O_Y1f
 have O_Yl:=AM (P:=l.prog) (w:=w) (base:=base) T O_Y1o
 have O_Yz:=Cd (P:=l.prog) (w:=w) (base:=base) T
 have O_Y1p:=xP (P:=l.prog) (w:=w) (base:=base) T O_Yz O_Yo
 have O_Y1m:=xX (P:=l.prog) (w:=w) (base:=base) T O_Y1p
 have O_gone:=vZ (P:=l.prog) (w:=w) (base:=base) T O_Yx O_Y7 O_Yl O_Y1m
 have O_Y1u:=xm (P:=l.prog) (w:=w) (base:=base) T O_Yx O_Y17 O_Yl O_Yn O_Yz
 have O_Y1d:=xo (P:=l.prog) (w:=w) (base:=base) T
 have O_Y1e:=yS (P:=l.prog) (w:=w) (base:=base) T
 have O_Y16:=yQ (P:=l.prog) (w:=w) (base:=base) T O_Y1d O_Yo O_Y1e
 have O_Y1i:=yj (P:=l.prog) (w:=w) (base:=base) T O_Y1e O_Yo
 have O_Y1s:=yF (P:=l.prog) (w:=w) (base:=base) T O_Yx O_Y17 O_Y16
 have O_Y1y:=yK (P:=l.prog) (w:=w) (base:=base) T O_Yx O_Y18 O_Y1i
 have O_Yj:=yY (P:=l.prog) (w:=w) (base:=base) T
 have O_Y14:=yz (P:=l.prog) (w:=w) (base:=base) T
 have O_Ys:=Ac (P:=l.prog) (w:=w) (base:=base) T
 have O_Yp:=An (P:=l.prog) (w:=w) (base:=base) T O_Y14 O_Ys
 have O_Yi:=AE (P:=l.prog) (w:=w) (base:=base) T O_Y14
 have O_Y1c:=xB (P:=l.prog) (w:=w) (base:=base) T O_Yp O_Y14 O_Yi
 have O_Yv:=Au (P:=l.prog) (w:=w) (base:=base) T
 have O_Y13:=xO (P:=l.prog) (w:=w) (base:=base) T O_Y14
 have O_Yt:=Bp (P:=l.prog) (w:=w) (base:=base) T O_Y13 O_Y14
 have O_Yf:=AJ (P:=l.prog) (w:=w) (base:=base) T O_Y14
 have O_Y15:=yg (P:=l.prog) (w:=w) (base:=base) T
 have O_Y4:=AN (P:=l.prog) (w:=w) (base:=base) T
 have O_Y1l:=yI (P:=l.prog) (w:=w) (base:=base) T
 have O_Yh:=y4 (P:=l.prog) (w:=w) (base:=base) T
 have O_Yu:=AI (P:=l.prog) (w:=w) (base:=base) T
 have O_Y12:=yd (P:=l.prog) (w:=w) (base:=base) T
 have O_Yq:=Cy (P:=l.prog) (w:=w) (base:=base) T
 have O_Y6:=Aj (P:=l.prog) (w:=w) (base:=base) T O_gone O_Y1u O_Y1l O_Y15 O_Yh O_Yu O_Y12 O_Y1s O_Yq O_Y1y
 have O_Yr:=Bc (P:=l.prog) (w:=w) (base:=base) T O_Y1c O_Y8 O_Yv O_Yt O_Y4 O_Y6 O_Yf O_Y14
 have O_law:=yN (P:=l.prog) (w:=w) (base:=base) T O_Yr O_Yj
 exact fnG O_law
open H13
theorem gathered {l : PySem.W.OpenLaw} {w : World} {K : Fg} {h : Heap} {mg : Str→Option Value} {fa : Addr} (X : K.In h) (G : h.Ns mainGlobals mg) (hfa : mg "law" = some (.ref fa)) (c : He.SaysX [] hfn hts htf (fxOk hxs) w h K) : nF l w K 9 63 "_law_script" mg fa h:=by
 have D : hfn.map (fun d=>He.fnW K d.at_) = hfn.map He.DefD.val:=congrArg (fun z : He.AlD=>z.2) c.t.d
 have U : ∀ (i j : Nat) (l : List FX) (f : FX),hxs[i]? = some l→l[j]? = some f→f K = true:=fun i j l f e e2=>zT c.more i j e e2
 obtain ⟨oc7,od7,sl7,kV7,dc7,pm7,an7,cd7,ct7,tt7,te7,cc7,dt7,nt7,st7,g_l7,g_c7,g_t7,ge7⟩:=rb (p:=("Peal",some "__init__")) (q:="Peal.__init__") (nm:="__init__") (qn:="Peal.__init__") (ar:=defArgs fD) (bd:=defBody fD) (sc:=defScope fD) (aB D 7 (d:=hd7) rfl) (U 0 7 hx0 fx7 rfl rfl)
 subst ge7
 obtain ⟨oc49,od49,sl49,kV49,dc49,pm49,an49,cd49,ct49,g_l49,g_c49⟩:=kF (p:=("law",none)) (q:="law") (nm:="law") (qn:="law") (ar:=defArgs c0) (bd:=defBody c0) (sc:=defScope c0) (aB D 49 (d:=Ay) rfl) (U 2 9 hx2 B0 rfl rfl)
 obtain ⟨_,g_q0⟩:=eK (U 4 7 hx4 AY rfl rfl)
 obtain ⟨_,g_q1⟩:=vM (U 4 8 hx4 Bu rfl rfl)
 obtain ⟨_,g_q2⟩:=eK (U 4 9 hx4 AA rfl rfl)
 obtain ⟨_,g_q3⟩:=eK (U 4 10 hx4 A1 rfl rfl)
 obtain ⟨_,g_q4⟩:=eK (U 4 11 hx4 Bh rfl rfl)
 obtain ⟨_,g_q5⟩:=eK (U 4 12 hx4 Cu rfl rfl)
 obtain ⟨_,g_q6⟩:=eK (U 4 13 hx4 CA rfl rfl)
 exact yT X G hfa (He.eqO_ok (U 2 10 hx2 AS rfl rfl)) (U 2 11 hx2 A6 rfl rfl) (U 2 12 hx2 Ai rfl rfl) (U 2 13 hx2 BD rfl rfl) (He.eqO_ok (U 2 14 hx2 Cg rfl rfl)) (U 2 15 hx2 zZ rfl rfl) (U 2 16 hx2 Cs rfl rfl) (He.eqO_ok (U 2 17 hx2 AX rfl rfl)) (He.eqO_ok (U 2 18 hx2 BU rfl rfl)) (of_decide_eq_true (U 2 19 hx2 AK rfl rfl)) (of_decide_eq_true (U 3 0 hx3 Ct rfl rfl)) (He.eqO_ok (U 3 1 hx3 AU rfl rfl)) (He.eqO_ok (U 3 2 hx3 By rfl rfl)) (He.eqO_ok (U 3 3 hx3 y5 rfl rfl)) (He.eqO_ok (U 3 4 hx3 BG rfl rfl)) (aD (aB D 0 (d:=hd0) rfl) (U 0 0 hx0 fx0 rfl rfl)) (aD (aB D 1 (d:=hd1) rfl) (U 0 1 hx0 fx1 rfl rfl)) (aD (aB D 2 (d:=hd2) rfl) (U 0 2 hx0 fx2 rfl rfl)) (aD (aB D 3 (d:=hd3) rfl) (U 0 3 hx0 fx3 rfl rfl)) (aD (aB D 4 (d:=hd4) rfl) (U 0 4 hx0 fx4 rfl rfl)) (aD (aB D 5 (d:=hd5) rfl) (U 0 5 hx0 fx5 rfl rfl)) (aD (aB D 6 (d:=hd6) rfl) (U 0 6 hx0 fx6 rfl rfl)) (He.eqO_ok (U 3 5 hx3 Cz rfl rfl)) (U 3 6 hx3 BP rfl rfl) g_l7 g_c7 (U 3 7 hx3 AC rfl rfl) g_t7 (aD (aB D 8 (d:=hd8) rfl) (U 0 8 hx0 fx8 rfl rfl)) (aD (aB D 9 (d:=hd9) rfl) (U 0 9 hx0 fx9 rfl rfl)) (aD (aB D 10 (d:=Bf) rfl) (U 0 10 hx0 zn rfl rfl)) (tI (aB D 11 (d:=zx) rfl) (U 0 11 hx0 Bk rfl rfl)) (tI (aB D 12 (d:=B7) rfl) (U 0 12 hx0 BK rfl rfl)) (aD (aB D 13 (d:=zY) rfl) (U 0 13 hx0 AG rfl rfl)) (aD (aB D 14 (d:=Av) rfl) (U 0 14 hx0 Ax rfl rfl)) (aD (aB D 15 (d:=zK) rfl) (U 0 15 hx0 BN rfl rfl)) (aD (aB D 16 (d:=A2) rfl) (U 0 16 hx0 Br rfl rfl)) (aD (aB D 17 (d:=BS) rfl) (U 0 17 hx0 zF rfl rfl)) (aD (aB D 18 (d:=zD) rfl) (U 0 18 hx0 zv rfl rfl)) (aD (aB D 19 (d:=A0) rfl) (U 0 19 hx0 AT rfl rfl)) (aD (aB D 20 (d:=BL) rfl) (U 1 0 hx1 BV rfl rfl)) (aD (aB D 21 (d:=zE) rfl) (U 1 1 hx1 Ak rfl rfl)) (aD (aB D 22 (d:=CB) rfl) (U 1 2 hx1 zP rfl rfl)) (aD (aB D 23 (d:=A8) rfl) (U 1 3 hx1 BA rfl rfl)) (aD (aB D 24 (d:=A3) rfl) (U 1 4 hx1 B2 rfl rfl)) (aD (aB D 25 (d:=BY) rfl) (U 1 5 hx1 Cq rfl rfl)) (aD (aB D 26 (d:=Bn) rfl) (U 1 6 hx1 zI rfl rfl)) (aD (aB D 27 (d:=Ah) rfl) (U 1 7 hx1 zm rfl rfl)) (aD (aB D 28 (d:=zg) rfl) (U 1 8 hx1 y3 rfl rfl)) (aD (aB D 29 (d:=zL) rfl) (U 1 9 hx1 zb rfl rfl)) (aD (aB D 30 (d:=zq) rfl) (U 1 10 hx1 CD rfl rfl)) (aD (aB D 31 (d:=Bx) rfl) (U 1 11 hx1 Aq rfl rfl)) (aD (aB D 32 (d:=Ci) rfl) (U 1 12 hx1 zO rfl rfl)) (aD (aB D 33 (d:=zC) rfl) (U 1 13 hx1 AL rfl rfl)) (aD (aB D 34 (d:=Ao) rfl) (U 1 14 hx1 zB rfl rfl)) (aD (aB D 35 (d:=BH) rfl) (U 1 15 hx1 zh rfl rfl)) (aD (aB D 36 (d:=zQ) rfl) (U 1 16 hx1 zA rfl rfl)) (aD (aB D 37 (d:=zG) rfl) (U 1 17 hx1 za rfl rfl)) (aD (aB D 38 (d:=BC) rfl) (U 1 18 hx1 ze rfl rfl)) (aD (aB D 39 (d:=Bj) rfl) (U 1 19 hx1 zt rfl rfl)) (aD (aB D 40 (d:=zy) rfl) (U 2 0 hx2 Cc rfl rfl)) (aD (aB D 41 (d:=zr) rfl) (U 2 1 hx2 CC rfl rfl)) (aD (aB D 42 (d:=Ae) rfl) (U 2 2 hx2 Ca rfl rfl)) (aD (aB D 43 (d:=B4) rfl) (U 2 3 hx2 zi rfl rfl)) (aD (aB D 44 (d:=Ce) rfl) (U 2 4 hx2 zM rfl rfl)) (aD (aB D 45 (d:=BE) rfl) (U 2 5 hx2 AH rfl rfl)) (aD (aB D 46 (d:=AV) rfl) (U 2 6 hx2 zl rfl rfl)) (aD (aB D 47 (d:=BI) rfl) (U 2 7 hx2 A4 rfl rfl)) (aD (aB D 48 (d:=yW) rfl) (U 2 8 hx2 AD rfl rfl)) (He.eqO_ok (U 3 8 hx3 zk rfl rfl)) g_l49 g_c49 (U 3 9 hx3 B3 rfl rfl) (He.eqO_ok (U 3 10 hx3 Ag rfl rfl)) (He.eqO_ok (U 3 11 hx3 Bv rfl rfl)) (He.eqO_ok (U 3 12 hx3 Be rfl rfl)) (He.eqO_ok (U 3 13 hx3 CF rfl rfl)) (He.eqO_ok (U 3 14 hx3 zj rfl rfl)) (He.eqO_ok (U 3 15 hx3 Bw rfl rfl)) (He.eqO_ok (U 3 16 hx3 Bl rfl rfl)) (He.eqO_ok (U 3 17 hx3 BW rfl rfl)) (He.eqO_ok (U 3 18 hx3 A7 rfl rfl)) (He.eqO_ok (U 3 19 hx3 Cj rfl rfl)) (He.eqO_ok (U 4 0 hx4 AZ rfl rfl)) (He.eqO_ok (U 4 1 hx4 BZ rfl rfl)) (He.eqO_ok (U 4 2 hx4 Az rfl rfl)) (He.eqO_ok (U 4 3 hx4 BB rfl rfl)) (He.eqO_ok (U 4 4 hx4 Ar rfl rfl)) (He.eqO_ok (U 4 5 hx4 B9 rfl rfl)) (He.eqO_ok (U 4 6 hx4 BO rfl rfl)) g_q0 g_q1 g_q2 g_q3 g_q4 g_q5 g_q6
end K13
open PySem PySem.W PyProof.Rows
set_option maxHeartbeats 0 in
theorem PySem.Challenge.cw_sincerung_k13_whole_histories_of_small_p_holds : PySem.Challenge.rw_sincerung_k13_whole_histories_of_small_p.Holds := by
 w_on; o_law
 refine HandSHeadRun.head_any (r:=H13.hR) (q:=H13.hqv) (H:=H13.hhk) (ob:=H13.hob) (M:=30000) (loose:=H13.hnames) (kwd:=[]) H13.hob_eq H13.hopen (fun s=>by kernel_rfl) H13.hrun (by rfl) (by rfl) (by rfl) (by rfl) H13.hwell H13.hok1 H13.hbare ?hw ?hc
 case hw=>w_witness2
 case hc=>exact Kx.walk_ofTX (l:=PySem.Challenge.rw_sincerung_k13_whole_histories_of_small_p) (n:=63) (k:=9) (x:="_law_script") rfl (by decide) rfl ⟨rfl,by decide,by decide⟩ fun w mg fa h Y G hmg=>let ⟨K,KX,c⟩:=Y; ⟨K,KX,K13.gathered KX G hmg c⟩
end
