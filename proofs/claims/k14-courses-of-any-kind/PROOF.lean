import PyProof.Rows.All
import HandS.Text
import Wide.All
import OpenK.AllK
import Wide.FinOn
import HandS.ForMost
import HandS.Walk
import HandS.Zip
import HandS.IsInst
import HandS.Deep
import HandS.Style
import HandS.WideBits
import HandS.TupAny
import KE.GoesEnum
import KE.GoesMore
import HandS.Wide
import KE.KTupSum
import HandS.Strs
import HandS.DictComp
import KE.KDictPairs
import HandS.Defaults
import KE.DataCmp
import KE.KDictWalk
import PyProof.ReprRoads
import PyProof.ReprLen
import HandS.TupMul
import HandS.TryOnly
import KE.KSortTupG
import KE.KDictSum
import PySem.Challenge.RW_sincerung_k14_courses_of_any_kind
set_option Elab.async false
set_option linter.all false
set_option maxRecDepth 100000

section
set_option maxHeartbeats 2000000
namespace Kx
open PySem L2 PySem.Spec PyProof.Rows
/-! ### tuples whose object is known to have no dict of its own: the making rules once more -/
section
variable {X : Cx} {K : PySem.W.Frag}
theorem frz_ok {P : Program} {w : World} {H : Hp} {h : Heap} {xs : List V} {its : List Value} (hz : xs.length ≤ sizeLine) (r : Vals xs its) :
    ObjOk P w H (h.push { cls := .type "tuple", data := .seq its.toArray }) h.objs.size (.frz { cls := .type "tuple", data := .seq its.toArray } (.tup xs)) :=
  ⟨Heap.get?_push_size _ rfl, hz, its, r, ⟨_, Heap.get?_push_size _ rfl, rfl, _, rfl⟩⟩
def tTupF (t : TA) : TE := fun σ H Q => t σ H fun xs H1 => xs.length ≤ sizeLine ∧ ∀ p o, H1 p = none → o.dict = none → Q (.ref p) (upd H1 p (.frz o (.tup xs)))
theorem pe_tupF {es : List Expr} {t : TA} {pos : Pos} {x1} (h : PA X es t) : PE X (.Tuple es x1 pos) (tTupF t) := by
  refine ⟨fun pins s σ H Q I hq => ?_⟩
  refine wpAny_Tuple_spliced (thn (h.run pos pins s σ H _ I hq) fun us s1 ⟨xs, H1, I1, r, z, q⟩ => ⟨by rw [← r.length]; exact z, ?_⟩)
  exact ⟨.ref s1.heap.objs.size, _, I1.laid (t' := s1.toks) (fun b u e => Heap.get?_push_of_some _ e) (Nat.le_refl _) (frz_ok z r), rfl, q _ _ (I1.hok.fresh (Nat.le_refl _)) rfl⟩
def rTupOf (K : PySem.W.Frag) : List V → Hp → VK → Prop := fun xs H Q => ∃ p ys, xs = [.ref p] ∧ ((SqL K H p ys ∧ ∀ l o, H l = none → o.dict = none → Q (.ref l) (upd H l (.frz o (.tup ys)))) ∨ (SqT K H p ys ∧ Q (.ref p) H))
theorem cl_tupleF : CallR X (.type "tuple") (rTupOf X.K) := by
  intro pins s σ H xs us Q I r h
  obtain ⟨p, ys, rfl, h⟩ := h
  obtain ⟨u, rfl, rx⟩ := vals1 r
  cases rx
  rcases h with ⟨hq, q⟩ | ⟨hq, q⟩
  · obtain ⟨its, r1, pl, hz⟩ := I.list hq
    have hl := r1.length
    refine call_tuple_list pl.isList (fun h1 kp => ?_) (by simp only [List.size_toArray] <;> omega)
    have I1 : Inv X pins σ H { s with heap := h1 } := I.kept (t' := s.toks) kp
    exact ⟨.ref h1.objs.size, _, I1.laid (t' := s.toks) (fun b o e => Heap.get?_push_of_some _ e) (Nat.le_refl _) (frz_ok hz r1), rfl, q _ _ (I1.hok.fresh (Nat.le_refl _)) rfl⟩
  · obtain ⟨its, r1, pl, _⟩ := I.tuple hq
    exact call_tuple_same pl ⟨.ref p, H, I, rfl, q⟩
def rCatF (K : PySem.W.Frag) : R2 := fun x y H Q => ∃ a b xs ys, x = .ref a ∧ y = .ref b ∧ SqT K H a xs ∧ SqT K H b ys ∧ xs.length + ys.length ≤ sizeLine ∧
  (xs = [] → Q (.ref b) H) ∧ (xs ≠ [] → ys = [] → Q (.ref a) H) ∧ (xs ≠ [] → ys ≠ [] → ∀ p o, H p = none → o.dict = none → Q (.ref p) (upd H p (.frz o (.tup (xs ++ ys)))))
theorem op_catF : OpR X (binaryOp .Add) (rCatF X.K) := by
  intro pins s σ H x y v u Q I rx ry h
  obtain ⟨a, b, xs, ys, rfl, rfl, ha, hb, hz, q0, q1, q2⟩ := h
  by_cases hx : xs = []
  · exact op_catA pins s σ H _ _ v u Q I rx ry ⟨a, b, xs, ys, rfl, rfl, ha, hb, hz, q0, fun n => absurd hx n, fun n => absurd hx n⟩
  · cases rx
    cases ry
    obtain ⟨its, r1, p1, _⟩ := I.tuple ha
    obtain ⟨its2, r2, p2, _⟩ := I.tuple hb
    refine HT.cat_tup p1 p2 (fun z => hx (r1.nil_iff.mp z)) (fun z => ⟨.ref a, H, I, rfl, q1 hx (r2.nil_iff.mp z)⟩) (fun z => ?_) (by rw [← r1.length, ← r2.length]; exact hz)
    exact ⟨.ref s.heap.objs.size, _, I.laid (t' := s.toks) (fun b ob q => Heap.get?_push_of_some _ q) (Nat.le_refl _) (frz_ok (by rw [List.length_append]; exact hz) (r1.append r2)), rfl, q2 hx (fun w => z (r2.nil_iff.mpr w)) _ _ (I.hok.fresh (Nat.le_refl _)) rfl⟩
def rSlF (K : PySem.W.Frag) : V → Option Int → Option Int → Hp → VK → Prop := fun x lo hi H Q => ∃ a xs, x = .ref a ∧ SqT K H a xs ∧
  (HT.sIx xs.length 0 lo = 0 ∧ HT.sIx xs.length xs.length hi = xs.length → Q (.ref a) H) ∧ (¬ (HT.sIx xs.length 0 lo = 0 ∧ HT.sIx xs.length xs.length hi = xs.length) → ∀ p o, H p = none → o.dict = none → Q (.ref p) (upd H p (.frz o (.tup (cutV xs lo hi)))))
theorem sl_tupF : SlR X (rSlF X.K) := by
  intro pins s σ H x v vl vu lo hi sl Q I rx hs pl pu h
  obtain ⟨a, xs, rfl, hx, q1, q2⟩ := h
  by_cases hw : HT.sIx xs.length 0 lo = 0 ∧ HT.sIx xs.length xs.length hi = xs.length
  · exact sl_tupA pins s σ H _ v vl vu lo hi sl Q I rx hs pl pu ⟨a, xs, rfl, hx, q1, fun n => absurd hw n⟩
  · cases rx
    obtain ⟨its, r, ht, hz⟩ := I.tuple hx
    have hl : its.toArray.size = xs.length := by rw [List.size_toArray]; exact r.length.symm
    refine ⟨"tuple", _, PyProof.Rows.slot_tuple_getitem.lookup, ht.typeIs, ?_⟩
    refine HT.getItem_tuple_cut ht hs pl pu (by rw [hl]; exact hw) ?_ (by rw [hl]; exact hz)
    rw [hl]
    exact ⟨.ref s.heap.objs.size, _, I.laid (t' := s.toks) (fun b ob q => Heap.get?_push_of_some _ q) (Nat.le_refl _) (frz_ok (Nat.le_trans (cutV_length xs lo hi) hz) ((r.drop (HT.sIx xs.length 0 lo)).take (HT.sIx xs.length xs.length hi - HT.sIx xs.length 0 lo))), rfl, q2 hw _ _ (I.hok.fresh (Nat.le_refl _)) rfl⟩
/-- a tuple that is known to have no dict of its own -/
def TupG (K : PySem.W.Frag) (G : Hp) (a : Addr) (xs : List V) : Prop :=
  (∃ o, G a = some (.frz o (.tup xs)) ∧ o.dict = none) ∨ ∃ (o : Obj) (its : Array Value) (n : Nat), K.lookup a = some o ∧ o.cls = .type "tuple" ∧ o.dict = none ∧ o.data = .seq its n ∧ its.size ≤ sizeLine ∧ Vals xs its.toList
theorem TupG.sq {G : Hp} {a : Addr} {xs : List V} (h : TupG K G a xs) : SqT K G a xs := by
  rcases h with ⟨o, h, _⟩ | ⟨o, its, n, h1, h2, _, h4, h5, h6⟩
  · exact .inl (.inr ⟨o, h⟩)
  · exact .inr ⟨o, its, n, h1, h2, h4, h5, h6⟩
theorem TupG.up {G H : Hp} {a : Addr} {xs : List V} (s : Same G H) (h : TupG K G a xs) : TupG K H a xs := by
  rcases h with ⟨o, h, hd⟩ | h
  · exact .inl ⟨o, s _ _ h, hd⟩
  · exact .inr h
/-! the call of a method of such a tuple -/
def tBMT (K : PySem.W.Frag) (r : V → List V → Hp → VK → Prop) (to : TE) (t : TA) : TE := fun σ H Q => to σ H fun x H1 => (∃ a xs, x = .ref a ∧ TupG K H1 a xs) ∧ t σ H1 fun xs H2 => r x xs H2 Q
theorem pe_bmT {o e : Expr} {es : List Expr} {to : TE} {t : TA} {name : Str} {apos cpos : Pos} {id : String} {r : V → List V → Hp → VK → Prop} (pa : PlainAttrs "tuple") (slot : Slot "tuple" name id) (hty : typeOf (.builtin id) = pure (.type "method_descriptor")) (hm : MtR X id r) (ho : PE X o to) (ha : PA X (e :: es) t)
    (hbase : attributeBase o name X.env (eval o X.env) = eval o X.env := by rfl)
    (hfew : ((backTo cpos (starEach (e :: es) X.env)).all (fun x => !x.1) && (backToKw cpos (keywordEach [] X.env)).all (fun x => x.1.isSome)
      && decide ((e :: es).length + ([] : List Keyword).length + (if ([] : List Keyword).isEmpty then 0 else 1) < 30)) = true := by rfl)
    (hline : (apos.endLine == cpos.line) = true := by rfl) (hs : starEach (e :: es) X.env = (false, eval e X.env) :: starEach es X.env := by rfl) (hplain : (backTo cpos (starEach es X.env)).any (·.1) = false := by rfl) (hK : X.K = K := by rfl) :
    PE X (.Call (.Attribute o name apos) (e :: es) [] cpos) (tBMT K r to t) := by
  subst hK
  refine ⟨fun pins s σ H Q I h => ?_⟩
  refine wpAny_Call_method_late hbase hfew hline rfl (thn (ho.run pins s σ H _ I h) fun v s1 ⟨x, H1, I1, r1, ⟨a, xs, ex, tg⟩, q1⟩ => ?_)
  subst ex
  have ev : v = .ref a := r1
  have ob : ∃ o, s1.heap.get? a = some o ∧ o.cls = .type "tuple" ∧ o.dict = none := by
    rcases tg with ⟨o, e, hd⟩ | ⟨o, its, n, e, hc, hd, _⟩
    · obtain ⟨e1, _, _, _, o2, e2, hc, _⟩ := I1.hok a _ e
      rw [e1] at e2
      cases e2
      exact ⟨o, e1, hc, hd⟩
    · exact ⟨o, I1.kIn a o e, hc, hd⟩
  obtain ⟨o, e1, hc, hd⟩ := ob
  refine ⟨"tuple", id, pa, slot, hty, by rw [ev]; exact ⟨o, e1, hc⟩, fun b eb => by rw [ev] at eb; cases eb; exact ⟨o, e1, hd⟩, ?_⟩
  have hA := ha.run cpos pins s1 σ H1 _ I1 q1
  rw [hs] at hA ⊢
  refine Calls.callWith_builtin (by show (false || (backTo cpos (starEach es X.env)).any (·.1)) = false; rw [hplain] <;> rfl) (Calls.evalArgs_plain ?_)
  exact thn hA fun us s2 ⟨vs, H2, I2, r2, q2⟩ => hm pins s2 σ H2 _ vs v us Q I2 r1 r2 q2
end
end Kx

end

section
set_option maxHeartbeats 2000000
namespace Kx
open PySem L2

/-! ### what is known: G stands still, M may be changed, both are tracked in H -/
structure Ok (G M H : Hp) : Prop where
  g : Same G H
  m : Same M H
  d : ∀ a o, M a = some o → G a = none
  mu : ∀ a o, M a = some o → Mut (some o)
theorem Same.new {H : Hp} {p : Addr} {o : HO} (h : H p = none) : Same H (upd H p o) := fun a u e => by
  rw [upd_ne (ne_of_none e h)]
  exact e
theorem Same.none {G H : Hp} (s : Same G H) {p : Addr} (h : H p = none) : G p = none := s.free h
/-- a new object that stands still -/
theorem Ok.newG {G M H : Hp} {p : Addr} (o : HO) (k : Ok G M H) (h : H p = none) : Ok (upd G p o) M (upd H p o) := by
  refine ⟨fun a u e => ?_, fun a u e => ?_, fun a u e => ?_, k.mu⟩
  · by_cases ha : a = p
    · subst ha; rw [upd_same] at e ⊢; exact e
    · rw [upd_ne ha] at e ⊢; exact k.g a u e
  · rw [upd_ne (ne_of_none (k.m a u e) h)]; exact k.m a u e
  · rw [upd_ne (ne_of_none (k.m a u e) h)]; exact k.d a u e
theorem mu_upd {M : Hp} {p : Addr} {o : HO} (k : ∀ a o, M a = some o → Mut (some o)) (hm : Mut (some o)) : ∀ a u, (upd M p o) a = some u → Mut (some u) := fun a u e => by
  by_cases ha : a = p
  · subst ha; rw [upd_same] at e; cases e; exact hm
  · rw [upd_ne ha] at e; exact k a u e
/-- a new object that may be changed -/
theorem Ok.newM {G M H : Hp} {p : Addr} (o : HO) (k : Ok G M H) (h : H p = none) (hm : Mut (some o) := by exact trivial) : Ok G (upd M p o) (upd H p o) := by
  refine ⟨fun a u e => ?_, fun a u e => ?_, fun a u e => ?_, mu_upd k.mu hm⟩
  · rw [upd_ne (ne_of_none (k.g a u e) h)]; exact k.g a u e
  · by_cases ha : a = p
    · subst ha; rw [upd_same] at e ⊢; exact e
    · rw [upd_ne ha] at e ⊢; exact k.m a u e
  · by_cases ha : a = p
    · subst ha; exact Same.none k.g h
    · rw [upd_ne ha] at e; exact k.d a u e
/-- a changed object -/
theorem Ok.chg {G M H : Hp} {p : Addr} {u : HO} (o : HO) (k : Ok G M H) (h : M p = some u) (hm : Mut (some o) := by exact trivial) : Ok G (upd M p o) (upd H p o) := by
  have gp : G p = none := k.d p u h
  refine ⟨fun a u e => ?_, fun a u e => ?_, fun a u e => ?_, mu_upd k.mu hm⟩
  · rw [upd_ne (ne_of_none e gp)]; exact k.g a u e
  · by_cases ha : a = p
    · subst ha; rw [upd_same] at e ⊢; exact e
    · rw [upd_ne ha] at e ⊢; exact k.m a u e
  · by_cases ha : a = p
    · subst ha; exact gp
    · rw [upd_ne ha] at e; exact k.d a u e
/-- what may be changed is let go: it stands still from here on -/
theorem Ok.frz {G M H : Hp} {p : Addr} {o : HO} (k : Ok G (upd M p o) H) (h : M p = none) : Ok (upd G p o) M H := by
  refine ⟨fun a u e => ?_, fun a u e => ?_, fun a u e => ?_, fun a u e => k.mu a u (by rw [upd_ne (ne_of_none e h)]; exact e)⟩
  · by_cases ha : a = p
    · subst ha; rw [upd_same] at e; exact k.m a u (by rw [upd_same]; exact e)
    · rw [upd_ne ha] at e; exact k.g a u e
  · exact k.m a u (by rw [upd_ne (ne_of_none e h)]; exact e)
  · have ha := ne_of_none e h
    rw [upd_ne ha]
    exact k.d a u (by rw [upd_ne ha]; exact e)
theorem Ok.less {G M M' H : Hp} (k : Ok G M' H) (s : Same M M') : Ok G M H := ⟨k.g, fun a o e => k.m a o (s a o e), fun a o e => k.d a o (s a o e), fun a o e => k.mu a o (s a o e)⟩
theorem Ok.gp {G M H : Hp} {p : Addr} {o : HO} (k : Ok G (upd M p o) H) : G p = none := k.d p o upd_same
theorem upd_back {M : Hp} {p : Addr} {o : HO} (h : M p = some o) : upd M p o = M := by
  funext a
  unfold upd
  split
  · next e => rw [e, h]
  · rfl
theorem upd_comm {M : Hp} {p q : Addr} {o u : HO} (h : p ≠ q) : upd (upd M p o) q u = upd (upd M q u) p o := by
  funext a
  unfold upd
  by_cases h1 : a = q <;> by_cases h2 : a = p
  · subst h1; exact absurd h2.symm h
  · rw [if_pos h1, if_neg h2, if_pos h1]
  · rw [if_neg h1, if_pos h2, if_pos h2]
  · rw [if_neg h1, if_neg h2, if_neg h2, if_neg h1]
theorem same_chg {M : Hp} {p : Addr} {o u : HO} (h : M p = none) : Same M (upd M p o) := Same.new h

theorem rd_up {G H : Hp} {a : Addr} {u : HO} (e : Same G H) (h : Rd G a u) : Rd H a u := by
  rcases h with h | ⟨o, h⟩
  · exact Or.inl (e a _ h)
  · exact Or.inr ⟨o, e a _ h⟩

/-- the class that the top has given this name -/
def clsAt (K : PySem.W.Frag) (n : Str) : Addr := match PySem.W.nsIn K mainGlobals n with
  | some (some (.ref C)) => C
  | _ => 0
theorem clsAt_of {K : PySem.W.Frag} {n : Str} {C : Addr} (h : PySem.W.nsIn K mainGlobals n = some (some (.ref C))) : clsAt K n = C := by
  unfold clsAt
  rw [h]
/-! ### data in the heap: lists are plain tracked ones; texts have code points; dicts and instances stand still -/
inductive Dat where
  | none
  | bool (b : Bool)
  | int (i : Int)
  | str (s : Str)
  | list (xs : List Dat)
  | tuple (xs : List Dat)
  /-- a tuple of which no more is known -/
  | rtup (xs : List Dat)
  /-- a dict by ints and texts: its keys, its values -/
  | dK (ks : List Key) (xs : List Dat)
  /-- a dict by tuples of these -/
  | dT (ks : List (List Key)) (xs : List Dat)
  /-- an instance of the class of this name: its fields, their values -/
  | ins (C : Str) (ns : List Str) (xs : List Dat)
abbrev sok (x : Str) : Bool := PyData.strOk x
def keyOk : Key → Bool
  | .inl _ => true
  | .inr x => sok x
mutual
inductive Dq (K : PySem.W.Frag) (G : Hp) : V → Dat → Prop
  | non : Dq K G .non .none
  | bl (b : Bool) : Dq K G (.bl b) (.bool b)
  | int (i : Int) : Dq K G (.int i) (.int i)
  | str {x : Str} (h : sok x = true) : Dq K G (.str x) (.str x)
  | lst {a : Addr} {xs : List V} {ds : List Dat} : G a = some (.lst xs) → DqAll K G xs ds → Dq K G (.ref a) (.list ds)
  | tup {a : Addr} {xs : List V} {ds : List Dat} : TupG K G a xs → DqAll K G xs ds → Dq K G (.ref a) (.tuple ds)
  | rtup {a : Addr} {xs : List V} {ds : List Dat} : G a = some (.tup xs) → DqAll K G xs ds → Dq K G (.ref a) (.rtup ds)
  | dK {a : Addr} {kvs : List (Key × V)} {ks : List Key} {ds : List Dat} : Rd G a (.dK kvs) → kvs.map (·.1) = ks → ks.all keyOk = true → DqAll K G (kvs.map (·.2)) ds → Dq K G (.ref a) (.dK ks ds)
  | dT {a : Addr} {kvs : List (List Key × V)} {ks : List (List Key)} {ds : List Dat} : Rd G a (.dT kvs) → kvs.map (·.1) = ks → (ks.all fun k => k.all keyOk) = true → DqAll K G (kvs.map (·.2)) ds → Dq K G (.ref a) (.dT ks ds)
  | ins {a dx : Addr} {C : Str} {fs : List (Str × V)} {ns : List Str} {ds : List Dat} : G a = some (.ins (clsAt K C) dx fs) → fs.map (·.1) = ns → DqAll K G (fs.map (·.2)) ds → Dq K G (.ref a) (.ins C ns ds)
inductive DqAll (K : PySem.W.Frag) (G : Hp) : List V → List Dat → Prop
  | nil : DqAll K G [] []
  | cons {v : V} {d : Dat} {vs : List V} {ds : List Dat} : Dq K G v d → DqAll K G vs ds → DqAll K G (v :: vs) (d :: ds)
end
/-! plain data, as the library has them -/
mutual
def toPy : Dat → PyData
  | .none => .none
  | .bool b => .bool b
  | .int i => .int i
  | .str x => .str x
  | .list xs => .list (toPys xs)
  | .tuple xs => .tuple (toPys xs)
  | .rtup xs => .tuple (toPys xs)
  | .dK _ _ => .none
  | .dT _ _ => .none
  | .ins _ _ _ => .none
def toPys : List Dat → List PyData
  | [] => []
  | x :: xs => toPy x :: toPys xs
def pur : Dat → Bool
  | .none => true
  | .bool _ => true
  | .int _ => true
  | .str _ => true
  | .list xs => purs xs
  | .tuple xs => purs xs
  | .rtup xs => purs xs
  | .dK _ _ => false
  | .dT _ _ => false
  | .ins _ _ _ => false
def purs : List Dat → Bool
  | [] => true
  | x :: xs => pur x && purs xs
end
section
variable {K : PySem.W.Frag}
theorem sqT_up {G H : Hp} {a : Addr} {xs : List V} (e : Same G H) (h : SqT K G a xs) : SqT K H a xs := by
  rcases h with h | h
  · exact Or.inl (rd_up e h)
  · exact Or.inr h
mutual
theorem dp_up {G H : Hp} (e : Same G H) : ∀ (d : Dat) {v : V}, Dq K G v d → Dq K H v d
  | .none, _, h => by cases h; exact .non
  | .bool b, _, h => by cases h; exact .bl b
  | .int i, _, h => by cases h; exact .int i
  | .str x, _, h => by
    cases h with
    | str h => exact .str h
  | .list ds, _, h => by
    cases h with
    | lst a b => exact .lst (e _ _ a) (dpAll_up e ds b)
  | .tuple ds, _, h => by
    cases h with
    | tup a b => exact .tup (a.up e) (dpAll_up e ds b)
  | .rtup ds, _, h => by
    cases h with
    | rtup a b => exact .rtup (e _ _ a) (dpAll_up e ds b)
  | .dK ks ds, _, h => by
    cases h with
    | dK a b c d => exact .dK (rd_up e a) b c (dpAll_up e ds d)
  | .dT ks ds, _, h => by
    cases h with
    | dT a b c d => exact .dT (rd_up e a) b c (dpAll_up e ds d)
  | .ins C ns ds, _, h => by
    cases h with
    | ins a b c => exact .ins (e _ _ a) b (dpAll_up e ds c)
theorem dpAll_up {G H : Hp} (e : Same G H) : ∀ (ds : List Dat) {vs : List V}, DqAll K G vs ds → DqAll K H vs ds
  | [], _, h => by cases h; exact .nil
  | d :: ds, _, h => by
    cases h with
    | cons a b => exact .cons (dp_up e d a) (dpAll_up e ds b)
end
mutual
theorem dq_dp {G : Hp} : ∀ (d : Dat) {v : V}, pur d = true → Dq K G v d → Dp K G v (toPy d)
  | .none, _, _, h => by cases h; unfold toPy; exact .non
  | .bool b, _, _, h => by cases h; unfold toPy; exact .bl b
  | .int i, _, _, h => by cases h; unfold toPy; exact .int i
  | .str x, _, _, h => by cases h; unfold toPy; exact .str x
  | .list ds, _, p, h => by
    cases h with
    | lst a b => unfold toPy; exact .lst (.inl (.inl a)) (dqAll_dp ds (by unfold pur at p; exact p) b)
  | .tuple ds, _, p, h => by
    cases h with
    | tup a b => unfold toPy; exact .tup a.sq (dqAll_dp ds (by unfold pur at p; exact p) b)
  | .rtup ds, _, p, h => by
    cases h with
    | rtup a b => unfold toPy; exact .tup (.inl (.inl a)) (dqAll_dp ds (by unfold pur at p; exact p) b)
  | .dK _ _, _, p, h => by unfold pur at p; cases p
  | .dT _ _, _, p, h => by unfold pur at p; cases p
  | .ins _ _ _, _, p, h => by unfold pur at p; cases p
theorem dqAll_dp {G : Hp} : ∀ (ds : List Dat) {vs : List V}, purs ds = true → DqAll K G vs ds → DpAll K G vs (toPys ds)
  | [], _, _, h => by cases h; unfold toPys; exact .nil
  | d :: ds, _, p, h => by
    cases h with
    | cons a b =>
      unfold purs at p
      rw [Bool.and_eq_true] at p
      unfold toPys
      exact .cons (dq_dp d p.1 a) (dqAll_dp ds p.2 b)
end
/-! what stands in the heap can be laid -/
mutual
theorem dq_lay {G : Hp} : ∀ (d : Dat) {v : V}, pur d = true → Dq K G v d → (toPy d).canLay0 = true
  | .none, _, _, h => by unfold toPy PyData.canLay0; rfl
  | .bool b, _, _, h => by unfold toPy PyData.canLay0; rfl
  | .int i, _, _, h => by unfold toPy PyData.canLay0; rfl
  | .str x, _, _, h => by
    cases h with
    | str h => unfold toPy PyData.canLay0; exact h
  | .list ds, _, p, h => by
    cases h with
    | lst a b => unfold toPy PyData.canLay0; exact dqAll_lay ds (by unfold pur at p; exact p) b
  | .tuple ds, _, p, h => by
    cases h with
    | tup a b => unfold toPy PyData.canLay0; exact dqAll_lay ds (by unfold pur at p; exact p) b
  | .rtup ds, _, p, h => by
    cases h with
    | rtup a b => unfold toPy PyData.canLay0; exact dqAll_lay ds (by unfold pur at p; exact p) b
  | .dK _ _, _, p, h => by unfold pur at p; cases p
  | .dT _ _, _, p, h => by unfold pur at p; cases p
  | .ins _ _ _, _, p, h => by unfold pur at p; cases p
theorem dqAll_lay {G : Hp} : ∀ (ds : List Dat) {vs : List V}, purs ds = true → DqAll K G vs ds → PyData.canLayAll0 (toPys ds) = true
  | [], _, _, h => by unfold toPys PyData.canLayAll0; rfl
  | d :: ds, _, p, h => by
    cases h with
    | cons a b =>
      unfold purs at p
      rw [Bool.and_eq_true] at p
      unfold toPys PyData.canLayAll0
      rw [dq_lay d p.1 a, dqAll_lay ds p.2 b]
      rfl
end
theorem dpAll_len {G : Hp} : ∀ {ds : List Dat} {vs : List V}, DqAll K G vs ds → vs.length = ds.length
  | _, _, .nil => rfl
  | _, _, .cons _ b => congrArg (· + 1) (dpAll_len b)
theorem dpAll_get {G : Hp} : ∀ {ds : List Dat} {vs : List V} {i : Nat} {d : Dat}, DqAll K G vs ds → ds[i]? = some d → ∃ v, vs[i]? = some v ∧ Dq K G v d
  | _, _, _, _, .nil, h => by simp at h
  | _, _, 0, _, .cons a _, h => by simp at h; subst h; exact ⟨_, rfl, a⟩
  | _, _, i + 1, d, .cons _ b, h => by
    obtain ⟨v, h1, h2⟩ := dpAll_get (i := i) (d := d) b (by simpa using h)
    exact ⟨v, by simpa using h1, h2⟩
theorem dpAll_app {G : Hp} : ∀ {ds es : List Dat} {vs ws : List V}, DqAll K G vs ds → DqAll K G ws es → DqAll K G (vs ++ ws) (ds ++ es)
  | _, _, _, _, .nil, h => h
  | _, _, _, _, .cons a b, h => .cons a (dpAll_app b h)
theorem dpAll_drop {G : Hp} : ∀ {ds : List Dat} {vs : List V} (n : Nat), DqAll K G vs ds → DqAll K G (vs.drop n) (ds.drop n)
  | _, _, 0, h => h
  | _, _, _ + 1, .nil => .nil
  | _, _, n + 1, .cons _ b => dpAll_drop n b
theorem dpAll_take {G : Hp} : ∀ {ds : List Dat} {vs : List V} (n : Nat), DqAll K G vs ds → DqAll K G (vs.take n) (ds.take n)
  | _, _, 0, _ => .nil
  | _, _, _ + 1, .nil => .nil
  | _, _, n + 1, .cons a b => .cons a (dpAll_take n b)
theorem dpAll_set {G : Hp} : ∀ {ds : List Dat} {vs : List V} (n : Nat) {v : V} {d : Dat}, Dq K G v d → DqAll K G vs ds → DqAll K G (vs.set n v) (ds.set n d)
  | _, _, _, _, _, _, .nil => .nil
  | _, _, 0, _, _, a, .cons _ b => .cons a b
  | _, _, n + 1, _, _, a, .cons x b => .cons x (dpAll_set n a b)
theorem dpAll_erase {G : Hp} : ∀ {ds : List Dat} {vs : List V} (n : Nat), DqAll K G vs ds → DqAll K G (vs.eraseIdx n) (ds.eraseIdx n)
  | _, _, _, .nil => .nil
  | _, _, 0, .cons _ b => b
  | _, _, n + 1, .cons x b => .cons x (dpAll_erase n b)
theorem dpAll_ints {G : Hp} : ∀ {ns : List Int} {vs : List V}, DqAll K G vs (ns.map Dat.int) → vs = ns.map V.int
  | [], _, h => by cases h; rfl
  | n :: ns, _, h => by
    cases h with
    | cons a b => cases a; exact congrArg (V.int n :: ·) (dpAll_ints b)
theorem dpAll_bls {G : Hp} : ∀ {ns : List Bool} {vs : List V}, DqAll K G vs (ns.map Dat.bool) → vs = ns.map V.bl
  | [], _, h => by cases h; rfl
  | n :: ns, _, h => by
    cases h with
    | cons a b => cases a; exact congrArg (V.bl n :: ·) (dpAll_bls b)
theorem dpAll_strs {G : Hp} : ∀ {ns : List Str} {vs : List V}, DqAll K G vs (ns.map Dat.str) → vs = ns.map V.str
  | [], _, h => by cases h; rfl
  | n :: ns, _, h => by
    cases h with
    | cons a b => cases a; exact congrArg (V.str n :: ·) (dpAll_strs b)
theorem dpAll_rep {G : Hp} {v : V} {d : Dat} (h : Dq K G v d) : ∀ n : Nat, DqAll K G (List.replicate n v) (List.replicate n d)
  | 0 => .nil
  | n + 1 => .cons h (dpAll_rep h n)
end

/-! ### what evaluates to what -/
abbrev VP := V → Hp → Prop
def Mo (P : VP) : Prop := ∀ v G G', Same G G' → P v G → P v G'
abbrev DD (K : PySem.W.Frag) (d : Dat) : VP := fun v G => Dq K G v d
abbrev OW (p : Addr) : VP := fun v _ => v = .ref p
theorem mo_dd {K : PySem.W.Frag} {d : Dat} : Mo (DD K d) := fun _ _ _ s h => dp_up s d h
theorem mo_ow {p : Addr} : Mo (OW p) := fun _ _ _ _ h => h

def Ev (te : TE) (σ : St) (G M M' : Hp) (P : VP) : Prop :=
  ∀ G0 H, Same G G0 → Ok G0 M H → ∀ Q : VK, (∀ v G' H', Same G0 G' → Ok G' M' H' → P v G' → Q v H') → te σ H Q
def EvA (ta : TA) (σ : St) (G M M' : Hp) (P : List V → Hp → Prop) : Prop :=
  ∀ G0 H, Same G G0 → Ok G0 M H → ∀ Q : List V → Hp → Prop, (∀ vs G' H', Same G0 G' → Ok G' M' H' → P vs G' → Q vs H') → ta σ H Q
def EvT (tt : TT) (σ : St) (G M M' : Hp) (b : Bool) : Prop :=
  ∀ G0 H, Same G G0 → Ok G0 M H → ∀ Q : Bool → Hp → Prop, (∀ G' H', Same G0 G' → Ok G' M' H' → Q b H') → tt σ H Q
/-- a new list of one's own -/
def EvL (K : PySem.W.Frag) (te : TE) (σ : St) (G M M' : Hp) (ds : List Dat) : Prop :=
  ∀ G0 H, Same G G0 → Ok G0 M H → ∀ Q : VK, (∀ p vs G' H', Same G0 G' → Ok G' (upd M' p (.lst vs)) H' → M' p = none → DqAll K G' vs ds → Q (.ref p) H') → te σ H Q
def EvO (to : TO) (σ : St) (G M M' : Hp) (o : Option Int) : Prop :=
  ∀ G0 H, Same G G0 → Ok G0 M H → ∀ Q : Option Int → Hp → Prop, (∀ G' H', Same G0 G' → Ok G' M' H' → Q o H') → to σ H Q
/-- a rule on values -/
def RV2 (r : R2) (G M M' : Hp) (P1 P2 P : VP) : Prop :=
  ∀ x y G0 H, Same G G0 → Ok G0 M H → P1 x G0 → P2 y G0 → ∀ Q : VK, (∀ v G' H', Same G0 G' → Ok G' M' H' → P v G' → Q v H') → r x y H Q
def RVn (r : List V → Hp → VK → Prop) (G M M' : Hp) (Ps : List V → Hp → Prop) (P : VP) : Prop :=
  ∀ xs G0 H, Same G G0 → Ok G0 M H → Ps xs G0 → ∀ Q : VK, (∀ v G' H', Same G0 G' → Ok G' M' H' → P v G' → Q v H') → r xs H Q
def RVnL (K : PySem.W.Frag) (r : List V → Hp → VK → Prop) (G M M' : Hp) (Ps : List V → Hp → Prop) (ds : List Dat) : Prop :=
  ∀ xs G0 H, Same G G0 → Ok G0 M H → Ps xs G0 → ∀ Q : VK, (∀ p vs G' H', Same G0 G' → Ok G' (upd M' p (.lst vs)) H' → M' p = none → DqAll K G' vs ds → Q (.ref p) H') → r xs H Q
def RV2L (K : PySem.W.Frag) (r : R2) (G M M' : Hp) (P1 P2 : VP) (ds : List Dat) : Prop :=
  ∀ x y G0 H, Same G G0 → Ok G0 M H → P1 x G0 → P2 y G0 → ∀ Q : VK, (∀ p vs G' H', Same G0 G' → Ok G' (upd M' p (.lst vs)) H' → M' p = none → DqAll K G' vs ds → Q (.ref p) H') → r x y H Q
def nilP : List V → Hp → Prop := fun vs _ => vs = []
def conP (P : VP) (R : List V → Hp → Prop) : List V → Hp → Prop := fun vs G => ∃ v r, vs = v :: r ∧ P v G ∧ R r G

section
variable {K : PySem.W.Frag} {σ : St} {G G' M M1 M2 M3 : Hp} {ta tb te tc : TE} {P P1 P2 : VP} {d e : Dat} {ds es : List Dat}
theorem Ev.up (s : Same G G') (h : Ev te σ G M M1 P) : Ev te σ G' M M1 P := fun G0 H a => h G0 H (s.trans a)
theorem EvT.up {tt : TT} {b : Bool} (s : Same G G') (h : EvT tt σ G M M1 b) : EvT tt σ G' M M1 b := fun G0 H a => h G0 H (s.trans a)
theorem EvL.up (s : Same G G') (h : EvL K te σ G M M1 ds) : EvL K te σ G' M M1 ds := fun G0 H a => h G0 H (s.trans a)
theorem EvL.ev (h : EvL K te σ G M M1 ds) : Ev te σ G M M1 (DD K (.list ds)) := fun G0 H s k Q q =>
  h G0 H s k Q fun p vs G' H' s' k' hp hd => q _ (upd G' p (.lst vs)) H' (s'.trans (Same.new k'.gp)) (k'.frz hp) (.lst upd_same (dpAll_up (Same.new k'.gp) ds hd))
theorem ev_var {i : Nat} {v : V} (h : σ[i]? = some (some v)) (m : Mo P) (hp : P v G) : Ev (tVar i) σ G M M P := fun G0 H s k Q q =>
  ⟨v, h, q v G0 H (Same.refl G0) k (m v G G0 s hp)⟩
theorem ev_d {i : Nat} {v : V} (h : σ[i]? = some (some v)) (hp : Dq K G v d) : Ev (tVar i) σ G M M (DD K d) := ev_var h mo_dd hp
theorem ev_own {i : Nat} {p : Addr} (h : σ[i]? = some (some (.ref p))) : Ev (tVar i) σ G M M (OW p) := ev_var h mo_ow rfl
theorem ev_c {v : V} (hp : ∀ G, Dq K G v d) : Ev (tC v) σ G M M (DD K d) := fun G0 H s k Q q => q v G0 H (Same.refl G0) k (hp G0)
theorem ev_int {i : Int} : Ev (tC (.int i)) σ G M M (DD K (.int i)) := ev_c fun _ => .int i
theorem ev_str {x : Str} (h : sok x = true) : Ev (tC (.str x)) σ G M M (DD K (.str x)) := ev_c fun _ => .str h
theorem ev_bl {b : Bool} : Ev (tC (.bl b)) σ G M M (DD K (.bool b)) := ev_c fun _ => .bl b
theorem ev_non : Ev (tC .non) σ G M M (DD K .none) := ev_c fun _ => .non
theorem ev_op {r : R2} (m : Mo P1) (ha : Ev ta σ G M M1 P1) (hb : Ev tb σ G M1 M2 P2) (hr : RV2 r G M2 M3 P1 P2 P) : Ev (tOp r ta tb) σ G M M3 P := fun G0 H s k Q q =>
  ha G0 H s k _ fun x G1 H1 s1 k1 hx => hb G1 H1 (s.trans s1) k1 _ fun y G2 H2 s2 k2 hy => hr x y G2 H2 ((s.trans s1).trans s2) k2 (m x G1 G2 s2 hx) hy Q fun v G3 H3 s3 k3 hv => q v G3 H3 ((s1.trans s2).trans s3) k3 hv
theorem el_op {r : R2} (m : Mo P1) (ha : Ev ta σ G M M1 P1) (hb : Ev tb σ G M1 M2 P2) (hr : RV2L K r G M2 M3 P1 P2 ds) : EvL K (tOp r ta tb) σ G M M3 ds := fun G0 H s k Q q =>
  ha G0 H s k _ fun x G1 H1 s1 k1 hx => hb G1 H1 (s.trans s1) k1 _ fun y G2 H2 s2 k2 hy => hr x y G2 H2 ((s.trans s1).trans s2) k2 (m x G1 G2 s2 hx) hy Q fun p vs G3 H3 s3 k3 hv => q p vs G3 H3 ((s1.trans s2).trans s3) k3 hv
theorem ea_nil : EvA tNil σ G M M nilP := fun G0 H s k Q q => q [] G0 H (Same.refl _) k rfl
theorem ea_cons {tr : TA} {R : List V → Hp → Prop} (m : Mo P) (ha : Ev ta σ G M M1 P) (hr : EvA tr σ G M1 M2 R) : EvA (tCons ta tr) σ G M M2 (conP P R) := fun G0 H s k Q q =>
  ha G0 H s k _ fun x G1 H1 s1 k1 hx => hr G1 H1 (s.trans s1) k1 _ fun xs G2 H2 s2 k2 hy => q (x :: xs) G2 H2 (s1.trans s2) k2 ⟨x, xs, rfl, m x G1 G2 s2 hx, hy⟩
theorem ea_d {tr : TA} {R : List V → Hp → Prop} (ha : Ev ta σ G M M1 (DD K d)) (hr : EvA tr σ G M1 M2 R) : EvA (tCons ta tr) σ G M M2 (conP (DD K d) R) := ea_cons mo_dd ha hr
theorem ev_cb {r : List V → Hp → VK → Prop} {t : TA} {R : List V → Hp → Prop} (ha : EvA t σ G M M1 R) (hr : RVn r G M1 M2 R P) : Ev (tCB r t) σ G M M2 P := fun G0 H s k Q q =>
  ha G0 H s k _ fun xs G1 H1 s1 k1 hx => hr xs G1 H1 (s.trans s1) k1 hx Q fun v G2 H2 s2 k2 hv => q v G2 H2 (s1.trans s2) k2 hv
theorem el_cb {r : List V → Hp → VK → Prop} {t : TA} {R : List V → Hp → Prop} (ha : EvA t σ G M M1 R) (hr : RVnL K r G M1 M2 R ds) : EvL K (tCB r t) σ G M M2 ds := fun G0 H s k Q q =>
  ha G0 H s k _ fun xs G1 H1 s1 k1 hx => hr xs G1 H1 (s.trans s1) k1 hx Q fun p vs G2 H2 s2 k2 hv => q p vs G2 H2 (s1.trans s2) k2 hv
/-- values of a list of data -/
def allP (K : PySem.W.Frag) (ds : List Dat) : List V → Hp → Prop := fun vs G => DqAll K G vs ds
theorem ea_nilD : EvA tNil σ G M M (allP K []) := fun G0 H s k Q q => q [] G0 H (Same.refl _) k .nil
theorem ea_consD {tr : TA} (ha : Ev ta σ G M M1 (DD K d)) (hr : EvA tr σ G M1 M2 (allP K ds)) : EvA (tCons ta tr) σ G M M2 (allP K (d :: ds)) := fun G0 H s k Q q =>
  ha G0 H s k _ fun x G1 H1 s1 k1 hx => hr G1 H1 (s.trans s1) k1 _ fun xs G2 H2 s2 k2 hy => q (x :: xs) G2 H2 (s1.trans s2) k2 (.cons (dp_up s2 d hx) hy)
theorem ev_tup {t : TA} (ha : EvA t σ G M M1 (allP K ds)) (hl : ds.length ≤ sizeLine := by simp [sizeLine_eq]) : Ev (tTupF t) σ G M M1 (DD K (.tuple ds)) := fun G0 H s k Q q =>
  ha G0 H s k _ fun xs G1 H1 s1 k1 hx => ⟨by rw [dpAll_len hx]; exact hl, fun p o hp hd => q _ (upd G1 p (.frz o (.tup xs))) _ (s1.trans (Same.new (Same.none k1.g hp))) (k1.newG _ hp) (.tup (.inl ⟨o, upd_same, hd⟩) (dpAll_up (Same.new (Same.none k1.g hp)) ds hx))⟩
theorem newL {Q : VK} {G0 G1 H1 M1 : Hp} {xs : List V} (s1 : Same G0 G1) (k1 : Ok G1 M1 H1) (hx : DqAll K G1 xs ds) (q : ∀ p vs G' H', Same G0 G' → Ok G' (upd M1 p (.lst vs)) H' → M1 p = none → DqAll K G' vs ds → Q (.ref p) H') : ∀ p, H1 p = none → Q (.ref p) (upd H1 p (.lst xs)) :=
  fun p hp => q p xs G1 _ s1 (k1.newM _ hp) (Same.none k1.m hp) hx
theorem newT {Q : VK} {G0 G1 H1 M1 : Hp} {xs : List V} (s1 : Same G0 G1) (k1 : Ok G1 M1 H1) (hx : DqAll K G1 xs ds) (q : ∀ v G' H', Same G0 G' → Ok G' M1 H' → Dq K G' v (.tuple ds) → Q v H') : ∀ p o, H1 p = none → o.dict = none → Q (.ref p) (upd H1 p (.frz o (.tup xs))) :=
  fun p o hp hd => q _ (upd G1 p (.frz o (.tup xs))) _ (s1.trans (Same.new (Same.none k1.g hp))) (k1.newG _ hp) (.tup (.inl ⟨o, upd_same, hd⟩) (dpAll_up (Same.new (Same.none k1.g hp)) ds hx))
theorem newR {Q : VK} {G0 G1 H1 M1 : Hp} {xs : List V} (s1 : Same G0 G1) (k1 : Ok G1 M1 H1) (hx : DqAll K G1 xs ds) (q : ∀ v G' H', Same G0 G' → Ok G' M1 H' → Dq K G' v (.rtup ds) → Q v H') : ∀ p, H1 p = none → Q (.ref p) (upd H1 p (.tup xs)) :=
  fun p hp => q _ (upd G1 p (.tup xs)) _ (s1.trans (Same.new (Same.none k1.g hp))) (k1.newG _ hp) (.rtup upd_same (dpAll_up (Same.new (Same.none k1.g hp)) ds hx))
theorem el_lst {t : TA} (ha : EvA t σ G M M1 (allP K ds)) (hl : ds.length ≤ sizeLine := by simp [sizeLine_eq]) : EvL K (tLst t) σ G M M1 ds := fun G0 H s k Q q =>
  ha G0 H s k _ fun xs G1 H1 s1 k1 hx => ⟨by rw [dpAll_len hx]; exact hl, newL s1 k1 hx q⟩
theorem ev_is {d' : Dat} (h : Ev te σ G M M1 (DD K d)) (e : d = d') : Ev te σ G M M1 (DD K d') := e ▸ h
theorem el_is {ds' : List Dat} (h : EvL K te σ G M M1 ds) (e : ds = ds') : EvL K te σ G M M1 ds' := e ▸ h

/-! ### operators -/
theorem rv_I0 {g : Int → Int → V} {f : Int → Int → Dat} {i j : Int} (hg : ∀ i j G, Dq K G (g i j) (f i j)) : RV2 (rI0 g) G M M (DD K (.int i)) (DD K (.int j)) (DD K (f i j)) := fun x y G0 H s k hx hy Q q => by
  cases hx; cases hy
  exact ⟨i, j, rfl, rfl, q _ G0 H (Same.refl _) k (hg i j G0)⟩
theorem rv_I {C : Int → Int → Prop} {g : Int → Int → V} {f : Int → Int → Dat} {i j : Int} (hg : ∀ i j G, Dq K G (g i j) (f i j)) (hc : C i j) : RV2 (rI C g) G M M (DD K (.int i)) (DD K (.int j)) (DD K (f i j)) := fun x y G0 H s k hx hy Q q => by
  cases hx; cases hy
  exact ⟨i, j, rfl, rfl, hc, q _ G0 H (Same.refl _) k (hg i j G0)⟩
theorem ev_add {i j : Int} (ha : Ev ta σ G M M1 (DD K (.int i))) (hb : Ev tb σ G M1 M2 (DD K (.int j))) : Ev (tOp (rI0 fun i j => .int (i + j)) ta tb) σ G M M2 (DD K (.int (i + j))) := ev_op mo_dd ha hb (rv_I0 (f := fun i j => .int (i + j)) fun i j _ => .int _)
theorem ev_sub {i j : Int} (ha : Ev ta σ G M M1 (DD K (.int i))) (hb : Ev tb σ G M1 M2 (DD K (.int j))) : Ev (tOp (rI0 fun i j => .int (i - j)) ta tb) σ G M M2 (DD K (.int (i - j))) := ev_op mo_dd ha hb (rv_I0 (f := fun i j => .int (i - j)) fun i j _ => .int _)
theorem ev_mul {i j : Int} (hc : CMul i j) (ha : Ev ta σ G M M1 (DD K (.int i))) (hb : Ev tb σ G M1 M2 (DD K (.int j))) : Ev (tOp (rI CMul fun i j => .int (i * j)) ta tb) σ G M M2 (DD K (.int (i * j))) := ev_op mo_dd ha hb (rv_I (f := fun i j => .int (i * j)) (fun i j _ => .int _) hc)
theorem ev_fdiv {i j : Int} (hc : CDivN i j) (ha : Ev ta σ G M M1 (DD K (.int i))) (hb : Ev tb σ G M1 M2 (DD K (.int j))) : Ev (tOp (rI CDivN fun i j => .int (i.fdiv j)) ta tb) σ G M M2 (DD K (.int (i.fdiv j))) := ev_op mo_dd ha hb (rv_I (f := fun i j => .int (i.fdiv j)) (fun i j _ => .int _) hc)
theorem ev_mod {i j : Int} (hc : j ≠ 0) (ha : Ev ta σ G M M1 (DD K (.int i))) (hb : Ev tb σ G M1 M2 (DD K (.int j))) : Ev (tOp (rI (fun _ j => j ≠ 0) fun i j => .int (i.fmod j)) ta tb) σ G M M2 (DD K (.int (i.fmod j))) := ev_op mo_dd ha hb (rv_I (f := fun i j => .int (i.fmod j)) (fun i j _ => .int _) hc)
theorem ev_pow {i j : Int} (hc : CPow i j) (ha : Ev ta σ G M M1 (DD K (.int i))) (hb : Ev tb σ G M1 M2 (DD K (.int j))) : Ev (tOp (rI CPow fun i j => .int (i ^ j.toNat)) ta tb) σ G M M2 (DD K (.int (i ^ j.toNat))) := ev_op mo_dd ha hb (rv_I (f := fun i j => .int (i ^ j.toNat)) (fun i j _ => .int _) hc)
theorem ev_lt {i j : Int} (ha : Ev ta σ G M M1 (DD K (.int i))) (hb : Ev tb σ G M1 M2 (DD K (.int j))) : Ev (tOp (rI0 fun i j => .bl (decide (i < j))) ta tb) σ G M M2 (DD K (.bool (decide (i < j)))) := ev_op mo_dd ha hb (rv_I0 (f := fun i j => .bool (decide (i < j))) fun i j _ => .bl _)
theorem ev_le {i j : Int} (ha : Ev ta σ G M M1 (DD K (.int i))) (hb : Ev tb σ G M1 M2 (DD K (.int j))) : Ev (tOp (rI0 fun i j => .bl (decide (i ≤ j))) ta tb) σ G M M2 (DD K (.bool (decide (i ≤ j)))) := ev_op mo_dd ha hb (rv_I0 (f := fun i j => .bool (decide (i ≤ j))) fun i j _ => .bl _)
theorem ev_gt {i j : Int} (ha : Ev ta σ G M M1 (DD K (.int i))) (hb : Ev tb σ G M1 M2 (DD K (.int j))) : Ev (tOp (rI0 fun i j => .bl (decide (j < i))) ta tb) σ G M M2 (DD K (.bool (decide (j < i)))) := ev_op mo_dd ha hb (rv_I0 (f := fun i j => .bool (decide (j < i))) fun i j _ => .bl _)
theorem ev_ge {i j : Int} (ha : Ev ta σ G M M1 (DD K (.int i))) (hb : Ev tb σ G M1 M2 (DD K (.int j))) : Ev (tOp (rI0 fun i j => .bl (decide (j ≤ i))) ta tb) σ G M M2 (DD K (.bool (decide (j ≤ i)))) := ev_op mo_dd ha hb (rv_I0 (f := fun i j => .bool (decide (j ≤ i))) fun i j _ => .bl _)
theorem ev_eqI {i j : Int} (ha : Ev ta σ G M M1 (DD K (.int i))) (hb : Ev tb σ G M1 M2 (DD K (.int j))) : Ev (tOp rEq ta tb) σ G M M2 (DD K (.bool (decide (i = j)))) := ev_op mo_dd ha hb fun x y G0 H s k hx hy Q q => by
  cases hx; cases hy
  refine ⟨rfl, q _ G0 H (Same.refl _) k ?_⟩
  rw [show decide (V.int i = V.int j) = decide (i = j) by simp]
  exact .bl _
theorem ev_neI {i j : Int} (ha : Ev ta σ G M M1 (DD K (.int i))) (hb : Ev tb σ G M1 M2 (DD K (.int j))) : Ev (tOp rNe ta tb) σ G M M2 (DD K (.bool (!decide (i = j)))) := ev_op mo_dd ha hb fun x y G0 H s k hx hy Q q => by
  cases hx; cases hy
  refine ⟨rfl, q _ G0 H (Same.refl _) k ?_⟩
  rw [show decide (V.int i = V.int j) = decide (i = j) by simp]
  exact .bl _
theorem ev_eqS {i j : Str} (ha : Ev ta σ G M M1 (DD K (.str i))) (hb : Ev tb σ G M1 M2 (DD K (.str j))) : Ev (tOp rEq ta tb) σ G M M2 (DD K (.bool (decide (i = j)))) := ev_op mo_dd ha hb fun x y G0 H s k hx hy Q q => by
  cases hx; cases hy
  refine ⟨rfl, q _ G0 H (Same.refl _) k ?_⟩
  rw [show decide (V.str i = V.str j) = decide (i = j) by simp]
  exact .bl _
theorem ev_neS {i j : Str} (ha : Ev ta σ G M M1 (DD K (.str i))) (hb : Ev tb σ G M1 M2 (DD K (.str j))) : Ev (tOp rNe ta tb) σ G M M2 (DD K (.bool (!decide (i = j)))) := ev_op mo_dd ha hb fun x y G0 H s k hx hy Q q => by
  cases hx; cases hy
  refine ⟨rfl, q _ G0 H (Same.refl _) k ?_⟩
  rw [show decide (V.str i = V.str j) = decide (i = j) by simp]
  exact .bl _
theorem shp_of {v : V} {n : Nat} (p : pur d = true) (hn : (toPy d).depth ≤ 64) (h : Dq K G v d) : SeqAt.shaped (toPy d) = true := by
  unfold SeqAt.shaped
  rw [dq_lay d p h]
  simpa using hn
theorem ev_eqD (p1 : pur d = true) (p2 : pur e = true) (h1 : (toPy d).depth ≤ 64) (h2 : (toPy e).depth ≤ 64) (ha : Ev ta σ G M M1 (DD K d)) (hb : Ev tb σ G M1 M2 (DD K e)) : Ev (tOp (rEqD K) ta tb) σ G M M2 (DD K (.bool (PyData.eqv (toPy d) (toPy e)))) := ev_op mo_dd ha hb fun x y G0 H s k hx hy Q q =>
  ⟨toPy d, toPy e, dq_dp d p1 (dp_up k.g d hx), dq_dp e p2 (dp_up k.g e hy), shp_of (n := 0) p1 h1 hx, shp_of (n := 0) p2 h2 hy, q _ G0 H (Same.refl _) k (.bl _)⟩
theorem ev_neD (p1 : pur d = true) (p2 : pur e = true) (h1 : (toPy d).depth ≤ 64) (h2 : (toPy e).depth ≤ 64) (ha : Ev ta σ G M M1 (DD K d)) (hb : Ev tb σ G M1 M2 (DD K e)) : Ev (tOp (rNeD K) ta tb) σ G M M2 (DD K (.bool (!PyData.eqv (toPy d) (toPy e)))) := ev_op mo_dd ha hb fun x y G0 H s k hx hy Q q =>
  ⟨toPy d, toPy e, dq_dp d p1 (dp_up k.g d hx), dq_dp e p2 (dp_up k.g e hy), shp_of (n := 0) p1 h1 hx, shp_of (n := 0) p2 h2 hy, q _ G0 H (Same.refl _) k (.bl _)⟩
theorem ev_inD (p1 : pur d = true) (p2 : pur (.list ds) = true) (h1 : (toPy d).depth ≤ 64) (h2 : (toPy (.list ds)).depth ≤ 64) (ha : Ev ta σ G M M1 (DD K d)) (hb : Ev tb σ G M1 M2 (DD K (.list ds))) : Ev (tOp (rInD K) ta tb) σ G M M2 (DD K (.bool ((toPys ds).any fun z => PyData.eqv z (toPy d)))) := ev_op mo_dd ha hb fun x y G0 H s k hx hy Q q => by
  have e : toPy (.list ds) = .list (toPys ds) := by unfold toPy; rfl
  have h3 := dq_dp _ p2 (dp_up k.g _ hy)
  have h4 := shp_of (n := 0) p2 h2 hy
  rw [e] at h3 h4
  exact ⟨toPy d, toPys ds, dq_dp d p1 (dp_up k.g d hx), h3, shp_of (n := 0) p1 h1 hx, h4, q _ G0 H (Same.refl _) k (.bl _)⟩
theorem ev_notInD (p1 : pur d = true) (p2 : pur (.list ds) = true) (h1 : (toPy d).depth ≤ 64) (h2 : (toPy (.list ds)).depth ≤ 64) (ha : Ev ta σ G M M1 (DD K d)) (hb : Ev tb σ G M1 M2 (DD K (.list ds))) : Ev (tOp (rNotInD K) ta tb) σ G M M2 (DD K (.bool (!(toPys ds).any fun z => PyData.eqv z (toPy d)))) := ev_op mo_dd ha hb fun x y G0 H s k hx hy Q q => by
  have e : toPy (.list ds) = .list (toPys ds) := by unfold toPy; rfl
  have h3 := dq_dp _ p2 (dp_up k.g _ hy)
  have h4 := shp_of (n := 0) p2 h2 hy
  rw [e] at h3 h4
  exact ⟨toPy d, toPys ds, dq_dp d p1 (dp_up k.g d hx), h3, shp_of (n := 0) p1 h1 hx, h4, q _ G0 H (Same.refl _) k (.bl _)⟩
theorem ev_neg {i : Int} (ha : Ev ta σ G M M1 (DD K (.int i))) : Ev (tUn (rU fun i => .int (-i)) ta) σ G M M1 (DD K (.int (-i))) := fun G0 H s k Q q =>
  ha G0 H s k _ fun x G1 H1 s1 k1 hx => by
    cases hx
    exact ⟨i, rfl, q _ G1 H1 s1 k1 (.int _)⟩
def isND : Dat → Bool
  | .none => true
  | _ => false
theorem ev_isN (ha : Ev ta σ G M M1 (DD K d)) (hb : Ev tb σ G M1 M2 (DD K .none)) : Ev (tOp (fun x y H Q => y = .non ∧ Q (.bl (decide (x = .non))) H) ta tb) σ G M M2 (DD K (.bool (isND d))) := ev_op mo_dd ha hb fun x y G0 H s k hx hy Q q => by
  cases hy
  refine ⟨rfl, q _ G0 H (Same.refl _) k ?_⟩
  cases hx <;> exact .bl _
theorem ev_notN (ha : Ev ta σ G M M1 (DD K d)) (hb : Ev tb σ G M1 M2 (DD K .none)) : Ev (tOp (fun x y H Q => y = .non ∧ Q (.bl (!decide (x = .non))) H) ta tb) σ G M M2 (DD K (.bool (!isND d))) := ev_op mo_dd ha hb fun x y G0 H s k hx hy Q q => by
  cases hy
  refine ⟨rfl, q _ G0 H (Same.refl _) k ?_⟩
  cases hx <;> exact .bl _

/-! ### items and slices -/
theorem dp_list {G : Hp} {v : V} (h : Dq K G v (.list ds)) : ∃ a vs, v = .ref a ∧ G a = some (.lst vs) ∧ DqAll K G vs ds := by
  cases h with | lst a b => exact ⟨_, _, rfl, a, b⟩
theorem dp_tuple {G : Hp} {v : V} (h : Dq K G v (.tuple ds)) : ∃ a vs, v = .ref a ∧ SqT K G a vs ∧ DqAll K G vs ds := by
  cases h with | tup a b => exact ⟨_, _, rfl, a.sq, b⟩
theorem dp_rtup {G : Hp} {v : V} (h : Dq K G v (.rtup ds)) : ∃ a vs, v = .ref a ∧ G a = some (.tup vs) ∧ DqAll K G vs ds := by
  cases h with | rtup a b => exact ⟨_, _, rfl, a, b⟩
theorem atI_of {G : Hp} {vs : List V} {i : Int} (h : DqAll K G vs ds) (ha : atI ds i = some d) : ∃ v, atI vs i = some v ∧ Dq K G v d := by
  unfold atI at ha ⊢
  rw [dpAll_len h]
  cases e : ixN ds.length i with
  | none => rw [e] at ha; cases ha
  | some j =>
    rw [e] at ha
    obtain ⟨v, h1, h2⟩ := dpAll_get h ha
    exact ⟨v, h1, h2⟩
theorem ev_ixL {i : Int} (hi : atI ds i = some d) (ha : Ev ta σ G M M1 (DD K (.list ds))) (hb : Ev tb σ G M1 M2 (DD K (.int i))) : Ev (tOp (rIxL K) ta tb) σ G M M2 (DD K d) := ev_op mo_dd ha hb fun x y G0 H s k hx hy Q q => by
  obtain ⟨a, vs, rfl, h1, h2⟩ := dp_list hx
  cases hy
  obtain ⟨v, h3, h4⟩ := atI_of h2 hi
  exact ⟨a, vs, i, v, rfl, rfl, .inl (.inl (k.g _ _ h1)), h3, q v G0 H (Same.refl _) k h4⟩
theorem ev_ixT {i : Int} (hi : atI ds i = some d) (ha : Ev ta σ G M M1 (DD K (.tuple ds))) (hb : Ev tb σ G M1 M2 (DD K (.int i))) : Ev (tOp (rIxT K) ta tb) σ G M M2 (DD K d) := ev_op mo_dd ha hb fun x y G0 H s k hx hy Q q => by
  obtain ⟨a, vs, rfl, h1, h2⟩ := dp_tuple hx
  cases hy
  obtain ⟨v, h3, h4⟩ := atI_of h2 hi
  exact ⟨a, vs, i, v, rfl, rfl, sqT_up k.g h1, h3, q v G0 H (Same.refl _) k h4⟩
/-- an item of a list of one's own (its values told) -/
theorem ev_ixO {i : Int} {p : Addr} {vs : List V} (ha : Ev ta σ G M M1 (OW p)) (hb : Ev tb σ G M1 M2 (DD K (.int i))) (hp : M2 p = some (.lst vs)) (hv : DqAll K G vs ds) (hi : atI ds i = some d) : Ev (tOp (rIxL K) ta tb) σ G M M2 (DD K d) := ev_op mo_ow ha hb fun x y G0 H s k hx hy Q q => by
  cases hx
  cases hy
  obtain ⟨v, h3, h4⟩ := atI_of hv hi
  exact ⟨p, vs, i, v, rfl, rfl, .inl (.inl (k.m _ _ hp)), h3, q v G0 H (Same.refl _) k (dp_up s d h4)⟩
def cut {α : Type} (xs : List α) (lo hi : Option Int) : List α := (xs.drop (HT.sIx xs.length 0 lo)).take (HT.sIx xs.length xs.length hi - HT.sIx xs.length 0 lo)
theorem cut_of {G : Hp} {vs : List V} {lo hi : Option Int} (h : DqAll K G vs ds) : DqAll K G (cutV vs lo hi) (cut ds lo hi) := by
  unfold cutV cut
  rw [dpAll_len h]
  exact dpAll_take _ (dpAll_drop _ h)
theorem cut_map {α β : Type} {f : α → β} {xs : List α} {lo hi : Option Int} : cut (xs.map f) lo hi = (cut xs lo hi).map f := by
  unfold cut
  rw [List.length_map, ← List.map_drop, ← List.map_take]
theorem eo_none : EvO tNoPart σ G M M none := fun G0 H _ k Q q => q G0 H (Same.refl _) k
theorem eo_some {i : Int} (h : Ev te σ G M M1 (DD K (.int i))) : EvO (tPart te) σ G M M1 (some i) := fun G0 H s k Q q => h G0 H s k _ fun v G1 H1 s1 k1 hv => by
  cases hv
  exact ⟨i, rfl, q G1 H1 s1 k1⟩
theorem el_slL {tl th : TO} {lo hi : Option Int} (h : Ev te σ G M M (DD K (.list ds))) (h1 : EvO tl σ G M M lo) (h2 : EvO th σ G M M hi) : EvL K (tSl (rSlL K) te tl th) σ G M M (cut ds lo hi) := fun G0 H s k Q q =>
  h G0 H s k _ fun x G1 H1 s1 k1 hx => h1 G1 H1 (s.trans s1) k1 _ fun G2 H2 s2 k2 => h2 G2 H2 ((s.trans s1).trans s2) k2 _ fun G3 H3 s3 k3 => by
    obtain ⟨a, vs, rfl, ha, hb⟩ := dp_list hx
    have s13 := s2.trans s3
    exact ⟨a, vs, rfl, .inl (.inl ((s13.trans k3.g) _ _ ha)), newL (s1.trans s13) k3 (dpAll_up s13 _ (cut_of hb)) q⟩
end
end Kx

end

section
set_option maxHeartbeats 2000000
namespace Kx
open PySem L2
section
variable {K : PySem.W.Frag} {σ : St} {G G' M M1 M2 M3 : Hp} {ta tb te tc : TE} {P P1 P2 : VP} {d e : Dat} {ds es : List Dat}
theorem ev_slT {tl th : TO} {lo hi : Option Int} (h : Ev te σ G M M (DD K (.tuple ds))) (h1 : EvO tl σ G M M lo) (h2 : EvO th σ G M M hi) : Ev (tSl (rSlF K) te tl th) σ G M M (DD K (.tuple (cut ds lo hi))) := fun G0 H s k Q q =>
  h G0 H s k _ fun x G1 H1 s1 k1 hx => h1 G1 H1 (s.trans s1) k1 _ fun G2 H2 s2 k2 => h2 G2 H2 ((s.trans s1).trans s2) k2 _ fun G3 H3 s3 k3 => by
    have s13 := s2.trans s3
    have hx3 := dp_up s13 _ hx
    obtain ⟨a, vs, rfl, ha, hb⟩ := dp_tuple hx3
    refine ⟨a, vs, rfl, sqT_up k3.g ha, fun hw => ?_, fun _ => newT (s1.trans s13) k3 (cut_of hb) q⟩
    have e1 : cut ds lo hi = ds := by
      unfold cut
      rw [← dpAll_len hb, hw.1, hw.2, List.drop_zero, Nat.sub_zero, dpAll_len hb, List.take_length]
    rw [e1] at q
    exact q _ G3 H3 (s1.trans s13) k3 hx3
theorem ev_catT (hl : ds.length + es.length ≤ sizeLine) (ha : Ev ta σ G M M1 (DD K (.tuple ds))) (hb : Ev tb σ G M1 M2 (DD K (.tuple es))) : Ev (tOp (rCatF K) ta tb) σ G M M2 (DD K (.tuple (ds ++ es))) := ev_op mo_dd ha hb fun x y G0 H s k hx hy Q q => by
  obtain ⟨a, vs, rfl, ha, hb⟩ := dp_tuple hx
  obtain ⟨b, ws, rfl, hc, hd⟩ := dp_tuple hy
  have l1 := dpAll_len hb
  have l2 := dpAll_len hd
  refine ⟨a, b, vs, ws, rfl, rfl, sqT_up k.g ha, sqT_up k.g hc, by rw [l1, l2]; exact hl, fun z => ?_, fun _ z => ?_, fun _ _ => newT (Same.refl _) k (dpAll_app hb hd) q⟩
  · subst z
    cases hb
    exact q _ G0 H (Same.refl _) k hy
  · subst z
    cases hd
    rw [List.append_nil] at q
    exact q _ G0 H (Same.refl _) k hx
theorem el_cat (hl : ds.length + es.length ≤ sizeLine) (ha : Ev ta σ G M M1 (DD K (.list ds))) (hb : Ev tb σ G M1 M2 (DD K (.list es))) : EvL K (tOp rCat ta tb) σ G M M2 (ds ++ es) := el_op mo_dd ha hb fun x y G0 H s k hx hy Q q => by
  obtain ⟨a, vs, rfl, ha, hb⟩ := dp_list hx
  obtain ⟨b, ws, rfl, hc, hd⟩ := dp_list hy
  exact ⟨a, b, vs, ws, rfl, rfl, k.g _ _ ha, k.g _ _ hc, by rw [dpAll_len hb, dpAll_len hd]; exact hl, newL (Same.refl _) k (dpAll_app hb hd) q⟩
theorem rep_one {α : Type} (x : α) : ∀ n : Nat, (List.replicate n [x]).flatten = List.replicate n x
  | 0 => rfl
  | n + 1 => by
    rw [List.replicate_succ, List.flatten_cons, rep_one x n, List.replicate_succ]
    rfl
/-- [x] * n -/
theorem el_rep1 {n : Int} (h1 : n < 2 ^ 24) (h2 : -(2 ^ 24) ≤ n) (ha : Ev ta σ G M M1 (DD K (.list [d]))) (hb : Ev tb σ G M1 M2 (DD K (.int n))) : EvL K (tOp rRep ta tb) σ G M M2 (List.replicate n.toNat d) := el_op mo_dd ha hb fun x y G0 H s k hx hy Q q => by
  obtain ⟨a, vs, rfl, ha, hb⟩ := dp_list hx
  cases hy
  cases hb with
  | cons hv hn =>
    cases hn
    refine ⟨a, n, _, rfl, rfl, k.g _ _ ha, by omega, by omega, ?_, ?_⟩
    · rw [sizeLine_eq]
      simp
      omega
    · rw [rep_one]
      exact newL (Same.refl _) k (dpAll_rep hv _) q
def rListOf (K : PySem.W.Frag) : List V → Hp → VK → Prop := fun xs H Q => ∃ p ys, xs = [.ref p] ∧ (SqL K H p ys ∨ SqT K H p ys) ∧ ∀ l, H l = none → Q (.ref l) (upd H l (.lst ys))
def rLen (K : PySem.W.Frag) : List V → Hp → VK → Prop := fun xs H Q => ∃ p ys, xs = [.ref p] ∧ (SqL K H p ys ∨ SqT K H p ys) ∧ Q (.int ys.length) H
theorem one_of {R : List V → Hp → Prop} {xs : List V} {G : Hp} (h : conP P nilP xs G) : ∃ v, xs = [v] ∧ P v G := by
  obtain ⟨v, r, rfl, hp, hr⟩ := h
  cases hr
  exact ⟨v, rfl, hp⟩
theorem el_listT (ha : EvA (tCons ta tNil) σ G M M1 (conP (DD K (.tuple ds)) nilP)) : EvL K (tCB (rListOf K) (tCons ta tNil)) σ G M M1 ds := el_cb ha fun xs G0 H s k hx Q q => by
  obtain ⟨v, rfl, hv⟩ := one_of (R := nilP) hx
  obtain ⟨a, vs, rfl, ha, hb⟩ := dp_tuple hv
  exact ⟨a, vs, rfl, .inr (sqT_up k.g ha), newL (Same.refl _) k hb q⟩
theorem el_listL (ha : EvA (tCons ta tNil) σ G M M1 (conP (DD K (.list ds)) nilP)) : EvL K (tCB (rListOf K) (tCons ta tNil)) σ G M M1 ds := el_cb ha fun xs G0 H s k hx Q q => by
  obtain ⟨v, rfl, hv⟩ := one_of (R := nilP) hx
  obtain ⟨a, vs, rfl, ha, hb⟩ := dp_list hv
  exact ⟨a, vs, rfl, .inl (.inl (.inl (k.g _ _ ha))), newL (Same.refl _) k hb q⟩
theorem el_listO {p : Addr} {vs : List V} (hp : M1 p = some (.lst vs)) (hd : DqAll K G vs ds) (ha : EvA (tCons ta tNil) σ G M M1 (conP (OW p) nilP)) : EvL K (tCB (rListOf K) (tCons ta tNil)) σ G M M1 ds := el_cb ha fun xs G0 H s k hx Q q => by
  obtain ⟨v, rfl, hv⟩ := one_of (R := nilP) hx
  cases hv
  exact ⟨p, vs, rfl, .inl (.inl (.inl (k.m _ _ hp))), newL (Same.refl _) k (dpAll_up s _ hd) q⟩
theorem ev_tupL (ha : EvA (tCons ta tNil) σ G M M1 (conP (DD K (.list ds)) nilP)) : Ev (tCB (rTupOf K) (tCons ta tNil)) σ G M M1 (DD K (.tuple ds)) := ev_cb ha fun xs G0 H s k hx Q q => by
  obtain ⟨v, rfl, hv⟩ := one_of (R := nilP) hx
  obtain ⟨a, vs, rfl, ha, hb⟩ := dp_list hv
  exact ⟨a, vs, rfl, .inl ⟨.inl (.inl (k.g _ _ ha)), newT (Same.refl _) k hb q⟩⟩
theorem ev_tupT (ha : EvA (tCons ta tNil) σ G M M1 (conP (DD K (.tuple ds)) nilP)) : Ev (tCB (rTupOf K) (tCons ta tNil)) σ G M M1 (DD K (.tuple ds)) := ev_cb ha fun xs G0 H s k hx Q q => by
  obtain ⟨v, rfl, hv⟩ := one_of (R := nilP) hx
  obtain ⟨a, vs, rfl, ha, hb⟩ := dp_tuple hv
  exact ⟨a, vs, rfl, .inr ⟨sqT_up k.g ha, q _ G0 H (Same.refl _) k hv⟩⟩
theorem ev_tupO {p : Addr} {vs : List V} (hp : M1 p = some (.lst vs)) (hd : DqAll K G vs ds) (ha : EvA (tCons ta tNil) σ G M M1 (conP (OW p) nilP)) : Ev (tCB (rTupOf K) (tCons ta tNil)) σ G M M1 (DD K (.tuple ds)) := ev_cb ha fun xs G0 H s k hx Q q => by
  obtain ⟨v, rfl, hv⟩ := one_of (R := nilP) hx
  cases hv
  exact ⟨p, vs, rfl, .inl ⟨.inl (.inl (k.m _ _ hp)), newT (Same.refl _) k (dpAll_up s _ hd) q⟩⟩
theorem ev_lenL (ha : EvA (tCons ta tNil) σ G M M1 (conP (DD K (.list ds)) nilP)) : Ev (tCB (rLen K) (tCons ta tNil)) σ G M M1 (DD K (.int (ds.length : Int))) := ev_cb ha fun xs G0 H s k hx Q q => by
  obtain ⟨v, rfl, hv⟩ := one_of (R := nilP) hx
  obtain ⟨a, vs, rfl, ha, hb⟩ := dp_list hv
  refine ⟨a, vs, rfl, .inl (.inl (.inl (k.g _ _ ha))), q _ G0 H (Same.refl _) k ?_⟩
  rw [dpAll_len hb]
  exact .int _
theorem ev_lenT (ha : EvA (tCons ta tNil) σ G M M1 (conP (DD K (.tuple ds)) nilP)) : Ev (tCB (rLen K) (tCons ta tNil)) σ G M M1 (DD K (.int (ds.length : Int))) := ev_cb ha fun xs G0 H s k hx Q q => by
  obtain ⟨v, rfl, hv⟩ := one_of (R := nilP) hx
  obtain ⟨a, vs, rfl, ha, hb⟩ := dp_tuple hv
  refine ⟨a, vs, rfl, .inr (sqT_up k.g ha), q _ G0 H (Same.refl _) k ?_⟩
  rw [dpAll_len hb]
  exact .int _
theorem ev_lenO {p : Addr} {vs : List V} (hp : M1 p = some (.lst vs)) (hd : DqAll K G vs ds) (ha : EvA (tCons ta tNil) σ G M M1 (conP (OW p) nilP)) : Ev (tCB (rLen K) (tCons ta tNil)) σ G M M1 (DD K (.int (ds.length : Int))) := ev_cb ha fun xs G0 H s k hx Q q => by
  obtain ⟨v, rfl, hv⟩ := one_of (R := nilP) hx
  cases hv
  refine ⟨p, vs, rfl, .inl (.inl (.inl (k.m _ _ hp))), q _ G0 H (Same.refl _) k ?_⟩
  rw [dpAll_len hd]
  exact .int _
theorem ev_sumL {ns : List Int} (ha : EvA (tCons ta tNil) σ G M M1 (conP (DD K (.list (ns.map Dat.int))) nilP)) : Ev (tCB (rSum K) (tCons ta tNil)) σ G M M1 (DD K (.int ns.sum)) := ev_cb ha fun xs G0 H s k hx Q q => by
  obtain ⟨v, rfl, hv⟩ := one_of (R := nilP) hx
  obtain ⟨a, vs, rfl, ha, hb⟩ := dp_list hv
  rw [dpAll_ints hb] at ha
  exact ⟨a, ns, rfl, .inl (.inl (k.g _ _ ha)), q _ G0 H (Same.refl _) k (.int _)⟩
theorem ev_anyL {bs : List Bool} (ha : EvA (tCons ta tNil) σ G M M1 (conP (DD K (.list (bs.map Dat.bool))) nilP)) : Ev (tCB (rAny K) (tCons ta tNil)) σ G M M1 (DD K (.bool (bs.any id))) := ev_cb ha fun xs G0 H s k hx Q q => by
  obtain ⟨v, rfl, hv⟩ := one_of (R := nilP) hx
  obtain ⟨a, vs, rfl, ha, hb⟩ := dp_list hv
  rw [dpAll_bls hb] at ha
  exact ⟨a, bs, rfl, .inl (.inl (k.g _ _ ha)), q _ G0 H (Same.refl _) k (.bl _)⟩
theorem ev_allL {bs : List Bool} (ha : EvA (tCons ta tNil) σ G M M1 (conP (DD K (.list (bs.map Dat.bool))) nilP)) : Ev (tCB (rAll K) (tCons ta tNil)) σ G M M1 (DD K (.bool (bs.all id))) := ev_cb ha fun xs G0 H s k hx Q q => by
  obtain ⟨v, rfl, hv⟩ := one_of (R := nilP) hx
  obtain ⟨a, vs, rfl, ha, hb⟩ := dp_list hv
  rw [dpAll_bls hb] at ha
  exact ⟨a, bs, rfl, .inl (.inl (k.g _ _ ha)), q _ G0 H (Same.refl _) k (.bl _)⟩
def rInt1 : List V → Hp → VK → Prop := fun xs H Q => (∃ i, xs = [.int i] ∧ Q (.int i) H) ∨ ∃ k, xs = [.bl k] ∧ Q (.int (if k then 1 else 0)) H
theorem ev_intB {b : Bool} (ha : EvA (tCons ta tNil) σ G M M1 (conP (DD K (.bool b)) nilP)) : Ev (tCB rInt1 (tCons ta tNil)) σ G M M1 (DD K (.int (if b then 1 else 0))) := ev_cb ha fun xs G0 H s k hx Q q => by
  obtain ⟨v, rfl, hv⟩ := one_of (R := nilP) hx
  cases hv
  exact .inr ⟨b, rfl, q _ G0 H (Same.refl _) k (.int _)⟩
def rAbs : List V → Hp → VK → Prop := fun xs H Q => ∃ i, xs = [.int i] ∧ Q (.int (if i < 0 then -i else i)) H
theorem ev_abs {i : Int} (ha : EvA (tCons ta tNil) σ G M M1 (conP (DD K (.int i)) nilP)) : Ev (tCB rAbs (tCons ta tNil)) σ G M M1 (DD K (.int (if i < 0 then -i else i))) := ev_cb ha fun xs G0 H s k hx Q q => by
  obtain ⟨v, rfl, hv⟩ := one_of (R := nilP) hx
  cases hv
  exact ⟨i, rfl, q _ G0 H (Same.refl _) k (.int _)⟩
def rMaxI : List V → Hp → VK → Prop := fun xs H Q => ∃ i j, xs = [.int i, .int j] ∧ Q (.int (if j > i then j else i)) H
def rMinI : List V → Hp → VK → Prop := fun xs H Q => ∃ i j, xs = [.int i, .int j] ∧ Q (.int (if j < i then j else i)) H
theorem two_of {xs : List V} {G : Hp} (h : conP P (conP P1 nilP) xs G) : ∃ v w, xs = [v, w] ∧ P v G ∧ P1 w G := by
  obtain ⟨v, r, rfl, hp, hr⟩ := h
  obtain ⟨w, r, rfl, hq, hr⟩ := hr
  cases hr
  exact ⟨v, w, rfl, hp, hq⟩
theorem ev_max2 {i j : Int} (ha : EvA (tCons ta (tCons tb tNil)) σ G M M1 (conP (DD K (.int i)) (conP (DD K (.int j)) nilP))) : Ev (tCB rMaxI (tCons ta (tCons tb tNil))) σ G M M1 (DD K (.int (if j > i then j else i))) := ev_cb ha fun xs G0 H s k hx Q q => by
  obtain ⟨v, w, rfl, hv, hw⟩ := two_of hx
  cases hv; cases hw
  exact ⟨i, j, rfl, q _ G0 H (Same.refl _) k (.int _)⟩
theorem ev_min2 {i j : Int} (ha : EvA (tCons ta (tCons tb tNil)) σ G M M1 (conP (DD K (.int i)) (conP (DD K (.int j)) nilP))) : Ev (tCB rMinI (tCons ta (tCons tb tNil))) σ G M M1 (DD K (.int (if j < i then j else i))) := ev_cb ha fun xs G0 H s k hx Q q => by
  obtain ⟨v, w, rfl, hv, hw⟩ := two_of hx
  cases hv; cases hw
  exact ⟨i, j, rfl, q _ G0 H (Same.refl _) k (.int _)⟩
def rDivmod : List V → Hp → VK → Prop := fun xs H Q => ∃ i j, xs = [.int i, .int j] ∧ CDivW i j ∧ ∀ p, H p = none → Q (.ref p) (upd H p (.tup [.int (i / j), .int (i % j)]))
theorem ev_divmod {i j : Int} (hc : CDivW i j) (ha : EvA (tCons ta (tCons tb tNil)) σ G M M1 (conP (DD K (.int i)) (conP (DD K (.int j)) nilP))) : Ev (tCB rDivmod (tCons ta (tCons tb tNil))) σ G M M1 (DD K (.rtup [.int (i / j), .int (i % j)])) := ev_cb ha fun xs G0 H s k hx Q q => by
  obtain ⟨v, w, rfl, hv, hw⟩ := two_of hx
  cases hv; cases hw
  exact ⟨i, j, rfl, hc, newR (Same.refl _) k (.cons (.int _) (.cons (.int _) .nil)) q⟩

/-! ### isinstance -/
def tyD : Dat → String
  | .none => "NoneType"
  | .bool _ => "bool"
  | .int _ => "int"
  | .str _ => "str"
  | .list _ => "list"
  | .tuple _ => "tuple"
  | .rtup _ => "tuple"
  | .dK _ _ => "dict"
  | .dT _ _ => "dict"
  | .ins _ _ _ => "object"
def isIns : Dat → Bool
  | .ins _ _ _ => true
  | .dT _ _ => true
  | _ => false
/-- what the library asks of an own class -/
structure ClsOk (K : PySem.W.Frag) (C : Addr) : Prop where
  cl : Cls K C
  ha : PySem.W.findIn K (.ref C) "__class__" = some (some (.builtin "object.__class__"))
  hn : PySem.W.specialIn K (.builtin "object.__class__") "__get__" = some (some (.builtin "getset_descriptor.__get__"))
  htk : PySem.W.takesIn K (.builtin "object.__class__") = some true
  hm : PySem.W.mroIn K C (.type "object") = some true
/-- the classes of the instances in d are known -/
def tyV (K : PySem.W.Frag) : Dat → Value
  | .ins C _ _ => .ref (clsAt K C)
  | d => .type (tyD d)
theorem tyx_of {H : Hp} {v : V} (s : Same G H) (hc : ∀ C ns xs, d = .ins C ns xs → ClsOk K (clsAt K C)) (hT : ∀ ks xs, d ≠ .dT ks xs) (h : Dq K G v d) : TyX K H v (tyV K d) := by
  cases h with
  | non => exact .base .non
  | bl b => exact .base (.bl b)
  | int i => exact .base (.int i)
  | str x => exact .base (.str _)
  | lst a b => exact .base (.lst (s _ _ a))
  | tup a b =>
    rcases a with ⟨o, a, _⟩ | ⟨o, its, n, h1, h2, _⟩
    · exact .fTuple (s _ _ a)
    · exact .kTuple h1 h2
  | rtup a b => exact .base (.tup (s _ _ a))
  | dK a _ _ _ =>
    rcases a with a | ⟨o, a⟩
    · exact .base (.dK (s _ _ a))
    · exact .fDict (s _ _ a)
  | dT a _ _ _ => exact absurd rfl (hT _ _)
  | ins a b c =>
    have q := hc _ _ _ rfl
    exact .base (.ins (s _ _ a) q.cl q.ha q.hn q.htk q.hm)
theorem tyV_of (h : isIns d = false) : tyV K d = .type (tyD d) := by
  cases d <;> first | rfl | cases h
theorem noDT (h : isIns d = false) : ∀ ks xs, d ≠ .dT ks xs := fun ks xs e => by subst e; cases h
theorem noIns (h : isIns d = false) : ∀ C ns xs, d = .ins C ns xs → ClsOk K (clsAt K C) := fun C ns xs e => by subst e; cases h
/-- a class's name among the arguments -/
abbrev CLS (n : String) : VP := fun v _ => v = .ty n
theorem mo_cls {n : String} : Mo (CLS n) := fun _ _ _ _ h => h
theorem ev_cls {n : String} : Ev (tC (.ty n)) σ G M M (CLS n) := fun G0 H _ k Q q => q _ G0 H (Same.refl _) k rfl
theorem ev_isi {n : String} {b : Bool} (hi : isIns d = false) (hb : kitB (tyD d) n = some b) (ha : EvA (tCons ta (tCons tb tNil)) σ G M M1 (conP (DD K d) (conP (CLS n) nilP))) : Ev (tCB (rIsi K) (tCons ta (tCons tb tNil))) σ G M M1 (DD K (.bool b)) := ev_cb ha fun xs G0 H s k hx Q q => by
  obtain ⟨v, w, rfl, hv, hw⟩ := two_of hx
  cases hw
  exact ⟨v, _, _, _, b, rfl, .ty n, tyV_of hi ▸ tyx_of k.g (noIns hi) (noDT hi) hv, kit_ty hb, q _ G0 H (Same.refl _) k (.bl _)⟩

/-! ### truth -/
theorem et_B {b : Bool} (h : Ev te σ G M M1 (DD K (.bool b))) : EvT (tB te) σ G M M1 b := fun G0 H s k Q q => h G0 H s k _ fun v G1 H1 s1 k1 hv => by
  cases hv
  exact ⟨b, rfl, q G1 H1 s1 k1⟩
theorem et_test {b : Bool} (h : Ev te σ G M M1 (DD K (.bool b))) : EvT (tTest te) σ G M M1 b := fun G0 H s k Q q => h G0 H s k _ fun v G1 H1 s1 k1 hv => by
  cases hv
  exact ⟨b, rfl, q G1 H1 s1 k1⟩
theorem et_not {t : TT} {b : Bool} (h : EvT t σ G M M1 b) : EvT (tNot t) σ G M M1 (!b) := fun G0 H s k Q q => h G0 H s k _ fun G1 H1 s1 k1 => q G1 H1 s1 k1
theorem et_andG {t u : TT} {a c : Bool} (h : EvT t σ G M M1 a) (h1 : a = true → EvT u σ G M1 M2 c) (h2 : a = false → c = false ∧ M2 = M1) : EvT (tAnd t u) σ G M M2 c := fun G0 H s k Q q => h G0 H s k _ fun G1 H1 s1 k1 => by
  cases a with
  | true => exact iteT (h1 rfl G1 H1 (s.trans s1) k1 Q fun G2 H2 s2 k2 => q G2 H2 (s1.trans s2) k2)
  | false =>
    obtain ⟨rfl, rfl⟩ := h2 rfl
    exact iteF (q G1 H1 s1 k1)
theorem et_orG {t u : TT} {a c : Bool} (h : EvT t σ G M M1 a) (h1 : a = false → EvT u σ G M1 M2 c) (h2 : a = true → c = true ∧ M2 = M1) : EvT (tOr t u) σ G M M2 c := fun G0 H s k Q q => h G0 H s k _ fun G1 H1 s1 k1 => by
  cases a with
  | false => exact iteF (h1 rfl G1 H1 (s.trans s1) k1 Q fun G2 H2 s2 k2 => q G2 H2 (s1.trans s2) k2)
  | true =>
    obtain ⟨rfl, rfl⟩ := h2 rfl
    exact iteT (q G1 H1 s1 k1)
theorem et_and {t u : TT} {a b : Bool} (h : EvT t σ G M M1 a) (h1 : a = true → EvT u σ G M1 M1 b) : EvT (tAnd t u) σ G M M1 (a && b) := et_andG h (fun e => by rw [e]; exact h1 e) fun e => by rw [e]; exact ⟨rfl, rfl⟩
theorem et_or {t u : TT} {a b : Bool} (h : EvT t σ G M M1 a) (h1 : a = false → EvT u σ G M1 M1 b) : EvT (tOr t u) σ G M M1 (a || b) := et_orG h (fun e => by rw [e]; exact h1 e) fun e => by rw [e]; exact ⟨rfl, rfl⟩
theorem ev_andG {a c : Bool} (h : Ev ta σ G M M1 (DD K (.bool a))) (h1 : a = true → Ev tb σ G M1 M2 (DD K (.bool c))) (h2 : a = false → c = false ∧ M2 = M1) : Ev (tAndV ta tb) σ G M M2 (DD K (.bool c)) := fun G0 H s k Q q => h G0 H s k _ fun v G1 H1 s1 k1 hv => by
  cases hv
  refine ⟨a, rfl, ?_⟩
  cases a with
  | true => exact iteT (h1 rfl G1 H1 (s.trans s1) k1 Q fun v G2 H2 s2 k2 => q v G2 H2 (s1.trans s2) k2)
  | false =>
    obtain ⟨rfl, rfl⟩ := h2 rfl
    exact iteF (q _ G1 H1 s1 k1 (.bl _))
theorem ev_orG {a c : Bool} (h : Ev ta σ G M M1 (DD K (.bool a))) (h1 : a = false → Ev tb σ G M1 M2 (DD K (.bool c))) (h2 : a = true → c = true ∧ M2 = M1) : Ev (tOrV ta tb) σ G M M2 (DD K (.bool c)) := fun G0 H s k Q q => h G0 H s k _ fun v G1 H1 s1 k1 hv => by
  cases hv
  refine ⟨a, rfl, ?_⟩
  cases a with
  | false => exact iteF (h1 rfl G1 H1 (s.trans s1) k1 Q fun v G2 H2 s2 k2 => q v G2 H2 (s1.trans s2) k2)
  | true =>
    obtain ⟨rfl, rfl⟩ := h2 rfl
    exact iteT (q _ G1 H1 s1 k1 (.bl _))
theorem ev_and {a b : Bool} (h : Ev ta σ G M M1 (DD K (.bool a))) (h1 : a = true → Ev tb σ G M1 M1 (DD K (.bool b))) : Ev (tAndV ta tb) σ G M M1 (DD K (.bool (a && b))) := ev_andG h (fun e => by rw [e]; exact h1 e) fun e => by rw [e]; exact ⟨rfl, rfl⟩
theorem ev_or {a b : Bool} (h : Ev ta σ G M M1 (DD K (.bool a))) (h1 : a = false → Ev tb σ G M1 M1 (DD K (.bool b))) : Ev (tOrV ta tb) σ G M M1 (DD K (.bool (a || b))) := ev_orG h (fun e => by rw [e]; exact h1 e) fun e => by rw [e]; exact ⟨rfl, rfl⟩
theorem ev_not {a : Bool} (h : Ev ta σ G M M1 (DD K (.bool a))) : Ev (tNotV ta) σ G M M1 (DD K (.bool (!a))) := fun G0 H s k Q q => h G0 H s k _ fun v G1 H1 s1 k1 hv => by
  cases hv
  exact ⟨a, rfl, q _ G1 H1 s1 k1 (.bl _)⟩
theorem ev_if {t : TT} {b : Bool} (h : EvT t σ G M M1 b) (h1 : b = true → Ev ta σ G M1 M2 P) (h2 : b = false → Ev tb σ G M1 M2 P) : Ev (tIf t ta tb) σ G M M2 P := fun G0 H s k Q q => h G0 H s k _ fun G1 H1 s1 k1 => by
  cases b with
  | true => exact iteT (h1 rfl G1 H1 (s.trans s1) k1 Q fun v G2 H2 s2 k2 => q v G2 H2 (s1.trans s2) k2)
  | false => exact iteF (h2 rfl G1 H1 (s.trans s1) k1 Q fun v G2 H2 s2 k2 => q v G2 H2 (s1.trans s2) k2)
/-- a <= b <= c of whole numbers, and its kin -/
theorem ev_chainI {g g' : Int → Int → Bool} {i j l : Int} (ha : Ev ta σ G M M1 (DD K (.int i))) (hb : Ev tb σ G M1 M2 (DD K (.int j))) (hc : Ev tc σ G M2 M2 (DD K (.int l))) :
    Ev (tChain (rI0 fun i j => .bl (g i j)) (rI0 fun i j => .bl (g' i j)) ta tb tc) σ G M M2 (DD K (.bool (g i j && g' j l))) := fun G0 H s k Q q =>
  ha G0 H s k _ fun x G1 H1 s1 k1 hx => hb G1 H1 (s.trans s1) k1 _ fun y G2 H2 s2 k2 hy => by
    cases hx; cases hy
    refine ⟨i, j, rfl, rfl, g i j, rfl, ?_⟩
    cases e : g i j with
    | true =>
      refine iteT (hc G2 H2 ((s.trans s1).trans s2) k2 _ fun z G3 H3 s3 k3 hz => ?_)
      cases hz
      refine ⟨j, l, rfl, rfl, ?_⟩
      rw [e] at q
      exact q _ G3 H3 ((s1.trans s2).trans s3) k3 (.bl _)
    | false =>
      rw [e] at q
      exact iteF (q _ G2 H2 (s1.trans s2) k2 (.bl _))

/-! ### calls -/
/-- the promise of a def that leaves all as it is: m tells its value -/
def spP {α ρ : Type} (args : α → List V → Hp → Prop) (m : α → Option ρ) (res : ρ → VP) : Sp := fun vs H Q _ =>
  ∃ (G M : Hp) (a : α) (r : ρ), Ok G M H ∧ args a vs G ∧ m a = some r ∧ ∀ v G' H', Same G G' → Ok G' M H' → res r v G' → Q v H'
/-- the store of the draws -/
abbrev Sto := Int × Int × Int
def sto (z : Sto) : HO := .lst [.int z.1, .int z.2.1, .int z.2.2]
/-- the promise of a def that draws from the store -/
def spD {α ρ : Type} (args : α → List V → Hp → Prop) (m : α → Sto → Option (ρ × Sto)) (res : ρ → VP) : Sp := fun vs H Q _ =>
  ∃ (G M : Hp) (s : Addr) (z z' : Sto) (a : α) (r : ρ) (ws : List V), vs = .ref s :: ws ∧ Ok G M H ∧ M s = some (sto z) ∧ args a ws G ∧ m a z = some (r, z') ∧ ∀ v G' H', Same G G' → Ok G' (upd M s (sto z')) H' → res r v G' → Q v H'
theorem ev_callP {α ρ : Type} {args : α → List V → Hp → Prop} {m : α → Option ρ} {res : ρ → VP} {E : XK} {t : TA} {a : α} {r : ρ} (hm : m a = some r) (ha : EvA t σ G M M1 (args a)) : Ev (tCall (spP args m res) [] E t) σ G M M1 (res r) := fun G0 H s k Q q =>
  ha G0 H s k _ fun vs G1 H1 s1 k1 hv => by
    rw [List.append_nil]
    exact ⟨G1, M1, a, r, k1, hv, hm, fun v G2 H2 s2 k2 hr => q v G2 H2 (s1.trans s2) k2 hr⟩
theorem ev_callD {α ρ : Type} {args : α → List V → Hp → Prop} {m : α → Sto → Option (ρ × Sto)} {res : ρ → VP} {E : XK} {t : TA} {a : α} {r : ρ} {s : Addr} {z z' : Sto} (hs : M1 s = some (sto z)) (hm : m a z = some (r, z')) (ha : EvA t σ G M M1 (conP (OW s) (args a))) : Ev (tCall (spD args m res) [] E t) σ G M (upd M1 s (sto z')) (res r) := fun G0 H s k Q q =>
  ha G0 H s k _ fun vs G1 H1 s1 k1 hv => by
    obtain ⟨v, ws, rfl, rfl, hw⟩ := hv
    rw [List.append_nil]
    exact ⟨G1, M1, _, z, z', a, r, ws, rfl, k1, hs, hw, hm, fun v G2 H2 s2 k2 hr => q v G2 H2 (s1.trans s2) k2 hr⟩

end
end Kx

end

section
set_option maxHeartbeats 2000000
namespace Kx
open PySem L2
/-! ### the rules under these names -/
section
variable {X : Cx}
theorem cl_len : CallR X (.builtin "len") (rLen X.K) := call_len_seq
theorem cl_list : CallR X (.type "list") (rListOf X.K) := call_list_of
theorem cl_tuple : CallR X (.type "tuple") (rTupOf X.K) := cl_tupleF
theorem cl_int : CallR X (.type "int") rInt1 := call_int1
theorem cl_abs : CallR X (.builtin "abs") rAbs := call_abs
theorem cl_max2 (h : X.calm = true) : CallR X (.builtin "max") rMaxI := call_max2 h
theorem cl_min2 (h : X.calm = true) : CallR X (.builtin "min") rMinI := call_min2 h
theorem cl_divmod : CallR X (.builtin "divmod") rDivmod := fun pins s σ H xs us Q I r h => by
  obtain ⟨i, j, rfl, hc, q⟩ := h
  exact call_divmodW pins s σ H _ us Q I r ⟨i, j, rfl, ⟨hc.1, PyProof.noPylong_of_log2 hc.2⟩, q⟩
end
section
variable {K : PySem.W.Frag} {σ : St} {G G' M M1 M2 M3 : Hp} {ta tb te tc : TE} {P P1 P2 : VP} {d e : Dat} {ds es : List Dat}
/-! ### what is walked -/
def Walks (K : PySem.W.Frag) (J : It) (G : Hp) (ds : List Dat) : Prop :=
  ∃ (Y : Nat → Hp → V → Hp → Prop) (Gd : Hp → Prop), Walk J ds.length Gd Y ∧ (∀ H, Same G H → Gd H) ∧
    ∀ i d H x H' G2 M2, ds[i]? = some d → Same G G2 → Ok G2 M2 H → Y i H x H' → ∃ G3, Same G2 G3 ∧ Ok G3 M2 H' ∧ Dq K G3 x d
def Src (K : PySem.W.Frag) (wi : TI) (σ : St) (G M M' : Hp) (ds : List Dat) : Prop :=
  ∀ G0 H, Same G G0 → Ok G0 M H → ∀ R : It → Hp → Prop, (∀ J G' H', Same G0 G' → Ok G' M' H' → Walks K J G' ds → R J H') → wi σ H R
theorem dqAll_at {vs : List V} {i : Nat} {x : V} (h : DqAll K G vs ds) (hx : vs[i]? = some x) (hd : ds[i]? = some d) : Dq K G x d := by
  obtain ⟨v, h1, h2⟩ := dpAll_get h hd
  rw [hx] at h1
  cases h1
  exact h2
theorem src_list (h : Ev ta σ G M M1 (DD K (.list ds))) : Src K (iList K ta) σ G M M1 ds := fun G0 H s k R q =>
  h G0 H s k _ fun v G1 H1 s1 k1 hv => by
    obtain ⟨a, vs, rfl, h1, h2⟩ := dp_list hv
    refine ⟨a, rfl, ⟨vs, .inl (.inl (k1.g _ _ h1))⟩, q _ G1 H1 s1 k1 ?_⟩
    refine ⟨_, _, (dpAll_len h2) ▸ (walk_list (K := K) (a := a) (xs := vs)), fun H s => .inl (.inl (s _ _ h1)), fun i d H x H' G2 M2 hd s2 k2 y => ?_⟩
    obtain ⟨rfl, hx⟩ := y
    exact ⟨G2, Same.refl _, k2, dp_up s2 _ (dqAll_at h2 hx hd)⟩
theorem src_tup (h : Ev ta σ G M M1 (DD K (.tuple ds))) : Src K (iTup K ta) σ G M M1 ds := fun G0 H s k R q =>
  h G0 H s k _ fun v G1 H1 s1 k1 hv => by
    obtain ⟨a, vs, rfl, h1, h2⟩ := dp_tuple hv
    refine ⟨a, rfl, ⟨vs, sqT_up k1.g h1⟩, q _ G1 H1 s1 k1 ?_⟩
    refine ⟨_, _, (dpAll_len h2) ▸ (walk_tup (K := K) (a := a) (xs := vs)), fun H s => sqT_up s h1, fun i d H x H' G2 M2 hd s2 k2 y => ?_⟩
    obtain ⟨rfl, hx⟩ := y
    exact ⟨G2, Same.refl _, k2, dp_up s2 _ (dqAll_at h2 hx hd)⟩
/-- lo, lo + 1, .. below hi -/
def irange (lo hi : Int) : List Int := (List.range (hi - lo).toNat).map fun k : Nat => lo + (k : Int)
theorem irange_len (lo hi : Int) : (irange lo hi).length = (hi - lo).toNat := by
  unfold irange
  rw [List.length_map, List.length_range]
theorem irange_get {lo hi : Int} {i : Nat} (h : i < (hi - lo).toNat) : (irange lo hi)[i]? = some (lo + (i : Int)) := by
  unfold irange
  rw [List.getElem?_map, List.getElem?_range h]
  rfl
theorem walks_range {lo hi : Int} {n : Nat} (e : n = (hi - lo).toNat) : Walks K (Itr lo n) G ((irange lo hi).map Dat.int) := by
  have el : ((irange lo hi).map Dat.int).length = n := by rw [List.length_map, irange_len, e]
  refine ⟨YFn fun i => .int (lo + i), fun _ => True, (by rw [el]; exact walk_range), fun H _ => True.intro, fun i d H x H' G2 M2 hd s2 k2 y => ?_⟩
  obtain ⟨rfl, rfl⟩ := y
  have hi : i < (hi - lo).toNat := by
    rw [← e, ← el]
    exact (List.getElem?_eq_some_iff.mp hd).1
  rw [List.getElem?_map, irange_get hi] at hd
  cases hd
  exact ⟨G2, Same.refl _, k2, .int _⟩
theorem src_range1 {ta : TA} {n : Int} (h1 : -(2 ^ 62) ≤ n) (h2 : n < 2 ^ 62) (h : EvA ta σ G M M1 (conP (DD K (.int n)) nilP)) : Src K (iRng1 ta) σ G M M1 ((irange 0 n).map Dat.int) := fun G0 H s k R q =>
  h G0 H s k _ fun vs G1 H1 s1 k1 hv => by
    obtain ⟨v, rfl, hw⟩ := one_of (R := nilP) hv
    cases hw
    exact ⟨n, rfl, h1, h2, q _ G1 H1 s1 k1 (walks_range (by rw [Int.sub_zero]))⟩
theorem src_range2 {ta : TA} {m n : Int} (h1 : -(2 ^ 62) ≤ m) (h2 : m < 2 ^ 62) (h3 : -(2 ^ 62) ≤ n) (h4 : n < 2 ^ 62) (h : EvA ta σ G M M1 (conP (DD K (.int m)) (conP (DD K (.int n)) nilP))) : Src K (iRng2 ta) σ G M M1 ((irange m n).map Dat.int) := fun G0 H s k R q =>
  h G0 H s k _ fun vs G1 H1 s1 k1 hv => by
    obtain ⟨v, w, rfl, hv1, hw1⟩ := two_of hv
    cases hv1; cases hw1
    exact ⟨m, n, rfl, ⟨h1, h2, h3, h4⟩, q _ G1 H1 s1 k1 (walks_range rfl)⟩
theorem sok_sign {z : Str} {c : Nat} (h : sok z = true) (hc : c ∈ z.cps.toList) : sok ⟨#[c]⟩ = true := by
  unfold sok PyData.strOk at h ⊢
  rw [Array.all_eq_true'] at h
  simp only [List.all_toArray, List.all_cons, List.all_nil, Bool.and_true, decide_eq_true_eq]
  have := h c (by simpa using hc)
  simpa using this
theorem src_str {z : Str} (h : Ev ta σ G M M1 (DD K (.str z))) : Src K (iStr ta) σ G M M1 (z.cps.toList.map fun c => Dat.str ⟨#[c]⟩) := fun G0 H s k R q =>
  h G0 H s k _ fun v G1 H1 s1 k1 hv => by
    have hs : sok z = true := by
      cases hv with
      | str h => exact h
    cases hv
    refine ⟨z, rfl, q _ G1 H1 s1 k1 ?_⟩
    have el : (z.cps.toList.map fun c => Dat.str ⟨#[c]⟩).length = z.cps.size := by simp
    refine ⟨_, _, el ▸ walk_str, fun H _ => True.intro, fun i d H x H' G2 M2 hd s2 k2 y => ?_⟩
    obtain ⟨rfl, c, hc, rfl⟩ := y
    have e1 : (z.cps.toList)[i]? = some c := by simpa using hc
    rw [List.getElem?_map, e1] at hd
    cases hd
    exact ⟨G2, Same.refl _, k2, .str (sok_sign hs (List.mem_of_getElem? e1))⟩
theorem walks_pair {J : It} {n : Nat} {xs ys : Nat → Option V} {Gd : Hp → Prop} (w : Walk J n Gd (YPair xs ys)) (hn : ds.length = n) (hG : ∀ H, Same G H → Gd H)
    (hd : ∀ (i : Nat) (d : Dat) (x y : V), ds[i]? = some d → xs i = some x → ys i = some y → ∃ d1 d2, d = .rtup [d1, d2] ∧ Dq K G x d1 ∧ Dq K G y d2) : Walks K J G ds := by
  refine ⟨_, _, hn ▸ w, hG, fun i d H x H' G2 M2 hi s2 k2 y => ?_⟩
  obtain ⟨T, x, y, rfl, hT, rfl, hx, hy⟩ := y
  obtain ⟨d1, d2, rfl, h1, h2⟩ := hd i d x y hi hx hy
  have gT := Same.none k2.g hT
  have s3 : Same G2 (upd G2 T (.tup [x, y])) := Same.new gT
  exact ⟨upd G2 T (.tup [x, y]), s3, k2.newG _ hT, .rtup upd_same (.cons (dp_up (s2.trans s3) _ h1) (.cons (dp_up (s2.trans s3) _ h2) .nil))⟩
def enumD (ds : List Dat) : List Dat := ds.mapIdx fun i d => .rtup [.int (i : Int), d]
theorem src_enumL {ta : TA} (h : EvA ta σ G M M1 (conP (DD K (.list ds)) nilP)) : Src K (iEnum K ta) σ G M M1 (enumD ds) := fun G0 H s k R q =>
  h G0 H s k _ fun vs G1 H1 s1 k1 hv => by
    obtain ⟨v, rfl, hw⟩ := one_of (R := nilP) hv
    obtain ⟨a, vs, rfl, h1, h2⟩ := dp_list hw
    refine ⟨a, vs, rfl, .inl (.inl (k1.g _ _ h1)), q _ G1 H1 s1 k1 ?_⟩
    refine walks_pair (walk_enum (K := K) (a := a) (xs := vs)) (by simp [enumD, dpAll_len h2]) (fun H s => .inl (.inl (s _ _ h1))) fun i d x y hd hx hy => ?_
    cases hx
    unfold enumD at hd
    rw [List.getElem?_mapIdx] at hd
    cases e : ds[i]? with
    | none => rw [e] at hd; cases hd
    | some d' =>
      rw [e] at hd
      cases hd
      exact ⟨_, _, rfl, .int _, dqAll_at h2 hy e⟩
def zipD (ds es : List Dat) : List Dat := List.zipWith (fun a b => .rtup [a, b]) ds es
theorem zipD_get {i : Nat} {p : Dat} (h : (zipD ds es)[i]? = some p) : ∃ a b, p = .rtup [a, b] ∧ ds[i]? = some a ∧ es[i]? = some b := by
  unfold zipD at h
  rw [List.getElem?_zipWith] at h
  cases e1 : ds[i]? with
  | none => rw [e1] at h; cases h
  | some a =>
    cases e2 : es[i]? with
    | none => rw [e1, e2] at h; cases h
    | some b =>
      rw [e1, e2] at h
      cases h
      exact ⟨a, b, rfl, rfl, rfl⟩
theorem src_zipL {ta : TA} (h : EvA ta σ G M M1 (conP (DD K (.list ds)) (conP (DD K (.list es)) nilP))) : Src K (iZip K ta) σ G M M1 (zipD ds es) := fun G0 H s k R q =>
  h G0 H s k _ fun vs G1 H1 s1 k1 hv => by
    obtain ⟨v, w, rfl, hv1, hw1⟩ := two_of hv
    obtain ⟨a, vs, rfl, h1, h2⟩ := dp_list hv1
    obtain ⟨b, ws, rfl, h3, h4⟩ := dp_list hw1
    refine ⟨a, b, vs, ws, rfl, .inl (.inl (k1.g _ _ h1)), .inl (.inl (k1.g _ _ h3)), q _ G1 H1 s1 k1 ?_⟩
    refine walks_pair (walk_zip (K := K) (a := a) (b := b) (xs := vs) (ys := ws) rfl) (by simp [zipD, dpAll_len h2, dpAll_len h4]) (fun H s => ⟨.inl (.inl (s _ _ h1)), .inl (.inl (s _ _ h3))⟩) fun i d x y hd hx hy => ?_
    obtain ⟨p, q, rfl, e1, e2⟩ := zipD_get hd
    exact ⟨p, q, rfl, dqAll_at h2 hx e1, dqAll_at h4 hy e2⟩

/-! ### targets -/
def Tg (g : TG) (v : V) (σ : St) (G : Hp) (F : St → Prop) : Prop := ∀ H Q, Same G H → (∀ σ2, F σ2 → Q σ2 H) → g v σ H Q
def Tgs (g : TGs) (vs : List V) (σ : St) (G : Hp) (F : St → Prop) : Prop := ∀ H Q, Same G H → (∀ σ2, F σ2 → Q σ2 H) → g vs σ H Q
theorem tg_name {i : Nat} {v : V} {F : St → Prop} (h : F (σ.set i (some v))) : Tg (gName i) v σ G F := fun _ _ _ q => q _ h
theorem tgs_nil {F : St → Prop} (h : F σ) : Tgs gNil [] σ G F := fun _ _ _ q => ⟨rfl, q _ h⟩
theorem tgs_cons {g : TG} {gs : TGs} {v : V} {vs : List V} {F : St → Prop} (h : Tg g v σ G fun σ2 => Tgs gs vs σ2 G F) : Tgs (gCons g gs) (v :: vs) σ G F := fun H Q s q =>
  ⟨v, vs, rfl, h H _ s fun σ2 h2 => h2 H _ s q⟩
theorem tg_tup {n : Nat} {gs : TGs} {v : V} {F : St → Prop} (hv : Dq K G v (.tuple ds)) (hn : ds.length = n) (h : ∀ vs, DqAll K G vs ds → Tgs gs vs σ G F) : Tg (gTup K n gs) v σ G F := fun H Q s q => by
  obtain ⟨a, vs, rfl, h1, h2⟩ := dp_tuple hv
  exact ⟨a, vs, rfl, sqT_up s h1, by rw [dpAll_len h2]; exact hn, h vs h2 H Q s q⟩
theorem tg_t2 {g1 g2 : TG} {v : V} {F : St → Prop} {d1 d2 : Dat} (hv : Dq K G v (.tuple [d1, d2])) (h : ∀ v1 v2, Dq K G v1 d1 → Dq K G v2 d2 → Tg g1 v1 σ G fun σ1 => Tg g2 v2 σ1 G F) : Tg (gTup K 2 (gCons g1 (gCons g2 gNil))) v σ G F :=
  tg_tup hv rfl fun vs hs => by
    cases hs with
    | cons a b =>
      cases b with
      | cons b c =>
        cases c
        exact tgs_cons fun H Q s q => h _ _ a b H Q s fun σ1 h1 => q σ1 (tgs_cons fun H' Q' s' q' => h1 H' Q' s' fun σ2 h2 => q' σ2 (tgs_nil h2))
theorem tg_rtup {n : Nat} {gs : TGs} {v : V} {F : St → Prop} (hv : Dq K G v (.rtup ds)) (hn : ds.length = n) (h : ∀ vs, DqAll K G vs ds → Tgs gs vs σ G F) : Tg (gTup K n gs) v σ G F := fun H Q s q => by
  obtain ⟨a, vs, rfl, h1, h2⟩ := dp_rtup hv
  exact ⟨a, vs, rfl, (.inl (.inl (s _ _ h1))), by rw [dpAll_len h2]; exact hn, h vs h2 H Q s q⟩
theorem tg_r2 {g1 g2 : TG} {v : V} {F : St → Prop} {d1 d2 : Dat} (hv : Dq K G v (.rtup [d1, d2])) (h : ∀ v1 v2, Dq K G v1 d1 → Dq K G v2 d2 → Tg g1 v1 σ G fun σ1 => Tg g2 v2 σ1 G F) : Tg (gTup K 2 (gCons g1 (gCons g2 gNil))) v σ G F :=
  tg_rtup hv rfl fun vs hs => by
    cases hs with
    | cons a b =>
      cases b with
      | cons b c =>
        cases c
        exact tgs_cons fun H Q s q => h _ _ a b H Q s fun σ1 h1 => q σ1 (tgs_cons fun H' Q' s' q' => h1 H' Q' s' fun σ2 h2 => q' σ2 (tgs_nil h2))
theorem tg_t3 {g1 g2 g3 : TG} {v : V} {F : St → Prop} {d1 d2 d3 : Dat} (hv : Dq K G v (.tuple [d1, d2, d3])) (h : ∀ v1 v2 v3, Dq K G v1 d1 → Dq K G v2 d2 → Dq K G v3 d3 → Tg g1 v1 σ G fun σ1 => Tg g2 v2 σ1 G fun σ2 => Tg g3 v3 σ2 G F) : Tg (gTup K 3 (gCons g1 (gCons g2 (gCons g3 gNil)))) v σ G F :=
  tg_tup hv rfl fun vs hs => by
    cases hs with
    | cons a b =>
      cases b with
      | cons b c =>
        cases c with
        | cons c d =>
          cases d
          exact tgs_cons fun H Q s q => h _ _ _ a b c H Q s fun σ1 h1 => q σ1 (tgs_cons fun H' Q' s' q' => h1 H' Q' s' fun σ2 h2 => q' σ2 (tgs_cons fun H'' Q'' s'' q'' => h2 H'' Q'' s'' fun σ3 h3 => q'' σ3 (tgs_nil h3)))

/-! ### comprehensions -/
/-- one turn's test and element: b the test's answer, o what is put behind (none: nothing) -/
def LcB (K : PySem.W.Frag) (tt : TT) (te : TE) (σ : St) (G M M' : Hp) (o : Option Dat) : Prop :=
  ∃ (M1 : Hp) (b : Bool), EvT tt σ G M M1 b ∧ (b = true → ∃ e, o = some e ∧ Ev te σ G M1 M' (DD K e)) ∧ (b = false → o = none ∧ M' = M1)
theorem lcb_yes (h : Ev te σ G M M1 (DD K e)) : LcB K tYes te σ G M M1 (some e) := ⟨M, true, fun G0 H _ k Q q => q G0 H (Same.refl _) k, fun _ => ⟨e, rfl, h⟩, fun z => Bool.noConfusion z⟩
theorem lcb_if {tt : TT} {b : Bool} {o : Option Dat} (h : EvT tt σ G M M1 b) (h1 : b = true → ∃ e, o = some e ∧ Ev te σ G M1 M2 (DD K e)) (h2 : b = false → o = none ∧ M2 = M1) : LcB K tt te σ G M M2 o := ⟨M1, b, h, h1, h2⟩
/-- the general form: mm tells what may be changed, by the turn -/
theorem el_lcG {wi : TI} {g : TG} {tt : TT} {vs : List Nat} (src : Src K wi σ G M M1 ds) (os : List (Option Dat)) (mm : Nat → Hp) (hm0 : mm 0 = M1) (hmn : mm ds.length = M2) (hdom : ∀ i a, (mm i a).isSome = (M1 a).isSome) (hl : os.length = ds.length) (hz : ds.length ≤ sizeLine)
    (hs : ∀ (i : Nat) (d : Dat) (o : Option Dat) (D : Addr) (acc : List V) (G1 : Hp) (v : V), ds[i]? = some d → os[i]? = some o → M1 D = none → Same G G1 → Dq K G1 v d →
      Tg g v (wipe σ vs) G1 fun σ2 => wipe σ2 vs = wipe σ vs ∧ LcB K tt te σ2 G1 (upd (mm i) D (.lst acc)) (upd (mm (i + 1)) D (.lst acc)) o) :
    EvL K (tLc wi g tt te vs) σ G M M2 (os.filterMap id) := by
  intro G0 H s k Q q
  refine src G0 H s k _ fun J G1 H1 s1 k1 w => ?_
  obtain ⟨Y, Gd, w, hGd, hY⟩ := w
  intro D hD
  have mD : M1 D = none := Same.none k1.m hD
  have none_at : ∀ i, mm i D = none := fun i => by
    have := hdom i D
    rw [mD] at this
    cases e : mm i D with
    | none => rfl
    | some _ => rw [e] at this; cases this
  refine lc_it w (fun i H => ∃ G2 acc, Same G1 G2 ∧ Ok G2 (upd (mm i) D (.lst acc)) H ∧ DqAll K G2 acc ((os.take i).filterMap id)) ?_ ?_ ?_ ?_
  · refine ⟨G1, [], Same.refl _, ?_, .nil⟩
    rw [hm0]
    exact k1.newM _ hD
  · rintro i H2 _ ⟨G2, acc, s2, k2, _⟩
    exact hGd H2 (s2.trans k2.g)
  · rintro i x H2 H3 hi ⟨G2, acc, s2, k2, hacc⟩ y
    obtain ⟨d, hd⟩ : ∃ d, ds[i]? = some d := ⟨ds[i], List.getElem?_eq_getElem hi⟩
    obtain ⟨o, ho⟩ : ∃ o, os[i]? = some o := ⟨os[i]'(by omega), List.getElem?_eq_getElem (by omega)⟩
    obtain ⟨G3, s3, k3, hx⟩ := hY i d H2 x H3 G2 _ hd s2 k2 y
    refine hs i d o D acc G3 x hd ho mD (((s.trans s1).trans s2).trans s3) hx H3 _ k3.g ?_
    rintro σ2 ⟨hw, Mx, b, h1, h2, h3⟩
    refine ⟨hw, h1 G3 H3 (Same.refl _) k3 _ fun G4 H4 s4 k4 => ?_⟩
    have et : (os.take (i + 1)).filterMap id = (os.take i).filterMap id ++ o.toList := by
      rw [List.take_add_one, ho, List.filterMap_append]
      cases o <;> rfl
    cases b with
    | true =>
      obtain ⟨e, rfl, he⟩ := h2 rfl
      refine iteT (he G4 H4 s4 k4 _ fun z G5 H5 s5 k5 hz5 => ?_)
      refine ⟨acc, k5.m _ _ upd_same, ?_, ?_⟩
      · rw [dpAll_len hacc]
        refine Nat.lt_of_le_of_lt (List.length_filterMap_le _ _) ?_
        rw [List.length_take]
        omega
      · refine ⟨G5, acc ++ [z], ((s2.trans s3).trans s4).trans s5, ?_, ?_⟩
        · have := k5.chg (p := D) (u := .lst acc) (.lst (acc ++ [z])) upd_same
          rw [upd_upd] at this
          exact this
        · rw [et]
          exact dpAll_app (dpAll_up ((s3.trans s4).trans s5) _ hacc) (.cons hz5 .nil)
    | false =>
      obtain ⟨rfl, e2⟩ := h3 rfl
      subst e2
      refine iteF ⟨G4, acc, (s2.trans s3).trans s4, k4, ?_⟩
      rw [et, show (none : Option Dat).toList = [] from rfl, List.append_nil]
      exact dpAll_up (s3.trans s4) _ hacc
  · rintro H2 ⟨G2, acc, s2, k2, hacc⟩
    have e1 : os.take ds.length = os := by rw [← hl, List.take_length]
    rw [e1] at hacc
    have := none_at ds.length
    rw [hmn] at k2 this
    exact q D acc G2 H2 (s1.trans s2) k2 this hacc
/-- nothing is changed by the turns, no test -/
theorem el_lc {wi : TI} {g : TG} {vs : List Nat} (src : Src K wi σ G M M1 ds) (es : List Dat) (hl : es.length = ds.length) (hz : ds.length ≤ sizeLine)
    (hs : ∀ (i : Nat) (d e : Dat) (Mx G1 : Hp) (v : V), ds[i]? = some d → es[i]? = some e → Same M1 Mx → Same G G1 → Dq K G1 v d → Tg g v (wipe σ vs) G1 fun σ2 => wipe σ2 vs = wipe σ vs ∧ Ev te σ2 G1 Mx Mx (DD K e)) :
    EvL K (tLc wi g tYes te vs) σ G M M1 es := by
  have := el_lcG (tt := tYes) (te := te) (g := g) (vs := vs) (M2 := M1) src (es.map some) (fun _ => M1) rfl rfl (fun _ _ => rfl) (by rw [List.length_map]; exact hl) hz fun i d o D acc G1 v hd ho hD s hv => by
    rw [List.getElem?_map] at ho
    cases e : es[i]? with
    | none => rw [e] at ho; cases ho
    | some e' =>
      rw [e] at ho
      cases ho
      exact fun H Q sg q => hs i d e' (upd M1 D (.lst acc)) G1 v hd e (Same.new hD) s hv H Q sg fun σ2 h2 => q σ2 ⟨h2.1, lcb_yes h2.2⟩
  rw [List.filterMap_map, show (id ∘ some : Dat → Option Dat) = some from rfl, List.filterMap_some] at this
  exact this
/-- the turns draw: zs tells the store ahead of each -/
theorem el_lcD {wi : TI} {g : TG} {vs : List Nat} {s : Addr} {zs : Nat → Sto} (src : Src K wi σ G M M1 ds) (es : List Dat) (h0 : M1 s = some (sto (zs 0))) (hl : es.length = ds.length) (hz : ds.length ≤ sizeLine)
    (hs : ∀ (i : Nat) (d e : Dat) (Mx G1 : Hp) (v : V), ds[i]? = some d → es[i]? = some e → (∀ a o, a ≠ s → M1 a = some o → Mx a = some o) → Mx s = some (sto (zs i)) → Same G G1 → Dq K G1 v d → Tg g v (wipe σ vs) G1 fun σ2 => wipe σ2 vs = wipe σ vs ∧ Ev te σ2 G1 Mx (upd Mx s (sto (zs (i + 1)))) (DD K e)) :
    EvL K (tLc wi g tYes te vs) σ G M (upd M1 s (sto (zs ds.length))) es := by
  have := el_lcG (tt := tYes) (te := te) (g := g) (vs := vs) (M2 := upd M1 s (sto (zs ds.length))) src (es.map some) (fun i => upd M1 s (sto (zs i))) (upd_back h0) rfl (fun i a => by
    by_cases ha : a = s
    · subst ha; rw [upd_same, h0]; rfl
    · rw [upd_ne ha]) (by rw [List.length_map]; exact hl) hz fun i d o D acc G1 v hd ho hD sg hv => by
    rw [List.getElem?_map] at ho
    cases e : es[i]? with
    | none => rw [e] at ho; cases ho
    | some e' =>
      rw [e] at ho
      cases ho
      have nD : s ≠ D := ne_of_none h0 hD
      refine fun H Q sgh q => hs i d e' (upd (upd M1 s (sto (zs i))) D (.lst acc)) G1 v hd e (fun a o ha hm => ?_) ?_ sg hv H Q sgh fun σ2 h2 => q σ2 ⟨h2.1, lcb_yes ?_⟩
      · rw [upd_ne (ne_of_none hm hD), upd_ne ha]
        exact hm
      · rw [upd_ne nD, upd_same]
      · have h3 := h2.2
        rw [upd_comm (p := D) nD.symm, upd_upd] at h3
        exact h3
  rw [List.filterMap_map, show (id ∘ some : Dat → Option Dat) = some from rfl, List.filterMap_some] at this
  exact this

/-! ### statements -/
variable {D : Ends} {H : Hp} {u : TS}
theorem q_set {i : Nat} {σ' : V → St} (he : Ev te σ G M M1 P) (ok : Ok G M H) (hσ : ∀ v, σ.set i (some v) = σ' v) (k : ∀ v G' H', Same G G' → Ok G' M1 H' → P v G' → u D (σ' v) H') : tSeq (tAsg te (gName i)) u D σ H :=
  he G H (Same.refl _) ok _ fun v G1 H1 s1 k1 hv => by
    show u D (σ.set i (some v)) H1
    rw [hσ v]
    exact k v G1 H1 s1 k1 hv
theorem q_setL {i : Nat} {σ' : V → St} (he : EvL K te σ G M M1 ds) (ok : Ok G M H) (hσ : ∀ v, σ.set i (some v) = σ' v) (k : ∀ p vs G' H', Same G G' → Ok G' (upd M1 p (.lst vs)) H' → M1 p = none → DqAll K G' vs ds → u D (σ' (.ref p)) H') : tSeq (tAsg te (gName i)) u D σ H :=
  he G H (Same.refl _) ok _ fun p vs G1 H1 s1 k1 hp hv => by
    show u D (σ.set i (some (.ref p))) H1
    rw [hσ]
    exact k p vs G1 H1 s1 k1 hp hv
theorem q_ret (he : Ev te σ G M M1 P) (ok : Ok G M H) (k : ∀ v G' H', Same G G' → Ok G' M1 H' → P v G' → D.rt v H') : tSeq (tRet te) u D σ H :=
  he G H (Same.refl _) ok _ k
theorem q_expr (he : Ev te σ G M M1 P) (ok : Ok G M H) (k : ∀ G' H', Same G G' → Ok G' M1 H' → u D σ H') : tSeq (tDrop te) u D σ H :=
  he G H (Same.refl _) ok _ fun v G1 H1 s1 k1 _ => k G1 H1 s1 k1
theorem q_if {c : TT} {t t' : TS} {b : Bool} (hc : EvT c σ G M M1 b) (ok : Ok G M H) (h1 : b = true → ∀ G' H', Same G G' → Ok G' M1 H' → t { D with nx := u D } σ H') (h2 : b = false → ∀ G' H', Same G G' → Ok G' M1 H' → t' { D with nx := u D } σ H') : tSeq (tIfS c t t') u D σ H :=
  hc G H (Same.refl _) ok _ fun G1 H1 s1 k1 => by
    cases b with
    | true => exact iteT (h1 rfl G1 H1 s1 k1)
    | false => exact iteF (h2 rfl G1 H1 s1 k1)
/-- behind an if whose ways meet: J tells where -/
theorem q_ifJ {c : TT} {t t' : TS} {b : Bool} (J : St → Hp → Hp → Prop) (hc : EvT c σ G M M1 b) (ok : Ok G M H)
    (h1 : b = true → ∀ G' H' D', Same G G' → Ok G' M1 H' → D'.rt = D.rt → D'.bk = D.bk → D'.ct = D.ct → (∀ σ2 G2 M2 H2, Same G' G2 → Ok G2 M2 H2 → J σ2 G2 M2 → D'.nx σ2 H2) → t D' σ H')
    (h2 : b = false → ∀ G' H' D', Same G G' → Ok G' M1 H' → D'.rt = D.rt → D'.bk = D.bk → D'.ct = D.ct → (∀ σ2 G2 M2 H2, Same G' G2 → Ok G2 M2 H2 → J σ2 G2 M2 → D'.nx σ2 H2) → t' D' σ H')
    (k : ∀ σ2 G2 M2 H2, Same G G2 → Ok G2 M2 H2 → J σ2 G2 M2 → u D σ2 H2) : tSeq (tIfS c t t') u D σ H :=
  q_if hc ok (fun e G' H' s' k' => h1 e G' H' { D with nx := u D } s' k' rfl rfl rfl fun σ2 G2 M2 H2 s2 k2 j => k σ2 G2 M2 H2 (s'.trans s2) k2 j)
    (fun e G' H' s' k' => h2 e G' H' { D with nx := u D } s' k' rfl rfl rfl fun σ2 G2 M2 H2 s2 k2 j => k σ2 G2 M2 H2 (s'.trans s2) k2 j)
theorem q_nil (h : D.nx σ H) : tNext D σ H := h
theorem q_par {i j : Nat} {ta : TA} {σ' : V → V → St} (he : EvA ta σ G M M1 (conP P1 (conP P2 nilP))) (ok : Ok G M H) (hσ : ∀ v w, (σ.set i (some v)).set j (some w) = σ' v w) (k : ∀ v w G' H', Same G G' → Ok G' M1 H' → P1 v G' → P2 w G' → u D (σ' v w) H') : tSeq (tPar i j ta) u D σ H :=
  he G H (Same.refl _) ok _ fun vs G1 H1 s1 k1 hv => by
    obtain ⟨v, w, rfl, h1, h2⟩ := two_of hv
    refine ⟨v, w, rfl, ?_⟩
    show u D ((σ.set i (some v)).set j (some w)) H1
    rw [hσ]
    exact k v w G1 H1 s1 k1 h1 h2
/-- a target of names alone, by its own rule -/
theorem q_asg {g : TG} (F : Hp → V → St → Prop) (he : Ev te σ G M M1 P) (ok : Ok G M H) (hg : ∀ v G', Same G G' → P v G' → Tg g v σ G' (F G' v)) (k : ∀ v σ2 G' H', Same G G' → Ok G' M1 H' → P v G' → F G' v σ2 → u D σ2 H') : tSeq (tAsg te g) u D σ H :=
  he G H (Same.refl _) ok _ fun v G1 H1 s1 k1 hv => hg v G1 s1 hv H1 _ k1.g fun σ2 h2 => k v σ2 G1 H1 s1 k1 hv h2
theorem q_append {p : Addr} {vs : List V} (ho : Ev ta σ G M M (OW p)) (ha : EvA (tCons te tNil) σ G M M1 (conP (DD K d) nilP)) (hp0 : M p = some (.lst vs)) (hp : M1 p = some (.lst vs)) (hl : vs.length < sizeLine) (ok : Ok G M H)
    (k : ∀ v G' H', Same G G' → Ok G' (upd M1 p (.lst (vs ++ [v]))) H' → Dq K G' v d → u D σ H') : tSeq (tDrop (tBM K "list" rAppend ta (tCons te tNil))) u D σ H :=
  ho G H (Same.refl _) ok _ fun x G1 H1 s1 k1 hx => by
    cases hx
    refine ⟨.inl ⟨rfl, _, .inl (.inl (k1.m _ _ hp0))⟩, ha G1 H1 s1 k1 _ fun xs G2 H2 s2 k2 hv => ?_⟩
    obtain ⟨v, rfl, hw⟩ := one_of (R := nilP) hv
    exact ⟨p, vs, v, rfl, rfl, k2.m _ _ hp, hl, k v G2 _ (s1.trans s2) (k2.chg _ hp) hw⟩
theorem q_extend {p : Addr} {vs : List V} (ho : Ev ta σ G M M (OW p)) (ha : EvA (tCons te tNil) σ G M M1 (conP (DD K (.list ds)) nilP)) (hp0 : M p = some (.lst vs)) (hp : M1 p = some (.lst vs)) (hl : vs.length + ds.length ≤ sizeLine) (ok : Ok G M H)
    (k : ∀ ws G' H', Same G G' → Ok G' (upd M1 p (.lst (vs ++ ws))) H' → DqAll K G' ws ds → u D σ H') : tSeq (tDrop (tBM K "list" rExtend ta (tCons te tNil))) u D σ H :=
  ho G H (Same.refl _) ok _ fun x G1 H1 s1 k1 hx => by
    cases hx
    refine ⟨.inl ⟨rfl, _, .inl (.inl (k1.m _ _ hp0))⟩, ha G1 H1 s1 k1 _ fun xs G2 H2 s2 k2 hv => ?_⟩
    obtain ⟨v, rfl, hw⟩ := one_of (R := nilP) hv
    obtain ⟨a, ws, rfl, h1, h2⟩ := dp_list hw
    exact ⟨p, a, vs, ws, rfl, rfl, k2.m _ _ hp, k2.g _ _ h1, by rw [dpAll_len h2]; exact hl, k ws G2 _ (s1.trans s2) (k2.chg _ hp) h2⟩
/-- xs[i] = e, xs a list of one's own -/
theorem q_setItem {p : Addr} {vs : List V} {i : Int} {j : Nat} (he : Ev te σ G M M1 (DD K d)) (ho : Ev ta σ G M1 M1 (OW p)) (hi : Ev tb σ G M1 M2 (DD K (.int i))) (hp : M2 p = some (.lst vs)) (hj : ixN vs.length i = some j) (ok : Ok G M H)
    (k : ∀ v G' H', Same G G' → Ok G' (upd M2 p (.lst (vs.set j v))) H' → Dq K G' v d → u D σ H') : tSeq (tAsg te (gSub ta tb rSetL)) u D σ H :=
  he G H (Same.refl _) ok _ fun v G1 H1 s1 k1 hv => ho G1 H1 s1 k1 _ fun x G2 H2 s2 k2 hx => hi G2 H2 (s1.trans s2) k2 _ fun y G3 H3 s3 k3 hy => by
    cases hx; cases hy
    exact ⟨p, vs, i, j, rfl, rfl, k3.m _ _ hp, hj, k v G3 _ ((s1.trans s2).trans s3) (k3.chg _ hp) (dp_up (s2.trans s3) _ hv)⟩

/-! ### loops -/
theorem q_for {wi : TI} {g : TG} {tb : TS} (src : Src K wi σ G M M1 ds) (ok : Ok G M H) (J : Nat → St → Hp → Hp → Prop) (h0 : ∀ G', Same G G' → J 0 σ G' M1)
    (hs : ∀ i d v σ1 G1 M2 H1 (N : St → Hp → Prop), ds[i]? = some d → J i σ1 G1 M2 → Same G G1 → Ok G1 M2 H1 → Dq K G1 v d → (∀ σ2 G2 M3 H2, Same G1 G2 → Ok G2 M3 H2 → J (i + 1) σ2 G2 M3 → N σ2 H2) → g v σ1 H1 fun σ2 H2 => tb { D with nx := N, ct := N, bk := u D } σ2 H2)
    (hJ : ∀ i σ1 G1 G2 M2, J i σ1 G1 M2 → Same G1 G2 → J i σ1 G2 M2)
    (hd : ∀ σ1 G1 M2 H1, Same G G1 → Ok G1 M2 H1 → J ds.length σ1 G1 M2 → u D σ1 H1) : tSeq (tFor wi g tb) u D σ H := by
  refine src G H (Same.refl _) ok _ fun J' G1 H1 s1 k1 w => ?_
  obtain ⟨Y, Gd, w, hGd, hY⟩ := w
  refine for_it w (D := { D with nx := u D }) (fun i σ1 H2 => ∃ G2 M2, Same G1 G2 ∧ Ok G2 M2 H2 ∧ J i σ1 G2 M2) ⟨G1, M1, Same.refl _, k1, h0 G1 s1⟩ ?_ ?_ ?_
  · rintro i σ1 H2 _ ⟨G2, M2, s2, k2, _⟩
    exact hGd H2 (s2.trans k2.g)
  · rintro i x σ1 H2 H3 hi ⟨G2, M2, s2, k2, j⟩ y
    obtain ⟨d, hd'⟩ : ∃ d, ds[i]? = some d := ⟨ds[i], List.getElem?_eq_getElem hi⟩
    obtain ⟨G3, s3, k3, hx⟩ := hY i d H2 x H3 G2 M2 hd' s2 k2 y
    exact hs i d x σ1 G3 M2 H3 _ hd' (hJ i σ1 G2 G3 M2 j s3) ((s1.trans s2).trans s3) k3 hx fun σ2 G4 M4 H4 s4 k4 j4 => ⟨G4, M4, (s2.trans s3).trans s4, k4, j4⟩
  · rintro σ1 H2 ⟨G2, M2, s2, k2, j⟩
    exact hd σ1 G2 M2 H2 (s1.trans s2) k2 j
theorem q_while {c : TT} {tb : TS} (ok : Ok G M H) (J : Nat → St → Hp → Hp → Prop) (n : Nat) (h0 : J n σ G M)
    (hs : ∀ m σ1 G1 M2 H1, J m σ1 G1 M2 → Same G G1 → Ok G1 M2 H1 → ∃ (M3 : Hp) (b : Bool), EvT c σ1 G1 M2 M3 b ∧
      (b = true → ∀ G2 H2 (N : St → Hp → Prop), Same G1 G2 → Ok G2 M3 H2 → (∀ m' σ2 G3 M4 H3, m' < m → Same G2 G3 → Ok G3 M4 H3 → J m' σ2 G3 M4 → N σ2 H3) → tb { D with nx := N, ct := N, bk := u D } σ1 H2) ∧
      (b = false → ∀ G2 H2, Same G1 G2 → Ok G2 M3 H2 → u D σ1 H2)) : tSeq (tWhile c tb) u D σ H := by
  refine ⟨fun m σ1 H1 => ∃ G1 M1, Same G G1 ∧ Ok G1 M1 H1 ∧ J m σ1 G1 M1, ⟨n, G, M, Same.refl _, ok, h0⟩, ?_⟩
  rintro m σ1 H1 ⟨G1, M2, s1, k1, j⟩
  obtain ⟨M3, b, hc, ht, hf⟩ := hs m σ1 G1 M2 H1 j s1 k1
  refine hc G1 H1 (Same.refl _) k1 _ fun G2 H2 s2 k2 => ?_
  cases b with
  | true =>
    refine iteT ⟨fun σ' H' => ∃ m', m' < m ∧ ∃ G3 M4, Same G2 G3 ∧ Ok G3 M4 H' ∧ J m' σ' G3 M4, ?_, ?_⟩
    · rintro σ' H' ⟨m', hm', G3, M4, s3, k3, j3⟩
      exact ⟨m', hm', G3, M4, (s1.trans s2).trans s3, k3, j3⟩
    · exact ht rfl G2 H2 _ s2 k2 fun m' σ2 G3 M4 H3 hm' s3 k3 j3 => ⟨m', hm', G3, M4, s3, k3, j3⟩
  | false => exact iteF (hf rfl G2 H2 s2 k2)
end
end Kx

end

section
set_option maxHeartbeats 2000000
namespace Kx
open PySem L2
/-! ### the mirror's own words -/
theorem bs {α β : Type} {x : Option α} {f : α → Option β} {r : β} (h : x.bind f = some r) : ∃ a, x = some a ∧ f a = some r := by
  cases x with
  | none => cases h
  | some a => exact ⟨a, rfl, h⟩
theorem cond_t {α : Type} {b : Bool} {x y : α} {r : α} (e : b = true) (h : cond b x y = r) : x = r := by subst e; exact h
theorem cond_f {α : Type} {b : Bool} {x y : α} {r : α} (e : b = false) (h : cond b x y = r) : y = r := by subst e; exact h
instance (i j : Int) : Decidable (CMul i j) := by unfold CMul; exact inferInstance
instance (i j : Int) : Decidable (CDivN i j) := by unfold CDivN; exact inferInstance
instance (i j : Int) : Decidable (CDiv i j) := by unfold CDiv; exact inferInstance
instance (i j : Int) : Decidable (CPow i j) := by unfold CPow; exact inferInstance
def grd (p : Prop) [Decidable p] : Option Unit := if p then some () else none
theorem grd_of {p : Prop} [Decidable p] {u : Unit} (h : grd p = some u) : p := by
  unfold grd at h
  split at h
  · assumption
  · cases h
theorem grd_yes {p : Prop} [Decidable p] (h : p) : grd p = some () := by
  unfold grd
  rw [if_pos h]
def CMulO (i j : Int) : Prop := CMul i j ∨ CMulX i j
instance (i j : Int) : Decidable (CMulX i j) := by unfold CMulX; exact inferInstance
instance (i j : Int) : Decidable (CMulO i j) := by unfold CMulO; exact inferInstance
theorem op_mulO {X : Cx} : OpR X (binaryOp .Mult) (rI CMulO fun i j => .int (i * j)) := opI fun _ _ _ _ _ _ _ hc q => PyProof.Rows.mul_int q (hc.elim (fun h => h.ok) (fun h => h.ok))
def CDivO (i j : Int) : Prop := CDivN i j ∨ CDivW i j
instance (i j : Int) : Decidable (CDivW i j) := by unfold CDivW; exact inferInstance
instance (i j : Int) : Decidable (CDivO i j) := by unfold CDivO; exact inferInstance
theorem op_fdivO {X : Cx} : OpR X (binaryOp .FloorDiv) (rI CDivO fun i j => .int (i.fdiv j)) := by
  intro pins s σ H x y v u Q I rx ry h
  obtain ⟨i, j, rfl, rfl, hc, q⟩ := h
  rcases hc with hc | hc
  · exact op_fdivN pins s σ H _ _ v u Q I rx ry ⟨i, j, rfl, rfl, hc, q⟩
  · refine op_fdivW pins s σ H _ _ v u Q I rx ry ⟨i, j, rfl, rfl, hc, ?_⟩
    have e : i / j = i.fdiv j := (Int.fdiv_eq_ediv_of_nonneg i (by have := hc.1; omega)).symm
    show Q (.int (i / j)) H
    rw [e]
    exact q
def mulO (i j : Int) : Option Int := (grd (CMulO i j)).bind fun _ => some (i * j)
def fdivO (i j : Int) : Option Int := (grd (CDivO i j)).bind fun _ => some (i.fdiv j)
def modO (i j : Int) : Option Int := (grd (j ≠ 0)).bind fun _ => some (i.fmod j)
def powO (i j : Int) : Option Int := (grd (CPow i j)).bind fun _ => some (i ^ j.toNat)
theorem mulO_of {i j r : Int} (h : mulO i j = some r) : CMulO i j ∧ r = i * j := by
  obtain ⟨_, h1, h2⟩ := bs h
  exact ⟨grd_of h1, (Option.some.inj h2).symm⟩
theorem fdivO_of {i j r : Int} (h : fdivO i j = some r) : CDivO i j ∧ r = i.fdiv j := by
  obtain ⟨_, h1, h2⟩ := bs h
  exact ⟨grd_of h1, (Option.some.inj h2).symm⟩
theorem modO_of {i j r : Int} (h : modO i j = some r) : j ≠ 0 ∧ r = i.fmod j := by
  obtain ⟨_, h1, h2⟩ := bs h
  exact ⟨grd_of h1, (Option.some.inj h2).symm⟩
theorem powO_of {i j r : Int} (h : powO i j = some r) : CPow i j ∧ r = i ^ j.toNat := by
  obtain ⟨_, h1, h2⟩ := bs h
  exact ⟨grd_of h1, (Option.some.inj h2).symm⟩
theorem atI_map {α β : Type} {f : α → β} {xs : List α} {i : Int} {x : α} (h : atI xs i = some x) : atI (xs.map f) i = some (f x) := by
  unfold atI at h ⊢
  rw [List.length_map]
  cases e : ixN xs.length i with
  | none => rw [e] at h; cases h
  | some j =>
    rw [e] at h
    show (xs.map f)[j]? = _
    rw [List.getElem?_map, show xs[j]? = some x from h]
    rfl
/-- the longest that is made in one go -/
def mapO {α β : Type} (f : α → Option β) : List α → Option (List β)
  | [] => some []
  | x :: xs => (f x).bind fun y => (mapO f xs).bind fun ys => some (y :: ys)
theorem mapO_len {α β : Type} {f : α → Option β} : ∀ {xs : List α} {ys : List β}, mapO f xs = some ys → ys.length = xs.length
  | [], ys, h => by cases h; rfl
  | x :: xs, ys, h => by
    obtain ⟨y, _, h⟩ := bs h
    obtain ⟨zs, h2, h⟩ := bs h
    cases h
    exact congrArg (· + 1) (mapO_len h2)
theorem mapO_get {α β : Type} {f : α → Option β} : ∀ {xs : List α} {ys : List β} {i : Nat} {x : α} {y : β}, mapO f xs = some ys → xs[i]? = some x → ys[i]? = some y → f x = some y
  | [], ys, _, _, _, h, h1, _ => by simp at h1
  | a :: xs, ys, i, x, y, h, h1, h2 => by
    obtain ⟨b, hb, h⟩ := bs h
    obtain ⟨zs, hz, h⟩ := bs h
    cases h
    cases i with
    | zero => simp at h1 h2; subst h1; subst h2; exact hb
    | succ i => exact mapO_get hz (by simpa using h1) (by simpa using h2)
def lcO {α β : Type} (f : α → Option β) (xs : List α) : Option (List β) := (grd (xs.length ≤ 16777216)).bind fun _ => mapO f xs
def mapS {α β : Type} (f : α → Sto → Option (β × Sto)) : List α → Sto → Option (List β × Sto)
  | [], z => some ([], z)
  | x :: xs, z => (f x z).bind fun y => (mapS f xs y.2).bind fun ys => some (y.1 :: ys.1, ys.2)
def lcS {α β : Type} (f : α → Sto → Option (β × Sto)) (xs : List α) (z : Sto) : Option (List β × Sto) := (grd (xs.length ≤ 16777216)).bind fun _ => mapS f xs z
theorem mapS_get {α β : Type} {f : α → Sto → Option (β × Sto)} : ∀ {xs : List α} {z : Sto} {r : List β × Sto}, mapS f xs z = some r → r.1.length = xs.length ∧ ∃ zs : Nat → Sto, zs 0 = z ∧ zs xs.length = r.2 ∧
      ∀ (i : Nat) (x : α) (y : β), xs[i]? = some x → r.1[i]? = some y → f x (zs i) = some (y, zs (i + 1))
  | [], z, r, h => by cases h; exact ⟨rfl, fun _ => z, rfl, rfl, fun i x y h => by simp at h⟩
  | a :: xs, z, r, h => by
    obtain ⟨b, hb, h⟩ := bs h
    obtain ⟨r', hz, h⟩ := bs h
    cases h
    obtain ⟨hl, zs, h0, hn, hi⟩ := mapS_get hz
    refine ⟨congrArg (· + 1) hl, fun i => match i with | 0 => z | i + 1 => zs i, rfl, hn, fun i x y h1 h2 => ?_⟩
    cases i with
    | zero =>
      simp at h1 h2
      subst h1; subst h2
      show f a z = some (b.1, zs 0)
      rw [h0]
      exact hb
    | succ i => exact hi i x y (by simpa using h1) (by simpa using h2)
/-- a for over xs; a turn hands on the state (.inl) or returns (.inr) -/
def forO {S α : Type} (f : S → α → Option S) : List α → S → Option S
  | [], s => some s
  | x :: xs, s => (f s x).bind fun s' => forO f xs s'
def forR {S R α : Type} (f : S → α → Option (S ⊕ R)) : List α → S → Option (S ⊕ R)
  | [], s => some (.inl s)
  | x :: xs, s => (f s x).bind fun s' => match s' with
    | .inl s' => forR f xs s'
    | .inr r => some (.inr r)
def whileO {S : Type} (c : S → Option Bool) (f : S → Option S) : Nat → S → Option S
  | 0, _ => none
  | n + 1, s => (c s).bind fun b => cond b ((f s).bind fun s' => whileO c f n s') (some s)
abbrev eL {α : Type} (e : α → Dat) (xs : List α) : Dat := .list (xs.map e)
abbrev eT {α : Type} (e : α → Dat) (xs : List α) : Dat := .tuple (xs.map e)
abbrev eN (_ : Unit) : Dat := .none
abbrev eP2 {α β : Type} (e1 : α → Dat) (e2 : β → Dat) (p : α × β) : Dat := .tuple [e1 p.1, e2 p.2]
abbrev eR2 {α β : Type} (e1 : α → Dat) (e2 : β → Dat) (p : α × β) : Dat := .rtup [e1 p.1, e2 p.2]
abbrev eP3 {α β γ : Type} (e1 : α → Dat) (e2 : β → Dat) (e3 : γ → Dat) (p : α × β × γ) : Dat := .tuple [e1 p.1, e2 p.2.1, e3 p.2.2]
def eO {α : Type} (e : α → Dat) : Option α → Dat
  | none => .none
  | some x => e x
section
variable {K : PySem.W.Frag} {σ : St} {G G' M M1 M2 M3 : Hp} {ta tb te tc : TE} {P P1 P2 : VP} {d e : Dat} {ds es : List Dat}
theorem szl {n : Nat} (h : n ≤ 16777216) : n ≤ sizeLine := by rw [sizeLine_eq]; exact h
theorem szlt {n : Nat} (h : n < 16777216) : n < sizeLine := by rw [sizeLine_eq]; exact h
theorem zipD_map {α β : Type} {ea : α → Dat} {eb : β → Dat} {xs : List α} {ys : List β} : zipD (xs.map ea) (ys.map eb) = (xs.zip ys).map (eR2 ea eb) := by
  unfold zipD
  rw [List.zipWith_map, List.zip, List.map_zipWith]
def enum {α : Type} (xs : List α) : List (Int × α) := xs.mapIdx fun i x => ((i : Int), x)
theorem enumD_map {α : Type} {ea : α → Dat} {xs : List α} : enumD (xs.map ea) = (enum xs).map (eR2 Dat.int ea) := by
  unfold enumD enum
  apply List.ext_getElem?
  intro i
  simp only [List.getElem?_mapIdx, List.getElem?_map, Option.map_map]
  cases xs[i]? <;> rfl
theorem Src.is {wi : TI} {ds' : List Dat} (h : Src K wi σ G M M1 ds) (e : ds = ds') : Src K wi σ G M M1 ds' := e ▸ h
/-- a comprehension of data -/
theorem el_lcM {α β : Type} {ea : α → Dat} {eb : β → Dat} {f : α → Option β} {xs : List α} {ys : List β} {wi : TI} {g : TG} {vs : List Nat} (src : Src K wi σ G M M1 (xs.map ea)) (hf : lcO f xs = some ys)
    (hs : ∀ (x : α) (y : β) (Mx G1 : Hp) (v : V), f x = some y → Same M1 Mx → Same G G1 → Dq K G1 v (ea x) → Tg g v (wipe σ vs) G1 fun σ2 => wipe σ2 vs = wipe σ vs ∧ Ev te σ2 G1 Mx Mx (DD K (eb y))) :
    EvL K (tLc wi g tYes te vs) σ G M M1 (ys.map eb) := by
  obtain ⟨_, h1, h2⟩ := bs hf
  have hl := mapO_len h2
  refine el_lc src (ys.map eb) (by rw [List.length_map, List.length_map, hl]) (by rw [List.length_map]; exact szl (grd_of h1)) fun i d e Mx G1 v hd he sM sG hv => ?_
  rw [List.getElem?_map] at hd he
  cases e1 : xs[i]? with
  | none => rw [e1] at hd; cases hd
  | some x =>
    cases e2 : ys[i]? with
    | none => rw [e2] at he; cases he
    | some y =>
      rw [e1] at hd; rw [e2] at he
      cases hd; cases he
      exact hs x y Mx G1 v (mapO_get h2 e1 e2) sM sG hv
theorem el_lcMD {α β : Type} {ea : α → Dat} {eb : β → Dat} {f : α → Sto → Option (β × Sto)} {xs : List α} {r : List β × Sto} {z : Sto} {s : Addr} {wi : TI} {g : TG} {vs : List Nat} (src : Src K wi σ G M M1 (xs.map ea)) (h0 : M1 s = some (sto z)) (hf : lcS f xs z = some r)
    (hs : ∀ (x : α) (y : β) (z z' : Sto) (Mx G1 : Hp) (v : V), f x z = some (y, z') → (∀ a o, a ≠ s → M1 a = some o → Mx a = some o) → Mx s = some (sto z) → Same G G1 → Dq K G1 v (ea x) → Tg g v (wipe σ vs) G1 fun σ2 => wipe σ2 vs = wipe σ vs ∧ Ev te σ2 G1 Mx (upd Mx s (sto z')) (DD K (eb y))) :
    EvL K (tLc wi g tYes te vs) σ G M (upd M1 s (sto r.2)) (r.1.map eb) := by
  obtain ⟨_, h1, h2⟩ := bs hf
  obtain ⟨hl, zs, e0, en, hi⟩ := mapS_get h2
  subst e0
  rw [← en, ← List.length_map (as := xs) (f := ea)]
  refine el_lcD src (r.1.map eb) h0 (by rw [List.length_map, List.length_map, hl]) (by rw [List.length_map]; exact szl (grd_of h1)) fun i d e Mx G1 v hd he sM hMs sG hv => ?_
  rw [List.getElem?_map] at hd he
  cases e1 : xs[i]? with
  | none => rw [e1] at hd; cases hd
  | some x =>
    cases e2 : r.1[i]? with
    | none => rw [e2] at he; cases he
    | some y =>
      rw [e1] at hd; rw [e2] at he
      cases hd; cases he
      exact hs x y _ _ Mx G1 v (hi i x y e1 e2) sM hMs sG hv
/-! ### a for by its mirror -/
variable {D : Ends} {H : Hp} {u : TS}
theorem drop_cons {α : Type} {xs : List α} {i : Nat} {x : α} (h : xs[i]? = some x) : xs.drop i = x :: xs.drop (i + 1) := by
  obtain ⟨h1, h2⟩ := List.getElem?_eq_some_iff.mp h
  rw [List.drop_eq_getElem_cons h1, h2]
theorem q_forO {S α : Type} {ea : α → Dat} {f : S → α → Option S} {xs : List α} {st fin : S} {wi : TI} {g : TG} {tb : TS} (src : Src K wi σ G M M1 (xs.map ea)) (ok : Ok G M H) (J : S → St → Hp → Hp → Prop) (hf : forO f xs st = some fin)
    (h0 : ∀ G', Same G G' → J st σ G' M1) (hJ : ∀ s σ1 G1 G2 M2, J s σ1 G1 M2 → Same G1 G2 → J s σ1 G2 M2)
    (hs : ∀ x v s s' σ1 G1 M2 H1 (N : St → Hp → Prop), f s x = some s' → J s σ1 G1 M2 → Same G G1 → Ok G1 M2 H1 → Dq K G1 v (ea x) → (∀ σ2 G2 M3 H2, Same G1 G2 → Ok G2 M3 H2 → J s' σ2 G2 M3 → N σ2 H2) → g v σ1 H1 fun σ2 H2 => tb { D with nx := N, ct := N, bk := u D } σ2 H2)
    (hd : ∀ σ1 G1 M2 H1, Same G G1 → Ok G1 M2 H1 → J fin σ1 G1 M2 → u D σ1 H1) : tSeq (tFor wi g tb) u D σ H := by
  refine q_for src ok (fun i σ1 G1 M2 => ∃ s, J s σ1 G1 M2 ∧ forO f (xs.drop i) s = some fin) (fun G' s' => ⟨st, h0 G' s', hf⟩) ?_ (fun i σ1 G1 G2 M2 ⟨s, j, e⟩ s2 => ⟨s, hJ s σ1 G1 G2 M2 j s2, e⟩) ?_
  · rintro i d v σ1 G1 M2 H1 N hd ⟨s, j, e⟩ s1 k1 hv hN
    rw [List.getElem?_map] at hd
    cases ex : xs[i]? with
    | none => rw [ex] at hd; cases hd
    | some x =>
      rw [ex] at hd
      cases hd
      rw [drop_cons ex] at e
      obtain ⟨s', e1, e2⟩ := bs e
      exact hs x v s s' σ1 G1 M2 H1 N e1 j s1 k1 hv fun σ2 G2 M3 H2 s2 k2 j2 => hN σ2 G2 M3 H2 s2 k2 ⟨s', j2, e2⟩
  · rintro σ1 G1 M2 H1 s1 k1 ⟨s, j, e⟩
    rw [List.length_map, List.drop_length] at e
    cases e
    exact hd σ1 G1 M2 H1 s1 k1 j
theorem q_forR {S R α : Type} {ea : α → Dat} {f : S → α → Option (S ⊕ R)} {xs : List α} {st : S} {fin : S ⊕ R} {wi : TI} {g : TG} {tb : TS} (src : Src K wi σ G M M1 (xs.map ea)) (ok : Ok G M H) (J : S → St → Hp → Hp → Prop) (hf : forR f xs st = some fin)
    (h0 : ∀ G', Same G G' → J st σ G' M1) (hJ : ∀ s σ1 G1 G2 M2, J s σ1 G1 M2 → Same G1 G2 → J s σ1 G2 M2)
    (hs : ∀ x v s s' σ1 G1 M2 H1 (N : St → Hp → Prop), f s x = some s' → (∀ r, s' = .inr r → fin = .inr r) → J s σ1 G1 M2 → Same G G1 → Ok G1 M2 H1 → Dq K G1 v (ea x) → (∀ s2 σ2 G2 M3 H2, s' = .inl s2 → Same G1 G2 → Ok G2 M3 H2 → J s2 σ2 G2 M3 → N σ2 H2) → g v σ1 H1 fun σ2 H2 => tb { D with nx := N, ct := N, bk := u D } σ2 H2)
    (hd : ∀ s σ1 G1 M2 H1, fin = .inl s → Same G G1 → Ok G1 M2 H1 → J s σ1 G1 M2 → u D σ1 H1) : tSeq (tFor wi g tb) u D σ H := by
  refine q_for src ok (fun i σ1 G1 M2 => ∃ s, J s σ1 G1 M2 ∧ forR f (xs.drop i) s = some fin) (fun G' s' => ⟨st, h0 G' s', hf⟩) ?_ (fun i σ1 G1 G2 M2 ⟨s, j, e⟩ s2 => ⟨s, hJ s σ1 G1 G2 M2 j s2, e⟩) ?_
  · rintro i d v σ1 G1 M2 H1 N hd ⟨s, j, e⟩ s1 k1 hv hN
    rw [List.getElem?_map] at hd
    cases ex : xs[i]? with
    | none => rw [ex] at hd; cases hd
    | some x =>
      rw [ex] at hd
      cases hd
      rw [drop_cons ex] at e
      obtain ⟨s', e1, e2⟩ := bs e
      refine hs x v s s' σ1 G1 M2 H1 N e1 (fun r er => ?_) j s1 k1 hv fun s2 σ2 G2 M3 H2 es s2' k2 j2 => ?_
      · subst er
        exact (Option.some.inj e2).symm
      · subst es
        exact hN σ2 G2 M3 H2 s2' k2 ⟨s2, j2, e2⟩
  · rintro σ1 G1 M2 H1 s1 k1 ⟨s, j, e⟩
    rw [List.length_map, List.drop_length] at e
    exact hd s σ1 G1 M2 H1 (Option.some.inj e).symm s1 k1 j
theorem q_whileO {S : Type} {c : S → Option Bool} {f : S → Option S} {st fin : S} {n : Nat} {tc : TT} {tb : TS} (ok : Ok G M H) (J : S → St → Hp → Hp → Prop) (hf : whileO c f n st = some fin) (h0 : J st σ G M)
    (hc : ∀ s b σ1 G1 M2 H1, c s = some b → J s σ1 G1 M2 → Same G G1 → Ok G1 M2 H1 → EvT tc σ1 G1 M2 M2 b)
    (hJ : ∀ s σ1 G1 G2 M2, J s σ1 G1 M2 → Same G1 G2 → J s σ1 G2 M2)
    (hs : ∀ s s' σ1 G1 M2 H1 (N : St → Hp → Prop), c s = some true → f s = some s' → J s σ1 G1 M2 → Same G G1 → Ok G1 M2 H1 → (∀ σ2 G2 M3 H2, Same G1 G2 → Ok G2 M3 H2 → J s' σ2 G2 M3 → N σ2 H2) → tb { D with nx := N, ct := N, bk := u D } σ1 H1)
    (hd : ∀ σ1 G1 M2 H1, c fin = some false → Same G G1 → Ok G1 M2 H1 → J fin σ1 G1 M2 → u D σ1 H1) : tSeq (tWhile tc tb) u D σ H := by
  refine q_while ok (fun m σ1 G1 M2 => ∃ s, J s σ1 G1 M2 ∧ whileO c f m s = some fin) n ⟨st, h0, hf⟩ ?_
  rintro m σ1 G1 M2 H1 ⟨s, j, e⟩ s1 k1
  cases m with
  | zero => cases e
  | succ m =>
    obtain ⟨b, e1, e2⟩ := bs e
    refine ⟨M2, b, hc s b σ1 G1 M2 H1 e1 j s1 k1, fun eb G2 H2 N s2 k2 hN => ?_, fun eb G2 H2 s2 k2 => ?_⟩
    · subst eb
      obtain ⟨s', e3, e4⟩ := bs e2
      exact hs s s' σ1 G2 M2 H2 N e1 e3 (hJ s σ1 G1 G2 M2 j s2) (s1.trans s2) k2 fun σ2 G3 M3 H3 s3 k3 j3 => hN m σ2 G3 M3 H3 (Nat.lt_succ_self m) s3 k3 ⟨s', j3, e4⟩
    · subst eb
      cases e2
      exact hd σ1 G2 M2 H2 e1 (s1.trans s2) k2 (hJ _ σ1 G1 G2 M2 j s2)
/-! ### a def's end -/
theorem same_fin {M0 M : Hp} {s : Addr} {o : HO} (hB : ∀ a u, a ≠ s → M0 a = some u → M a = some u) (hs : M s = some o) : Same (upd M0 s o) M := fun a u e => by
  by_cases ha : a = s
  · subst ha; rw [upd_same] at e; rw [hs]; exact e
  · rw [upd_ne ha] at e; exact hB a u ha e
theorem Ok.giveL {G M M0 H : Hp} {p : Addr} {o : HO} (k : Ok G M H) (hp : M p = some o) (h0 : M0 p = none) (hB : Same M0 M) : Ok (upd G p o) M0 H := by
  refine ⟨fun a u e => ?_, fun a u e => k.m a u (hB a u e), fun a u e => ?_, fun a u e => k.mu a u (hB a u e)⟩
  · by_cases ha : a = p
    · subst ha; rw [upd_same] at e; exact k.m a u (hp.trans e)
    · rw [upd_ne ha] at e; exact k.g a u e
  · rw [upd_ne (ne_of_none e h0)]
    exact k.d a u (hB a u e)
end
end Kx

end

section
set_option maxHeartbeats 2000000
namespace Kx
open PySem L2
section
variable {K : PySem.W.Frag} {σ σ' : St} {G G' M M1 M2 M3 : Hp} {ta tb te tc : TE} {P P1 P2 : VP} {d e : Dat} {ds es : List Dat} {D : Ends} {H : Hp} {u : TS}
theorem nrm {F : St → Hp → Prop} (e : σ = σ') (h : F σ' H) : F σ H := e ▸ h
theorem gn {i : Nat} {v : V} {Q : St → Hp → Prop} (h : Q (σ.set i (some v)) H) : gName i v σ H Q := h
theorem gNil_eq {Q : St → Hp → Prop} : (fun σ' H' => gNil [] σ' H' Q) = Q := by
  funext σ' H'
  exact propext ⟨fun h => h.2, fun h => ⟨rfl, h⟩⟩
theorem gOne_eq {g : TG} {v : V} {Q : St → Hp → Prop} : (fun σ' H' => gCons g gNil [v] σ' H' Q) = fun σ' H' => g v σ' H' Q := by
  funext σ' H'
  refine propext ⟨fun ⟨w, r, e, z⟩ => ?_, fun z => ⟨v, [], rfl, ?_⟩⟩
  · cases e
    rw [gNil_eq] at z
    exact z
  · rw [gNil_eq]
    exact z
theorem gTwo_eq {g h : TG} {v w : V} {Q : St → Hp → Prop} : (fun σ' H' => gCons g (gCons h gNil) [v, w] σ' H' Q) = fun σ' H' => g v σ' H' fun σ1 H1 => h w σ1 H1 Q := by
  funext σ' H'
  refine propext ⟨fun ⟨x, r, e, z⟩ => ?_, fun z => ⟨v, [w], rfl, ?_⟩⟩
  · cases e
    rw [gOne_eq] at z
    exact z
  · rw [gOne_eq]
    exact z
theorem gt2 {g1 g2 : TG} {v : V} {Q : St → Hp → Prop} {d1 d2 : Dat} (hv : Dq K G v (.tuple [d1, d2])) (s : Same G H) (h : ∀ v1 v2, Dq K G v1 d1 → Dq K G v2 d2 → g1 v1 σ H fun σ1 H1 => g2 v2 σ1 H1 Q) : gTup K 2 (gCons g1 (gCons g2 gNil)) v σ H Q := by
  obtain ⟨a, vs, rfl, h1, h2⟩ := dp_tuple hv
  cases h2 with
  | cons a1 b1 =>
    cases b1 with
    | cons a2 b2 =>
      cases b2
      refine ⟨a, _, rfl, sqT_up s h1, rfl, _, _, rfl, ?_⟩
      rw [gOne_eq]
      exact h _ _ a1 a2
theorem gr2 {g1 g2 : TG} {v : V} {Q : St → Hp → Prop} {d1 d2 : Dat} (hv : Dq K G v (.rtup [d1, d2])) (s : Same G H) (h : ∀ v1 v2, Dq K G v1 d1 → Dq K G v2 d2 → g1 v1 σ H fun σ1 H1 => g2 v2 σ1 H1 Q) : gTup K 2 (gCons g1 (gCons g2 gNil)) v σ H Q := by
  obtain ⟨a, vs, rfl, h1, h2⟩ := dp_rtup hv
  cases h2 with
  | cons a1 b1 =>
    cases b1 with
    | cons a2 b2 =>
      cases b2
      refine ⟨a, _, rfl, (.inl (.inl (s _ _ h1))), rfl, _, _, rfl, ?_⟩
      rw [gOne_eq]
      exact h _ _ a1 a2
theorem gt3 {g1 g2 g3 : TG} {v : V} {Q : St → Hp → Prop} {d1 d2 d3 : Dat} (hv : Dq K G v (.tuple [d1, d2, d3])) (s : Same G H) (h : ∀ v1 v2 v3, Dq K G v1 d1 → Dq K G v2 d2 → Dq K G v3 d3 → g1 v1 σ H fun σ1 H1 => g2 v2 σ1 H1 fun σ2 H2 => g3 v3 σ2 H2 Q) : gTup K 3 (gCons g1 (gCons g2 (gCons g3 gNil))) v σ H Q := by
  obtain ⟨a, vs, rfl, h1, h2⟩ := dp_tuple hv
  cases h2 with
  | cons a1 b1 =>
    cases b1 with
    | cons a2 b2 =>
      cases b2 with
      | cons a3 b3 =>
        cases b3
        refine ⟨a, _, rfl, sqT_up s h1, rfl, _, _, rfl, ?_⟩
        rw [gTwo_eq]
        exact h _ _ _ a1 a2 a3
/-- x = e with any target: the target's own reading is left -/
theorem q_asgG {g : TG} (he : Ev te σ G M M1 P) (ok : Ok G M H) (k : ∀ v G' H', Same G G' → Ok G' M1 H' → P v G' → g v σ H' (u D)) : tSeq (tAsg te g) u D σ H :=
  he G H (Same.refl _) ok _ k
/-- a store into a list of one's own, as a target -/
theorem gs_list {p : Addr} {vs : List V} {i : Int} {j : Nat} {v : V} {Q : St → Hp → Prop} (ho : Ev ta σ G M M (OW p)) (hi : Ev tb σ G M M1 (DD K (.int i))) (hp : M1 p = some (.lst vs)) (hj : ixN vs.length i = some j) (ok : Ok G M H)
    (k : ∀ G' H', Same G G' → Ok G' (upd M1 p (.lst (vs.set j v))) H' → Q σ H') : gSub ta tb rSetL v σ H Q :=
  ho G H (Same.refl _) ok _ fun x G2 H2 s2 k2 hx => hi G2 H2 s2 k2 _ fun y G3 H3 s3 k3 hy => by
    cases hx; cases hy
    exact ⟨p, vs, i, j, rfl, rfl, k3.m _ _ hp, hj, k G3 _ (s2.trans s3) (k3.chg _ hp)⟩
end
end Kx

end

section
set_option maxHeartbeats 2000000
namespace Kx
open PySem L2
def catO {α : Type} (xs ys : List α) : Option (List α) := (grd (xs.length + ys.length ≤ 16777216)).bind fun _ => some (xs ++ ys)
theorem catO_of {α : Type} {xs ys r : List α} (h : catO xs ys = some r) : xs.length + ys.length ≤ 16777216 ∧ r = xs ++ ys := by
  obtain ⟨_, h1, h2⟩ := bs h
  exact ⟨grd_of h1, (Option.some.inj h2).symm⟩
def repO {α : Type} (x : α) (n : Int) : Option (List α) := (grd (-16777216 ≤ n ∧ n < 16777216)).bind fun _ => some (List.replicate n.toNat x)
def appO {α : Type} (xs : List α) (x : α) : Option (List α) := (grd (xs.length < 16777216)).bind fun _ => some (xs ++ [x])
theorem appO_of {α : Type} {xs r : List α} {x : α} (h : appO xs x = some r) : xs.length < 16777216 ∧ r = xs ++ [x] := by
  obtain ⟨_, h1, h2⟩ := bs h
  exact ⟨grd_of h1, (Option.some.inj h2).symm⟩
def rngO (n : Int) : Option (List Int) := (grd (-(2 ^ 62) ≤ n ∧ n < 2 ^ 62)).bind fun _ => some (irange 0 n)
def rng2O (m n : Int) : Option (List Int) := (grd ((-(2 ^ 62) ≤ m ∧ m < 2 ^ 62) ∧ -(2 ^ 62) ≤ n ∧ n < 2 ^ 62)).bind fun _ => some (irange m n)
def setO {α : Type} (xs : List α) (i : Int) (x : α) : Option (List α) := (ixN xs.length i).bind fun j => some (xs.set j x)
theorem setO_of {α : Type} {xs r : List α} {i : Int} {x : α} (h : setO xs i x = some r) : ∃ j, ixN xs.length i = some j ∧ r = xs.set j x := by
  obtain ⟨j, h1, h2⟩ := bs h
  exact ⟨j, h1, (Option.some.inj h2).symm⟩
def popO {α : Type} (xs : List α) (i : Int) : Option (α × List α) := (grd (-(2 ^ 63) ≤ i ∧ i < 2 ^ 63)).bind fun _ => (seqIndex? i xs.length).bind fun k => (xs[k]?).bind fun x => some (x, xs.eraseIdx k)
def dmO (i j : Int) : Option (Int × Int) := (grd (CDivW i j)).bind fun _ => some (i / j, i % j)
theorem dmO_of {i j : Int} {r : Int × Int} (h : dmO i j = some r) : CDivW i j ∧ r = (i / j, i % j) := by
  obtain ⟨_, h1, h2⟩ := bs h
  exact ⟨grd_of h1, (Option.some.inj h2).symm⟩
def orR {S R T : Type} (x : S ⊕ R) (f : S → Option T) (g : R → Option T) : Option T := match x with
  | .inl s => f s
  | .inr r => g r

/-! ### encodings that == reads -/
structure EqE {α : Type} [DecidableEq α] (e : α → Dat) (n : Nat) : Prop where
  pur : ∀ x, pur (e x) = true
  dep : ∀ x, (toPy (e x)).depth ≤ n
  eqv : ∀ x y, PyData.eqv (toPy (e x)) (toPy (e y)) = decide (x = y)
theorem beq_dec {α : Type} [DecidableEq α] [BEq α] [LawfulBEq α] (x y : α) : (x == y) = decide (x = y) := by
  by_cases h : x = y <;> simp [h]
theorem eqe_int : EqE Dat.int 0 := ⟨fun _ => by unfold Kx.pur; rfl, fun _ => by unfold toPy PyData.depth; exact Nat.le_refl _, fun x y => by unfold toPy PyData.eqv; exact beq_dec x y⟩
theorem eqe_bool : EqE Dat.bool 0 := ⟨fun _ => by unfold Kx.pur; rfl, fun _ => by unfold toPy PyData.depth; exact Nat.le_refl _, fun x y => by unfold toPy PyData.eqv; exact beq_dec x y⟩
theorem eqe_str : EqE Dat.str 0 := ⟨fun _ => by unfold Kx.pur; rfl, fun _ => by unfold toPy PyData.depth; exact Nat.le_refl _, fun x y => by unfold toPy PyData.eqv; exact beq_dec x y⟩
theorem toPys_map : ∀ ds : List Dat, toPys ds = ds.map toPy
  | [] => by unfold toPys; rfl
  | d :: ds => by unfold toPys; rw [toPys_map ds]; rfl
theorem purs_all : ∀ {ds : List Dat}, (∀ d ∈ ds, pur d = true) → purs ds = true
  | [], _ => by unfold purs; rfl
  | d :: ds, h => by
    unfold purs
    rw [h d List.mem_cons_self, purs_all fun x hx => h x (List.mem_cons_of_mem _ hx)]
    rfl
theorem toPy_list {ds : List Dat} : toPy (.list ds) = .list (ds.map toPy) := by unfold toPy; rw [toPys_map]
theorem toPy_tuple {ds : List Dat} : toPy (.tuple ds) = .tuple (ds.map toPy) := by unfold toPy; rw [toPys_map]
theorem pur_list {ds : List Dat} (h : ∀ d ∈ ds, pur d = true) : pur (.list ds) = true := by unfold pur; exact purs_all h
theorem pur_tuple {ds : List Dat} (h : ∀ d ∈ ds, pur d = true) : pur (.tuple ds) = true := by unfold pur; exact purs_all h
section
variable {α β γ : Type} [DecidableEq α] [DecidableEq β] [DecidableEq γ] {e : α → Dat} {e2 : β → Dat} {e3 : γ → Dat} {n n2 n3 : Nat}
theorem depAll (h : ∀ x, (toPy (e x)).depth ≤ n) : ∀ xs : List α, PyData.depthAll ((xs.map e).map toPy) ≤ n
  | [] => Nat.zero_le _
  | x :: xs => by
    have h1 := h x
    have h2 := depAll h xs
    rw [List.map_cons, List.map_cons]
    unfold PyData.depthAll
    omega
theorem eqvAll_map (h : ∀ x y, PyData.eqv (toPy (e x)) (toPy (e y)) = decide (x = y)) : ∀ xs ys : List α, PyData.eqvAll ((xs.map e).map toPy) ((ys.map e).map toPy) = decide (xs = ys)
  | [], [] => by simp [PyData.eqvAll]
  | [], _ :: _ => by simp [PyData.eqvAll]
  | _ :: _, [] => by simp [PyData.eqvAll]
  | x :: xs, y :: ys => by
    rw [List.map_cons, List.map_cons, List.map_cons, List.map_cons]
    unfold PyData.eqvAll
    rw [h x y, eqvAll_map h xs ys]
    by_cases h1 : x = y <;> by_cases h2 : xs = ys <;> simp [h1, h2]
theorem purMap (h : EqE e n) (xs : List α) : ∀ d ∈ xs.map e, pur d = true := fun d hd => by
  obtain ⟨x, _, rfl⟩ := List.mem_map.mp hd
  exact h.pur x
theorem eqe_L (h : EqE e n) : EqE (eL e) (n + 1) := ⟨fun xs => pur_list (purMap h xs), fun xs => by rw [toPy_list]; unfold PyData.depth; exact Nat.succ_le_succ (depAll h.dep xs), fun xs ys => by rw [toPy_list, toPy_list]; unfold PyData.eqv; exact eqvAll_map h.eqv xs ys⟩
theorem eqe_T (h : EqE e n) : EqE (eT e) (n + 1) := ⟨fun xs => pur_tuple (purMap h xs), fun xs => by rw [toPy_tuple]; unfold PyData.depth; exact Nat.succ_le_succ (depAll h.dep xs), fun xs ys => by rw [toPy_tuple, toPy_tuple]; unfold PyData.eqv; exact eqvAll_map h.eqv xs ys⟩
theorem eqe_P2 (h : EqE e n) (h2 : EqE e2 n2) : EqE (eP2 e e2) (n + n2 + 1) := by
  refine ⟨fun p => pur_tuple fun d hd => ?_, fun p => ?_, fun p q => ?_⟩
  · rcases List.mem_cons.mp hd with h1 | hd
    · rw [h1]; exact h.pur _
    · have : d = e2 p.2 := by simpa using hd
      rw [this]; exact h2.pur _
  · have a := h.dep p.1
    have b := h2.dep p.2
    rw [toPy_tuple]
    simp only [List.map_cons, List.map_nil, PyData.depth, PyData.depthAll]
    omega
  · obtain ⟨p1, p2⟩ := p
    obtain ⟨q1, q2⟩ := q
    rw [toPy_tuple, toPy_tuple]
    simp only [List.map_cons, List.map_nil, PyData.eqv, PyData.eqvAll, h.eqv, h2.eqv, Bool.and_true]
    by_cases a : p1 = q1 <;> by_cases b : p2 = q2 <;> simp [a, b]
theorem eqe_P3 (h : EqE e n) (h2 : EqE e2 n2) (h3 : EqE e3 n3) : EqE (eP3 e e2 e3) (n + n2 + n3 + 1) := by
  refine ⟨fun p => pur_tuple fun d hd => ?_, fun p => ?_, fun p q => ?_⟩
  · have : d = e p.1 ∨ d = e2 p.2.1 ∨ d = e3 p.2.2 := by simpa using hd
    rcases this with z | z | z
    · rw [z]; exact h.pur _
    · rw [z]; exact h2.pur _
    · rw [z]; exact h3.pur _
  · have a := h.dep p.1
    have b := h2.dep p.2.1
    have c := h3.dep p.2.2
    rw [toPy_tuple]
    simp only [List.map_cons, List.map_nil, PyData.depth, PyData.depthAll]
    omega
  · obtain ⟨p1, p2, p3⟩ := p
    obtain ⟨q1, q2, q3⟩ := q
    rw [toPy_tuple, toPy_tuple]
    simp only [List.map_cons, List.map_nil, PyData.eqv, PyData.eqvAll, h.eqv, h2.eqv, h3.eqv, Bool.and_true]
    by_cases a : p1 = q1 <;> by_cases b : p2 = q2 <;> by_cases c : p3 = q3 <;> simp [a, b, c]
/-- what == never takes for None -/
def NoneNe (e : α → Dat) : Prop := ∀ x, PyData.eqv .none (toPy (e x)) = false ∧ PyData.eqv (toPy (e x)) .none = false
theorem nn_T : NoneNe (eT e) := fun xs => by rw [toPy_tuple]; unfold PyData.eqv; exact ⟨rfl, rfl⟩
theorem nn_L : NoneNe (eL e) := fun xs => by rw [toPy_list]; unfold PyData.eqv; exact ⟨rfl, rfl⟩
theorem nn_int : NoneNe Dat.int := fun xs => by unfold toPy PyData.eqv; exact ⟨rfl, rfl⟩
theorem nn_str : NoneNe Dat.str := fun xs => by unfold toPy PyData.eqv; exact ⟨rfl, rfl⟩
theorem nn_bool : NoneNe Dat.bool := fun xs => by unfold toPy PyData.eqv; exact ⟨rfl, rfl⟩
theorem nn_P2 {e2 : β → Dat} : NoneNe (eP2 e e2) := fun xs => by rw [toPy_tuple]; unfold PyData.eqv; exact ⟨rfl, rfl⟩
theorem nn_P3 {e2 : β → Dat} {e3 : γ → Dat} : NoneNe (eP3 e e2 e3) := fun xs => by rw [toPy_tuple]; unfold PyData.eqv; exact ⟨rfl, rfl⟩
/-- None or a thing -/
theorem eqe_O (k : NoneNe e) (h : EqE e n) : EqE (eO e) n := by
  refine ⟨fun o => ?_, fun o => ?_, fun o p => ?_⟩
  · cases o with
    | none => show pur .none = true; unfold pur; rfl
    | some x => exact h.pur x
  · cases o with
    | none => show (toPy .none).depth ≤ n; unfold toPy PyData.depth; exact Nat.zero_le _
    | some x => exact h.dep x
  · have e0 : toPy (eO e none) = .none := by show toPy .none = _; unfold toPy; rfl
    cases o with
    | none =>
      cases p with
      | none => rw [e0]; unfold PyData.eqv; simp
      | some y => rw [e0, show toPy (eO e (some y)) = toPy (e y) from rfl, (k y).1]; simp
    | some x =>
      cases p with
      | none => rw [e0, show toPy (eO e (some x)) = toPy (e x) from rfl, (k x).2]; simp
      | some y =>
        show PyData.eqv (toPy (e x)) (toPy (e y)) = _
        rw [h.eqv]
        simp
end
section
variable {α β γ : Type} [DecidableEq α] {e : α → Dat} {n : Nat} {K : PySem.W.Frag} {σ : St} {G G' M M1 M2 M3 : Hp} {ta tb te tc : TE} {ds es : List Dat}
theorem ev_eqE {x y : α} (h : EqE e n) (hn : n ≤ 63) (ha : Ev ta σ G M M1 (DD K (e x))) (hb : Ev tb σ G M1 M2 (DD K (e y))) : Ev (tOp (rEqD K) ta tb) σ G M M2 (DD K (.bool (decide (x = y)))) := by
  have := ev_eqD (h.pur x) (h.pur y) (Nat.le_trans (h.dep x) (by omega)) (Nat.le_trans (h.dep y) (by omega)) ha hb
  rw [h.eqv] at this
  exact this
theorem ev_neE {x y : α} (h : EqE e n) (hn : n ≤ 63) (ha : Ev ta σ G M M1 (DD K (e x))) (hb : Ev tb σ G M1 M2 (DD K (e y))) : Ev (tOp (rNeD K) ta tb) σ G M M2 (DD K (.bool (!decide (x = y)))) := by
  have := ev_neD (h.pur x) (h.pur y) (Nat.le_trans (h.dep x) (by omega)) (Nat.le_trans (h.dep y) (by omega)) ha hb
  rw [h.eqv] at this
  exact this
def memB {α : Type} [DecidableEq α] (x : α) (xs : List α) : Bool := decide (x ∈ xs)
theorem any_eqv (h : EqE e n) (x : α) : ∀ xs : List α, ((toPys (xs.map e)).any fun z => PyData.eqv z (toPy (e x))) = decide (x ∈ xs)
  | [] => by rw [toPys_map]; simp
  | y :: ys => by
    have ih := any_eqv h x ys
    rw [toPys_map] at ih ⊢
    rw [List.map_cons, List.map_cons, List.any_cons, ih, h.eqv]
    by_cases a : x = y
    · simp [a]
    · simp [a, Ne.symm a]
theorem ev_inE {x : α} {xs : List α} (h : EqE e n) (hn : n ≤ 63) (ha : Ev ta σ G M M1 (DD K (e x))) (hb : Ev tb σ G M1 M2 (DD K (.list (xs.map e)))) : Ev (tOp (rInD K) ta tb) σ G M M2 (DD K (.bool (memB x xs))) := by
  have := ev_inD (h.pur x) ((eqe_L h).pur xs) (Nat.le_trans (h.dep x) (by omega)) (Nat.le_trans ((eqe_L h).dep xs) (by omega)) ha hb
  rw [any_eqv h] at this
  exact this
theorem ev_notInE {x : α} {xs : List α} (h : EqE e n) (hn : n ≤ 63) (ha : Ev ta σ G M M1 (DD K (e x))) (hb : Ev tb σ G M1 M2 (DD K (.list (xs.map e)))) : Ev (tOp (rNotInD K) ta tb) σ G M M2 (DD K (.bool (!memB x xs))) := by
  have := ev_notInD (h.pur x) ((eqe_L h).pur xs) (Nat.le_trans (h.dep x) (by omega)) (Nat.le_trans ((eqe_L h).dep xs) (by omega)) ha hb
  rw [any_eqv h] at this
  exact this
def NotN {α : Type} (e : α → Dat) : Prop := ∀ x, e x ≠ .none
theorem ev_isNO {o : Option β} {e : β → Dat} (hn : NotN e) (ha : Ev ta σ G M M1 (DD K (eO e o))) (hb : Ev tb σ G M1 M2 (DD K .none)) : Ev (tOp (fun x y H Q => y = .non ∧ Q (.bl (decide (x = .non))) H) ta tb) σ G M M2 (DD K (.bool o.isNone)) := by
  refine ev_is (ev_isN ha hb) (congrArg Dat.bool ?_)
  cases o with
  | none => rfl
  | some x =>
    show isND (e x) = false
    have := hn x
    unfold isND
    split
    · contradiction
    · rfl
theorem ev_notNO {o : Option β} {e : β → Dat} (hn : NotN e) (ha : Ev ta σ G M M1 (DD K (eO e o))) (hb : Ev tb σ G M1 M2 (DD K .none)) : Ev (tOp (fun x y H Q => y = .non ∧ Q (.bl (!decide (x = .non))) H) ta tb) σ G M M2 (DD K (.bool o.isSome)) := by
  refine ev_is (ev_notN ha hb) (congrArg Dat.bool ?_)
  cases o with
  | none => rfl
  | some x =>
    show (!isND (e x)) = true
    have := hn x
    unfold isND
    split
    · contradiction
    · rfl
theorem el_catO {xs ys zs : List β} {e : β → Dat} (h : catO xs ys = some zs) (ha : Ev ta σ G M M1 (DD K (.list (xs.map e)))) (hb : Ev tb σ G M1 M2 (DD K (.list (ys.map e)))) : EvL K (tOp rCat ta tb) σ G M M2 (zs.map e) := by
  obtain ⟨h1, rfl⟩ := catO_of h
  rw [List.map_append]
  exact el_cat (by rw [List.length_map, List.length_map]; exact szl h1) ha hb
theorem ev_catTO {xs ys zs : List β} {e : β → Dat} (h : catO xs ys = some zs) (ha : Ev ta σ G M M1 (DD K (.tuple (xs.map e)))) (hb : Ev tb σ G M1 M2 (DD K (.tuple (ys.map e)))) : Ev (tOp (rCatF K) ta tb) σ G M M2 (DD K (.tuple (zs.map e))) := by
  obtain ⟨h1, rfl⟩ := catO_of h
  rw [List.map_append]
  exact ev_catT (by rw [List.length_map, List.length_map]; exact szl h1) ha hb
theorem el_repO {x : β} {zs : List β} {k : Int} {e : β → Dat} (h : repO x k = some zs) (ha : Ev ta σ G M M1 (DD K (.list [e x]))) (hb : Ev tb σ G M1 M2 (DD K (.int k))) : EvL K (tOp rRep ta tb) σ G M M2 (zs.map e) := by
  obtain ⟨_, h1, h2⟩ := bs h
  cases h2
  have := grd_of h1
  rw [List.map_replicate]
  exact el_rep1 (by omega) (by omega) ha hb
theorem src_rngO {ta : TA} {k : Int} {xs : List Int} (h : rngO k = some xs) (ha : EvA ta σ G M M1 (conP (DD K (.int k)) nilP)) : Src K (iRng1 ta) σ G M M1 (xs.map Dat.int) := by
  obtain ⟨_, h1, h2⟩ := bs h
  cases h2
  exact src_range1 (grd_of h1).1 (grd_of h1).2 ha
theorem src_rng2O {ta : TA} {j k : Int} {xs : List Int} (h : rng2O j k = some xs) (ha : EvA ta σ G M M1 (conP (DD K (.int j)) (conP (DD K (.int k)) nilP))) : Src K (iRng2 ta) σ G M M1 (xs.map Dat.int) := by
  obtain ⟨_, h1, h2⟩ := bs h
  cases h2
  have z := grd_of h1
  exact src_range2 z.1.1 z.1.2 z.2.1 z.2.2 ha
theorem el_slLM {xs : List β} {e : β → Dat} {tl th : TO} {lo hi : Option Int} (h : Ev te σ G M M (DD K (.list (xs.map e)))) (h1 : EvO tl σ G M M lo) (h2 : EvO th σ G M M hi) : EvL K (tSl (rSlL K) te tl th) σ G M M ((cut xs lo hi).map e) := cut_map ▸ el_slL h h1 h2
theorem ev_slTM {xs : List β} {e : β → Dat} {tl th : TO} {lo hi : Option Int} (h : Ev te σ G M M (DD K (.tuple (xs.map e)))) (h1 : EvO tl σ G M M lo) (h2 : EvO th σ G M M hi) : Ev (tSl (rSlF K) te tl th) σ G M M (DD K (.tuple ((cut xs lo hi).map e))) := cut_map ▸ ev_slT h h1 h2
theorem ev_mulO {i j r : Int} (hc : mulO i j = some r) (ha : Ev ta σ G M M1 (DD K (.int i))) (hb : Ev tb σ G M1 M2 (DD K (.int j))) : Ev (tOp (rI CMulO fun i j => .int (i * j)) ta tb) σ G M M2 (DD K (.int r)) := by
  obtain ⟨h, rfl⟩ := mulO_of hc
  exact ev_op mo_dd ha hb (rv_I (f := fun i j => .int (i * j)) (fun i j _ => .int _) h)
theorem ev_fdivO {i j r : Int} (hc : fdivO i j = some r) (ha : Ev ta σ G M M1 (DD K (.int i))) (hb : Ev tb σ G M1 M2 (DD K (.int j))) : Ev (tOp (rI CDivO fun i j => .int (i.fdiv j)) ta tb) σ G M M2 (DD K (.int r)) := by
  obtain ⟨h, rfl⟩ := fdivO_of hc
  exact ev_op mo_dd ha hb (rv_I (f := fun i j => .int (i.fdiv j)) (fun i j _ => .int _) h)
theorem ev_modO {i j r : Int} (hc : modO i j = some r) (ha : Ev ta σ G M M1 (DD K (.int i))) (hb : Ev tb σ G M1 M2 (DD K (.int j))) : Ev (tOp (rI (fun _ j => j ≠ 0) fun i j => .int (i.fmod j)) ta tb) σ G M M2 (DD K (.int r)) := by
  obtain ⟨h, rfl⟩ := modO_of hc
  exact ev_mod h ha hb
theorem ev_powO {i j r : Int} (hc : powO i j = some r) (ha : Ev ta σ G M M1 (DD K (.int i))) (hb : Ev tb σ G M1 M2 (DD K (.int j))) : Ev (tOp (rI CPow fun i j => .int (i ^ j.toNat)) ta tb) σ G M M2 (DD K (.int r)) := by
  obtain ⟨h, rfl⟩ := powO_of hc
  exact ev_pow h ha hb
theorem ev_dmO {i j : Int} {r : Int × Int} (hc : dmO i j = some r) (ha : EvA (tCons ta (tCons tb tNil)) σ G M M1 (conP (DD K (.int i)) (conP (DD K (.int j)) nilP))) : Ev (tCB rDivmod (tCons ta (tCons tb tNil))) σ G M M1 (DD K (eR2 Dat.int Dat.int r)) := by
  obtain ⟨h, rfl⟩ := dmO_of hc
  exact ev_divmod h ha
theorem ev_ixLM {xs : List β} {e : β → Dat} {i : Int} {x : β} (hi : atI xs i = some x) (ha : Ev ta σ G M M1 (DD K (.list (xs.map e)))) (hb : Ev tb σ G M1 M2 (DD K (.int i))) : Ev (tOp (rIxL K) ta tb) σ G M M2 (DD K (e x)) := ev_ixL (atI_map hi) ha hb
theorem ev_ixTM {xs : List β} {e : β → Dat} {i : Int} {x : β} (hi : atI xs i = some x) (ha : Ev ta σ G M M1 (DD K (.tuple (xs.map e)))) (hb : Ev tb σ G M1 M2 (DD K (.int i))) : Ev (tOp (rIxT K) ta tb) σ G M M2 (DD K (e x)) := ev_ixT (atI_map hi) ha hb
theorem ev_ixOM {xs : List β} {e : β → Dat} {i : Int} {x : β} {p : Addr} {vs : List V} (hi : atI xs i = some x) (hp : M2 p = some (.lst vs)) (hv : DqAll K G vs (xs.map e)) (ha : Ev ta σ G M M1 (OW p)) (hb : Ev tb σ G M1 M2 (DD K (.int i))) : Ev (tOp (rIxL K) ta tb) σ G M M2 (DD K (e x)) := ev_ixO ha hb hp hv (atI_map hi)
/-- an owned list read as a whole: it is lent -/
theorem ev_lenLM {xs : List β} {e : β → Dat} (ha : EvA (tCons ta tNil) σ G M M1 (conP (DD K (.list (xs.map e))) nilP)) : Ev (tCB (rLen K) (tCons ta tNil)) σ G M M1 (DD K (.int (xs.length : Int))) := ev_is (ev_lenL ha) (by rw [List.length_map])
theorem ev_lenTM {xs : List β} {e : β → Dat} (ha : EvA (tCons ta tNil) σ G M M1 (conP (DD K (.tuple (xs.map e))) nilP)) : Ev (tCB (rLen K) (tCons ta tNil)) σ G M M1 (DD K (.int (xs.length : Int))) := ev_is (ev_lenT ha) (by rw [List.length_map])
theorem ev_lenOM {xs : List β} {e : β → Dat} {p : Addr} {vs : List V} (hp : M1 p = some (.lst vs)) (hd : DqAll K G vs (xs.map e)) (ha : EvA (tCons ta tNil) σ G M M1 (conP (OW p) nilP)) : Ev (tCB (rLen K) (tCons ta tNil)) σ G M M1 (DD K (.int (xs.length : Int))) := ev_is (ev_lenO hp hd ha) (by rw [List.length_map])
end
/-! ### the part that may be changed, kept -/
theorem up_ne {M : Hp} {p q : Addr} {o u : HO} (n : q ≠ p) (h : M q = some o) : (upd M p u) q = some o := (upd_ne n).trans h
theorem hB_draw {M0 M : Hp} {s : Addr} {o : HO} (hB : ∀ a u, a ≠ s → M0 a = some u → M a = some u) : ∀ a u, a ≠ s → M0 a = some u → (upd M s o) a = some u := fun a u h1 h2 => (upd_ne h1).trans (hB a u h1 h2)
theorem hB_own {M0 M : Hp} {s p : Addr} {o : HO} (hB : ∀ a u, a ≠ s → M0 a = some u → M a = some u) (h0 : M0 p = none) : ∀ a u, a ≠ s → M0 a = some u → (upd M p o) a = some u := fun a u h1 h2 => (upd_ne (ne_of_none h2 h0)).trans (hB a u h1 h2)
theorem sB_own {M0 M : Hp} {p : Addr} {o : HO} (hB : Same M0 M) (h0 : M0 p = none) : Same M0 (upd M p o) := fun a u h2 => (upd_ne (ne_of_none h2 h0)).trans (hB a u h2)
theorem hB_none {M0 M : Hp} {s p : Addr} {o : HO} (hB : ∀ a u, a ≠ s → M0 a = some u → M a = some u) (hs : M s = some o) (h : M p = none) : M0 p = none := by
  cases e : M0 p with
  | none => rfl
  | some u =>
    have n : p ≠ s := fun z => by rw [z, hs] at h; cases h
    rw [hB p u n e] at h
    cases h
theorem sB_none {M0 M : Hp} {p : Addr} (hB : Same M0 M) (h : M p = none) : M0 p = none := hB.free h
end Kx

end

section
set_option maxHeartbeats 2000000
theorem L2.Room.un65 {k : Nat} {A : PySem.Around} (r : L2.Room k A) : A.units + 65 < PySem.cLine := by have := r.un; omega
namespace Kx
open PySem L2
section
variable {K : PySem.W.Frag} {σ σ' : St} {G G' M M1 M2 M3 : Hp} {ta tb te tc : TE} {P P1 P2 : VP} {d e : Dat} {ds es : List Dat} {D : Ends} {H : Hp} {u : TS}
theorem ev_uu2 {s : Addr} {a b : HO} (h : Ev te σ G M (upd (upd M1 s a) s b) P) : Ev te σ G M (upd M1 s b) P := by rw [upd_upd] at h; exact h
theorem ev_uu3 {s : Addr} {a b c : HO} (h : Ev te σ G M (upd (upd (upd M1 s a) s b) s c) P) : Ev te σ G M (upd M1 s c) P := by rw [upd_upd, upd_upd] at h; exact h
theorem ev_ifC {α : Type} {e : α → Dat} {t : TT} {b : Bool} {x y : α} (h : EvT t σ G M M1 b) (h1 : b = true → Ev ta σ G M1 M2 (DD K (e x))) (h2 : b = false → Ev tb σ G M1 M2 (DD K (e y))) : Ev (tIf t ta tb) σ G M M2 (DD K (e (cond b x y))) :=
  ev_if h (fun z => by subst z; exact h1 rfl) (fun z => by subst z; exact h2 rfl)
theorem ev_isiO {β : Type} {e : β → Dat} {o : Option (List β)} (ha : EvA (tCons ta (tCons tb tNil)) σ G M M1 (conP (DD K (eO (eT e) o)) (conP (CLS "tuple") nilP))) : Ev (tCB (rIsi K) (tCons ta (tCons tb tNil))) σ G M M1 (DD K (.bool o.isSome)) := by
  cases o with
  | none => exact ev_isi (d := .none) rfl (show kitB "NoneType" "tuple" = some false by decide +kernel) ha
  | some x => exact ev_isi (d := .tuple (x.map e)) rfl (show kitB "tuple" "tuple" = some true by decide +kernel) ha
/-- == of a list of one's own -/
theorem own_shp {α : Type} [DecidableEq α] {e : α → Dat} {n : Nat} {xs : List α} {vs : List V} (h : EqE e n) (hn : n ≤ 62) (hd : DqAll K G vs (xs.map e)) : SeqAt.shaped (toPy (eL e xs)) = true := by
  unfold SeqAt.shaped
  have := dqAll_lay (xs.map e) (purs_all (purMap h xs)) hd
  have e1 : (toPy (eL e xs)).canLay0 = true := by
    show (toPy (.list (xs.map e))).canLay0 = true
    unfold toPy PyData.canLay0
    exact this
  rw [e1]
  have := (eqe_L h).dep xs
  simp only [Bool.true_and, decide_eq_true_eq]
  omega
theorem own_dp {α : Type} [DecidableEq α] {e : α → Dat} {n : Nat} {xs : List α} {p : Addr} {vs : List V} (h : EqE e n) {H : Hp} (hp : H p = some (.lst vs)) (hd : DqAll K H vs (xs.map e)) : Dp K H (.ref p) (toPy (eL e xs)) := by
  show Dp K H (.ref p) (toPy (.list (xs.map e)))
  unfold toPy
  exact .lst (.inl (.inl hp)) (dqAll_dp _ (purs_all (purMap h xs)) hd)
theorem ev_eqOw {α : Type} [DecidableEq α] {e : α → Dat} {n : Nat} {xs ys : List α} {p : Addr} {vs : List V} (h : EqE e n) (hn : n ≤ 62) (hp : M2 p = some (.lst vs)) (hd : DqAll K G vs (xs.map e)) (ha : Ev ta σ G M M1 (OW p)) (hb : Ev tb σ G M1 M2 (DD K (.list (ys.map e)))) : Ev (tOp (rEqD K) ta tb) σ G M M2 (DD K (.bool (decide (xs = ys)))) :=
  ev_op mo_ow ha hb fun x y G0 H s k hx hy Q q => by
    cases hx
    refine ⟨toPy (eL e xs), toPy (eL e ys), own_dp h (k.m _ _ hp) (dpAll_up (s.trans k.g) _ hd), dq_dp _ ((eqe_L h).pur ys) (dp_up k.g _ hy), own_shp h hn hd, shp_of (n := 0) ((eqe_L h).pur ys) (Nat.le_trans ((eqe_L h).dep ys) (by omega)) hy, ?_⟩
    rw [(eqe_L h).eqv]
    exact q _ G0 H (Same.refl _) k (.bl _)
theorem ev_neOw {α : Type} [DecidableEq α] {e : α → Dat} {n : Nat} {xs ys : List α} {p : Addr} {vs : List V} (h : EqE e n) (hn : n ≤ 62) (hp : M2 p = some (.lst vs)) (hd : DqAll K G vs (xs.map e)) (ha : Ev ta σ G M M1 (OW p)) (hb : Ev tb σ G M1 M2 (DD K (.list (ys.map e)))) : Ev (tOp (rNeD K) ta tb) σ G M M2 (DD K (.bool (!decide (xs = ys)))) :=
  ev_op mo_ow ha hb fun x y G0 H s k hx hy Q q => by
    cases hx
    refine ⟨toPy (eL e xs), toPy (eL e ys), own_dp h (k.m _ _ hp) (dpAll_up (s.trans k.g) _ hd), dq_dp _ ((eqe_L h).pur ys) (dp_up k.g _ hy), own_shp h hn hd, shp_of (n := 0) ((eqe_L h).pur ys) (Nat.le_trans ((eqe_L h).dep ys) (by omega)) hy, ?_⟩
    rw [(eqe_L h).eqv]
    exact q _ G0 H (Same.refl _) k (.bl _)
/-! ### a, b = e1, e2 -/
theorem k_par {i j : Nat} {ta : TA} (h : ta σ H fun vs H1 => ∃ v w, vs = [v, w] ∧ u D ((σ.set i (some v)).set j (some w)) H1) : tSeq (tPar i j ta) u D σ H := h
/-- data and a new list of one's own -/
theorem q_parDL {i j : Nat} {σ' : V → V → St} (ha : Ev ta σ G M M1 P1) (m : Mo P1) (hb : EvL K tb σ G M1 M2 ds) (ok : Ok G M H) (hσ : ∀ v w, (σ.set i (some v)).set j (some w) = σ' v w)
    (k : ∀ v p vs G' H', Same G G' → Ok G' (upd M2 p (.lst vs)) H' → M2 p = none → P1 v G' → DqAll K G' vs ds → u D (σ' v (.ref p)) H') : tSeq (tPar i j (tCons ta (tCons tb tNil))) u D σ H :=
  ha G H (Same.refl _) ok _ fun v G1 H1 s1 k1 hv => hb G1 H1 s1 k1 _ fun p vs G2 H2 s2 k2 hp hd => ⟨v, .ref p, rfl, by
    show u D ((σ.set i (some v)).set j (some (.ref p))) H2
    rw [hσ]
    exact k v p vs G2 H2 (s1.trans s2) k2 hp (m _ _ _ s2 hv) hd⟩
theorem q_parLD {i j : Nat} {σ' : V → V → St} (ha : EvL K ta σ G M M1 ds) (hb : ∀ p vs, M1 p = none → Ev tb σ G (upd M1 p (.lst vs)) (upd M1 p (.lst vs)) P2) (ok : Ok G M H) (hσ : ∀ v w, (σ.set i (some v)).set j (some w) = σ' v w)
    (k : ∀ w p vs G' H', Same G G' → Ok G' (upd M1 p (.lst vs)) H' → M1 p = none → P2 w G' → DqAll K G' vs ds → u D (σ' (.ref p) w) H') : tSeq (tPar i j (tCons ta (tCons tb tNil))) u D σ H :=
  ha G H (Same.refl _) ok _ fun p vs G1 H1 s1 k1 hp hd => hb p vs hp G1 H1 s1 k1 _ fun w G2 H2 s2 k2 hw => ⟨.ref p, w, rfl, by
    show u D ((σ.set i (some (.ref p))).set j (some w)) H2
    rw [hσ]
    exact k w p vs G2 H2 (s1.trans s2) k2 hp hw (dpAll_up s2 _ hd)⟩
/-! the same where a tuple is made on the way -/
theorem tup_go {i j : Nat} {v w : V} (k : Ok G M H) (h : ∀ G' H', Same G G' → Ok G' M H' → u D ((σ.set i (some v)).set j (some w)) H') (t : V) : [v, w].length ≤ sizeLine ∧ ∀ p, H p = none → gTup K 2 (gCons (gName i) (gCons (gName j) gNil)) (.ref p) σ (upd H p (.tup [v, w])) (u D) := by
  refine ⟨by show 2 ≤ sizeLine; decide, fun p hp => ?_⟩
  have sp : Same G (upd G p (.tup [v, w])) := Same.new (Same.none k.g hp)
  exact ⟨p, [v, w], rfl, .inl (.inl upd_same), rfl, v, [w], rfl, w, [], rfl, rfl, h _ _ sp (k.newG _ hp)⟩
theorem q_tupDD {i j : Nat} {σ' : V → V → St} (ha : Ev ta σ G M M1 P1) (m1 : Mo P1) (hb : Ev tb σ G M1 M2 P2) (m2 : Mo P2) (ok : Ok G M H) (hσ : ∀ v w, (σ.set i (some v)).set j (some w) = σ' v w)
    (k : ∀ v w G' H', Same G G' → Ok G' M2 H' → P1 v G' → P2 w G' → u D (σ' v w) H') : tSeq (tAsg (tTup (tCons ta (tCons tb tNil))) (gTup K 2 (gCons (gName i) (gCons (gName j) gNil)))) u D σ H :=
  ha G H (Same.refl _) ok _ fun v G1 H1 s1 k1 hv => hb G1 H1 s1 k1 _ fun w G2 H2 s2 k2 hw => tup_go (K := K) k2 (fun G3 H3 s3 k3 => by
    rw [hσ]
    exact k v w G3 H3 ((s1.trans s2).trans s3) k3 (m1 _ _ _ (s2.trans s3) hv) (m2 _ _ _ s3 hw)) v
theorem q_tupDL {i j : Nat} {σ' : V → V → St} (ha : Ev ta σ G M M1 P1) (m : Mo P1) (hb : EvL K tb σ G M1 M2 ds) (ok : Ok G M H) (hσ : ∀ v w, (σ.set i (some v)).set j (some w) = σ' v w)
    (k : ∀ v p vs G' H', Same G G' → Ok G' (upd M2 p (.lst vs)) H' → M2 p = none → P1 v G' → DqAll K G' vs ds → u D (σ' v (.ref p)) H') : tSeq (tAsg (tTup (tCons ta (tCons tb tNil))) (gTup K 2 (gCons (gName i) (gCons (gName j) gNil)))) u D σ H :=
  ha G H (Same.refl _) ok _ fun v G1 H1 s1 k1 hv => hb G1 H1 s1 k1 _ fun p vs G2 H2 s2 k2 hp hd => tup_go (K := K) k2 (fun G3 H3 s3 k3 => by
    rw [hσ]
    exact k v p vs G3 H3 ((s1.trans s2).trans s3) k3 hp (m _ _ _ (s2.trans s3) hv) (dpAll_up s3 _ hd)) v
theorem q_tupLD {i j : Nat} {σ' : V → V → St} (ha : EvL K ta σ G M M1 ds) (hb : ∀ p vs, M1 p = none → Ev tb σ G (upd M1 p (.lst vs)) (upd M1 p (.lst vs)) P2) (m2 : Mo P2) (ok : Ok G M H) (hσ : ∀ v w, (σ.set i (some v)).set j (some w) = σ' v w)
    (k : ∀ w p vs G' H', Same G G' → Ok G' (upd M1 p (.lst vs)) H' → M1 p = none → P2 w G' → DqAll K G' vs ds → u D (σ' (.ref p) w) H') : tSeq (tAsg (tTup (tCons ta (tCons tb tNil))) (gTup K 2 (gCons (gName i) (gCons (gName j) gNil)))) u D σ H :=
  ha G H (Same.refl _) ok _ fun p vs G1 H1 s1 k1 hp hd => hb p vs hp G1 H1 s1 k1 _ fun w G2 H2 s2 k2 hw => tup_go (K := K) k2 (fun G3 H3 s3 k3 => by
    rw [hσ]
    exact k w p vs G3 H3 ((s1.trans s2).trans s3) k3 hp (m2 _ _ _ s3 hw) (dpAll_up (s2.trans s3) _ hd)) w
theorem q_augI {i : Nat} {x j : Int} {f : Int → Int → Int} {σ' : V → St} (hx : σ[i]? = some (some (.int x))) (he : Ev te σ G M M1 (DD K (.int j))) (ok : Ok G M H) (hσ : σ.set i (some (.int (f x j))) = σ' (.int (f x j))) (k : ∀ G' H', Same G G' → Ok G' M1 H' → u D (σ' (.int (f x j))) H') : tSeq (tAug i te (ipI f)) u D σ H :=
  ⟨.int x, hx, he G H (Same.refl _) ok _ fun v G1 H1 s1 k1 hv => by
    cases hv
    refine ⟨x, j, rfl, rfl, ?_⟩
    show u D (σ.set i (some (.int (f x j)))) H1
    rw [hσ]
    exact k G1 H1 s1 k1⟩
theorem q_nilU (h : u D σ H) : tNext { D with nx := u D } σ H := h
theorem orR_l {S R T : Type} {s : S} {f : S → Option T} {g : R → Option T} {r : Option T} (h : orR (.inl s) f g = r) : f s = r := h
/-- a filtered comprehension -/
def mapF {α β : Type} (f : α → Option (Option β)) : List α → Option (List β)
  | [] => some []
  | x :: xs => (f x).bind fun o => (mapF f xs).bind fun ys => some (o.toList ++ ys)
def lcF {α β : Type} (f : α → Option (Option β)) (xs : List α) : Option (List β) := (grd (xs.length ≤ 16777216)).bind fun _ => mapF f xs
theorem mapF_get {α β : Type} {f : α → Option (Option β)} : ∀ {xs : List α} {ys : List β}, mapF f xs = some ys → ∃ os : List (Option β), os.length = xs.length ∧ os.filterMap id = ys ∧ ∀ (i : Nat) (x : α) (o : Option β), xs[i]? = some x → os[i]? = some o → f x = some o
  | [], ys, h => by cases h; exact ⟨[], rfl, rfl, fun i x o h => by simp at h⟩
  | a :: xs, ys, h => by
    obtain ⟨o, ho, h⟩ := bs h
    obtain ⟨zs, hz, h⟩ := bs h
    cases h
    obtain ⟨os, h1, h2, h3⟩ := mapF_get hz
    refine ⟨o :: os, congrArg (· + 1) h1, ?_, fun i x o' hx ho' => ?_⟩
    · rw [← h2]
      cases o <;> rfl
    · cases i with
      | zero => simp at hx ho'; subst hx; subst ho'; exact ho
      | succ i => exact h3 i x o' (by simpa using hx) (by simpa using ho')
theorem el_lcMF {α β : Type} {ea : α → Dat} {eb : β → Dat} {f : α → Option (Option β)} {xs : List α} {ys : List β} {wi : TI} {g : TG} {tt : TT} {vs : List Nat} (src : Src K wi σ G M M1 (xs.map ea)) (hf : lcF f xs = some ys)
    (hs : ∀ (x : α) (o : Option β) (Mx G1 : Hp) (v : V), f x = some o → Same M1 Mx → Same G G1 → Dq K G1 v (ea x) → Tg g v (wipe σ vs) G1 fun σ2 => wipe σ2 vs = wipe σ vs ∧ LcB K tt te σ2 G1 Mx Mx (o.map eb)) :
    EvL K (tLc wi g tt te vs) σ G M M1 (ys.map eb) := by
  obtain ⟨_, h1, h2⟩ := bs hf
  obtain ⟨os, hl, rfl, hi⟩ := mapF_get h2
  have := el_lcG (tt := tt) (te := te) (g := g) (vs := vs) (M2 := M1) src (os.map fun o => o.map eb) (fun _ => M1) rfl rfl (fun _ _ => rfl) (by rw [List.length_map, List.length_map, hl]) (by rw [List.length_map]; exact szl (grd_of h1)) fun i d o D acc G1 v hd ho hD s hv => by
    rw [List.getElem?_map] at hd ho
    cases e1 : xs[i]? with
    | none => rw [e1] at hd; cases hd
    | some x =>
      cases e2 : os[i]? with
      | none => rw [e2] at ho; cases ho
      | some o' =>
        rw [e1] at hd; rw [e2] at ho
        cases hd; cases ho
        exact hs x o' _ G1 v (hi i x o' e1 e2) (Same.new hD) s hv
  have e : ∀ os : List (Option β), (os.map fun o => o.map eb).filterMap id = (os.filterMap id).map eb := fun os => by
    induction os with
    | nil => rfl
    | cons o os ih => cases o <;> simp_all
  rw [e] at this
  exact this
end
end Kx

end

section
set_option maxHeartbeats 2000000
namespace Kx
open PySem L2
/-! ### enumerate of a tuple, zip of lists and tuples -/
def SqB (K : PySem.W.Frag) : Bool → Hp → Addr → List V → Prop
  | true => SqT K
  | false => SqL K
def IteT (K : PySem.W.Frag) (a : Addr) : It :=
  ⟨fun i H => ∃ (xs : List V) (x : V), SqT K H a xs ∧ xs[i]? = some x, fun i H v H' => ∃ T x, v = .ref T ∧ H T = none ∧ H' = upd H T (.tup [.int (i : Nat), x]) ∧ ∀ xs, SqT K H a xs → xs[i]? = some x, fun i H => ∃ xs : List V, SqT K H a xs ∧ xs.length = i⟩
def ItzB (K : PySem.W.Frag) (ka kb : Bool) (a b : Addr) : It :=
  ⟨fun i H => ∃ (xs ys : List V) (x y : V), SqB K ka H a xs ∧ SqB K kb H b ys ∧ xs[i]? = some x ∧ ys[i]? = some y,
    fun i H v H' => ∃ T x y, v = .ref T ∧ H T = none ∧ H' = upd H T (.tup [x, y]) ∧ (∀ xs, SqB K ka H a xs → xs[i]? = some x) ∧ ∀ ys, SqB K kb H b ys → ys[i]? = some y,
    fun i H => ∃ xs ys : List V, SqB K ka H a xs ∧ SqB K kb H b ys ∧ min xs.length ys.length = i⟩
def iEnumT (K : PySem.W.Frag) (ta : TA) : TI := fun σ H R => ta σ H fun vs H1 => ∃ a xs, vs = [.ref a] ∧ SqT K H1 a xs ∧ R (IteT K a) H1
def iZipB (K : PySem.W.Frag) (ka kb : Bool) (ta : TA) : TI := fun σ H R => ta σ H fun vs H1 => ∃ a b xs ys, vs = [.ref a, .ref b] ∧ SqB K ka H1 a xs ∧ SqB K kb H1 b ys ∧ R (ItzB K ka kb a b) H1

def IterB : Bool → Heap → Addr → Addr → Nat → Prop
  | true => fun h it a i => h.IsTupleIter it a i
  | false => fun h it a i => h.IsListIter it a i
def SeqB : Bool → Heap → Addr → Array Value → Prop
  | true => fun h a its => h.IsTuple a its
  | false => fun h a its => h.IsList a its
theorem IterB.at {k : Bool} {h h' : Heap} {it a : Addr} {i : Nat} (x : IterB k h it a i) (e : ∀ o, h.get? it = some o → h'.get? it = some o) : IterB k h' it a i := by
  cases k with
  | true => exact Heap.IsTupleIter.at x e
  | false => exact Heap.IsListIter.at x e
theorem IterB.obj {k : Bool} {h : Heap} {it a : Addr} {i : Nat} (x : IterB k h it a i) : ∃ o, h.get? it = some o ∧ ∀ v, o.data ≠ .cell v := by
  cases k with
  | true =>
    obtain ⟨o, ho, _, hd⟩ := (show h.IsTupleIter it a i from x)
    exact ⟨o, ho, fun v q => by rw [hd] at q; cases q⟩
  | false =>
    obtain ⟨o, ho, _, hd⟩ := (show h.IsListIter it a i from x)
    exact ⟨o, ho, fun v q => by rw [hd] at q; cases q⟩
def itName : Bool → String
  | true => "tuple_iterator"
  | false => "list_iterator"
theorem begins_B (k : Bool) (a : Addr) (items : Array Value) : Begins (.ref a) { cls := .type (itName k), data := .fields #[.ref a, .int 0 0] } fun h => SeqB k h a items := by
  cases k with
  | true => exact begins_tuple a items
  | false => exact begins_list a items
theorem iterB_new {k : Bool} {h : Heap} {it a : Addr} (e : h.get? it = some { cls := .type (itName k), data := .fields #[.ref a, .int 0 0] }) : IterB k h it a 0 := by
  cases k with
  | true => exact ⟨_, e, rfl, rfl⟩
  | false => exact ⟨_, e, rfl, rfl⟩
theorem drawsB {prog : Program} {w : World} {A : Around} (k : Bool) (hh : A.handled = none) (it a : Addr) (hne : a ≠ it) (items : Array Value) : Draws prog w A it [it, a] items.size (fun i v => items[i]? = some v) (fun i h => IterB k h it a i ∧ SeqB k h a items) := by
  cases k with
  | true => exact Draws.tuple hh it a hne items
  | false => exact Draws.list hh it a hne items
section
variable {X : Cx} {pins : List (Addr × Obj)} {σ : St} {H : Hp} {s : Shared}
theorem seqB_of {k : Bool} {a : Addr} {xs : List V} (I : Inv X pins σ H s) (h : SqB X.K k H a xs) : ∃ its, Vals xs its ∧ SeqB k s.heap a its.toArray ∧ a < s.heap.objs.size := by
  cases k with
  | true =>
    obtain ⟨its, rv, p, _⟩ := I.tuple h
    obtain ⟨o, ho, _⟩ := id p
    exact ⟨its, rv, p, Heap.lt_size ho⟩
  | false =>
    obtain ⟨its, rv, p, _⟩ := I.list h
    exact ⟨its, rv, p.isList, p.lt⟩
theorem sqB_inj {k : Bool} {a : Addr} {xs ys : List V} (I : Inv X pins σ H s) (h : SqB X.K k H a xs) (h' : SqB X.K k H a ys) : xs = ys := by
  cases k with
  | true => exact I.tuple_inj h h'
  | false => exact I.list_inj h h'
end
theorem turn_enumT {P : Program} {w : World} {K : PySem.W.Frag} {elts : List Expr} {kk : Nat} {tpos : Pos} (a e it : Addr) :
    Turn P w K (.Tuple elts kk tpos) (IteT K a) [e, it] e (fun i h => (∃ old, IsEnum h e it ((i : Nat) : Int) old) ∧ IterB true h it a i ∧ e ≠ it ∧ a ≠ it ∧ a ≠ e) where
  mem := by simp
  obj := fun i h st b hb => by
    obtain ⟨⟨old, he⟩, hi, _⟩ := st
    have e' : b = e ∨ b = it := by simpa using hb
    rcases e' with z | z
    · rw [z]; exact ⟨_, he, fun v q => nomatch q⟩
    · rw [z]; exact hi.obj
  keep := fun i h h' st k => let ⟨⟨old, he⟩, hi, hne⟩ := st; ⟨⟨old, k e (by simp) _ he⟩, hi.at fun o q => k it (by simp) o q, hne⟩
  item := by
    intro X hP hw hK hc i pins s σ H E I hf st hg
    subst hP hw hK
    obtain ⟨⟨old, he⟩, hit, hne, hai, hae⟩ := st
    obtain ⟨xs, x, hq, hx⟩ := hg
    obtain ⟨its, rv, p, hz⟩ := seqB_of (k := true) I hq
    have hlen := rv.length
    have hil' : i < xs.length := (List.getElem?_eq_some_iff.mp hx).1
    have hel : e < s.heap.objs.size := Heap.lt_size he
    have hil : it < s.heap.objs.size := by obtain ⟨_, q, _⟩ := hit.obj; exact Heap.lt_size q
    refine wpAny_pyNext_enum_itemD (drawsB (A := X.A.in1) true (show X.A.in1.handled = none from I.ok.hd hc) it a hai its.toArray) he ⟨hit, p⟩ (by simp; omega) hne (by simp [hne, Ne.symm hae]) fun u h' tk hu ho hit' hT hsz hk => ?_
    obtain ⟨u', hu', ru⟩ := rv.get hx
    have eu : u = u' := by
      have : its.toArray[i]? = some u' := by simpa using hu'
      rw [hu] at this
      exact Option.some.inj this
    subst eu
    refine ⟨_, rfl, wpAny_letOwnedTupleGo_enum (s := { s with heap := h', toks := tk + 1 }) ho fun h'' he' sb => ?_⟩
    have hT2 : h''.get? s.heap.objs.size = some { cls := .type "tuple", data := .seq #[.int i tk, u] } := (sb.2 _ (Nat.ne_of_gt hel)).trans hT
    have new : ObjOk X.prog X.w (upd H s.heap.objs.size (.tup [.int (i : Nat), x])) h'' s.heap.objs.size (.tup [.int (i : Nat), x]) :=
      ⟨by show 2 ≤ sizeLine; decide, [.int i tk, u], .cons ⟨_, rfl⟩ (.cons ru .nil), ⟨_, hT2, rfl, _, rfl⟩⟩
    have I1 : Inv X pins σ (upd H s.heap.objs.size (.tup [.int (i : Nat), x])) { s with heap := h'', toks := tk + 1 } :=
      I.turnedNew (ch := [e, it]) (fun b ob hb q => (sb.2 b (fun z => hb (by simp [z]))).trans (hk b ob (fun z => hb (by simp [z])) (fun z => hb (by simp [z])) q)) hf (Nat.le_refl _) new
    refine ⟨.ref s.heap.objs.size, _, I1, rfl, ⟨_, x, rfl, I.hok.fresh (Nat.le_refl _), rfl, fun ys hy => by rw [I.tuple_inj hy hq]; exact hx⟩, ⟨⟨u, ?_⟩, hit'.1.at fun o q => (sb.2 it (Ne.symm hne)).trans q, hne, hai, hae⟩, fun b hb => ?_⟩
    · have e1 : ((i + 1 : Nat) : Int) = (i : Int) + 1 := by omega
      rw [e1]; exact he'
    · have hb' : b < s.heap.objs.size := by
        have e' : b = e ∨ b = it := by simpa using hb
        rcases e' with z | z
        · rw [z]; exact hel
        · rw [z]; exact hil
      rw [upd_ne (Nat.ne_of_lt hb')]
      exact (hf b hb).1
  done := by
    intro X hP hw hK hc i pins s σ H E I hf st hg
    subst hP hw hK
    obtain ⟨⟨old, he⟩, hit, hne, hai, hae⟩ := st
    obtain ⟨xs, hq, hx⟩ := hg
    obtain ⟨its, rv, p, hz⟩ := seqB_of (k := true) I hq
    obtain ⟨f0, f1, f2, f3, f4, f5⟩ := hf it (by simp)
    have hl := rv.length
    have en : its.toArray.size = i := by simp; omega
    exact wpAny_pyNext_enum_endD (drawsB (A := X.A.in1) true (show X.A.in1.handled = none from I.ok.hd hc) it a hai its.toArray) he (by rw [en]; exact ⟨hit, p⟩) fun h' eb => ⟨rfl, I.turned (t' := s.toks) (fun b o hb q => eb b o hb q) f0 f1 f3 f4 f5⟩
  self := fun A i s Q E st h => let ⟨⟨_, he⟩, _⟩ := st; wpAny_pyIter_enum he h
end Kx
namespace PySem
theorem meets_enumerate_newB1 {v : Value} {o : Obj} {H : Heap → Prop} (B : Begins v o H) :
    Meets (Builtin.«enumerate.__new__» ⟨[.type "enumerate", v], []⟩) (fun _ R s => H s.heap ∧
      R (.ok (.ret (.ref (s.heap.push o).objs.size))) { s with heap := (s.heap.push o).push { cls := .type "enumerate", data := .fields #[.none, .bool false, .ref s.heap.objs.size, rawInt 0, .none, .none] } }) :=
  .of_wp fun prog w A R s h => by
    obtain ⟨hp, g, d, tk, os⟩ := s; obtain ⟨h1, h⟩ := h
    have hsub := sub_enumerate
    have q1 : ∀ {A' : Around} {E : Value → Shared → Prop} {Q : Value → Shared → Prop}, Q (.ref hp.objs.size) ⟨hp.push o, g, d, tk, os⟩ → wpAny (model prog w) A' (pyIter v) Q E ⟨hp, g, d, tk, os⟩ :=
      fun q => B.iter prog w _ _ ⟨hp, g, d, tk, os⟩ _ h1 q
    wp_walk using q1
    refine wpAny_stack_any fun st => wpAny_pure ?_
    split
    · rename_i c _ _ _ _ _
      cases (c == Value.type "enumerate")
      · wp_walk using q1
        exact ⟨_, rfl, h⟩
      · wp_walk using q1
        exact ⟨_, rfl, h⟩
    · wp_walk using q1
      exact ⟨_, rfl, h⟩
theorem enum_begins1 {prog : Program} {w : World} {A : Around} {E : Value → Shared → Prop} {s : Shared} {v : Value} {o : Obj} {H : Heap → Prop} {Q : Value → Shared → Prop} (B : Begins v o H) (h1 : H s.heap)
    (h : ∀ h', IsEnum h' (s.heap.objs.size + 1) s.heap.objs.size 0 .none → h'.get? s.heap.objs.size = some o → h'.objs.size = s.heap.objs.size + 2 →
      (∀ b o, s.heap.get? b = some o → h'.get? b = some o) → Q (.ref (s.heap.objs.size + 1)) { s with heap := h' }) :
    wpAny (model prog w) A (call (.type "enumerate") [v]) Q E s := by
  refine callType_new F.called_enumerate (by decide) (F.typeCall_enumerate_1 _) (F.newCall_enumerate_1 _) (fun obj => F.args_object_init_2 obj _) F.entry_enumerate_new
    (meets_enumerate_newB1 B) ⟨h1, ?_⟩
  have hz : (s.heap.push o).objs.size = s.heap.objs.size + 1 := Heap.size_push ..
  show _ ∧ _
  rw [hz]
  have he : IsEnum ((s.heap.push o).push { cls := .type "enumerate", data := .fields #[.none, .bool false, .ref s.heap.objs.size, rawInt 0, .none, .none] }) (s.heap.objs.size + 1) s.heap.objs.size 0 .none := by
    have := Heap.get?_push_size (s.heap.push o) (o := { cls := .type "enumerate", data := .fields #[.none, .bool false, .ref s.heap.objs.size, rawInt 0, .none, .none] }) rfl
    rw [hz] at this; exact this
  refine ⟨⟨_, he, rfl⟩, h _ he (Heap.get?_push_of_some _ (Heap.get?_push_size _ B.free)) (by rw [Heap.size_push, hz]) fun b o x => Heap.get?_push_of_some _ (Heap.get?_push_of_some _ x)⟩
end PySem
namespace Kx
open PySem L2
theorem pi_enumT {X : Cx} {e : Expr} {ta : TA} {p pos tpos : Pos} {elts : List Expr} {kk : Nat} (hg : Gl X "enumerate") (hm : X.mg "enumerate" = none) (ha : PA X [e] ta) (hs : starEach [e] X.env = [(false, eval e X.env)] := by rfl) :
    PI X (.Tuple elts kk tpos) (.Call (.Name "enumerate" p) [e] [] pos) (iEnumT X.K ta) := by
  refine ⟨fun pins s σ H R I h => ?_⟩
  refine PyProof.Rows.Call_ (ld_blt I hg hm PyProof.Rows.boot_enumerate (PyProof.Rows.callWith_type1 (thn (ha.run pos pins s σ H _ I h) fun us s1 ⟨vs, H1, I1, r1, q1⟩ => ?_) hs rfl))
  obtain ⟨a, xs, ex, hq, q⟩ := q1
  subst ex
  cases r1 with
  | cons r rr =>
    cases rr
    cases r
    obtain ⟨its, rv, p', hz⟩ := seqB_of (k := true) I1 hq
    refine enum_begins1 (begins_B true a its.toArray) p' fun h' he hit hsz hk => wpAny_pyIter_enum he ?_
    have I2 : Inv X pins σ H1 { s1 with heap := h' } := I1.kept (t' := s1.toks) hk
    refine ⟨s1.heap.objs.size + 1, [s1.heap.objs.size + 1, s1.heap.objs.size], _, _, H1, rfl, I2, turn_enumT a (s1.heap.objs.size + 1) s1.heap.objs.size, ⟨⟨.none, he⟩, iterB_new hit, Nat.succ_ne_self _, Nat.ne_of_lt hz, Nat.ne_of_lt (Nat.lt_succ_of_lt hz)⟩, fun b hb => ?_, q⟩
    have e' : b = s1.heap.objs.size + 1 ∨ b = s1.heap.objs.size := by simpa using hb
    have hle : s1.heap.objs.size ≤ b := by
      rcases e' with z | z
      · rw [z]; exact Nat.le_add_right _ _
      · rw [z]; exact Nat.le_refl _
    exact I1.fpOk hle (I1.hok.fresh hle)
theorem turn_zipB {P : Program} {w : World} {K : PySem.W.Frag} {ka kb : Bool} {elts : List Expr} {kk : Nat} {tpos : Pos} {a b z TI TO i1 i2 : Addr} (D : ZipSep2 z TI TO i1 i2 [i1, a] [i2, b]) (ha : a ≠ i1) (hb : b ≠ i2) :
    Turn P w K (.Tuple elts kk tpos) (ItzB K ka kb a b) [z, TI, TO, i1, i2] z (fun i h => IsZip h z TI TO .none ∧ IsTupOf2 h TI (.ref i1) (.ref i2) ∧ (∃ x y, IsTupOf2 h TO x y) ∧ IterB ka h i1 a i ∧ IterB kb h i2 b i) where
  mem := by simp
  obj := fun i h st c hc => by
    obtain ⟨hz, hTI, ⟨x, y, hTO⟩, h1, h2⟩ := st
    have e' : c = z ∨ c = TI ∨ c = TO ∨ c = i1 ∨ c = i2 := by simpa using hc
    rcases e' with q | q | q | q | q
    · rw [q]; exact ⟨_, hz, fun v q => nomatch q⟩
    · rw [q]; exact ⟨_, hTI, fun v q => nomatch q⟩
    · rw [q]; exact ⟨_, hTO, fun v q => nomatch q⟩
    · rw [q]; exact h1.obj
    · rw [q]; exact h2.obj
  keep := fun i h h' st k => by
    obtain ⟨hz, hTI, ⟨x, y, hTO⟩, h1, h2⟩ := st
    exact ⟨k z (by simp) _ hz, k TI (by simp) _ hTI, ⟨x, y, k TO (by simp) _ hTO⟩, h1.at fun o q => k i1 (by simp) o q, h2.at fun o q => k i2 (by simp) o q⟩
  item := by
    intro X hP hw hK hc i pins s σ H E I hf st hg
    subst hP hw hK
    obtain ⟨hz, hTI, ⟨x0, y0, hTO⟩, h1, h2⟩ := st
    obtain ⟨xs, ys, x, y, hqx, hqy, hx, hy⟩ := hg
    obtain ⟨its, rv, p, _⟩ := seqB_of I hqx
    obtain ⟨its2, rv2, p2, _⟩ := seqB_of I hqy
    have l1 := rv.length
    have l2 := rv2.length
    have g1 : i < xs.length := (List.getElem?_eq_some_iff.mp hx).1
    have g2 : i < ys.length := (List.getElem?_eq_some_iff.mp hy).1
    have hzl : z < s.heap.objs.size := Heap.lt_size hz
    have hh : X.A.in1.handled = none := I.ok.hd hc
    refine wpAny_pyNext_zipD2_item D (drawsB (A := X.A.in1) ka hh i1 a ha its.toArray) (drawsB (A := X.A.in1) kb hh i2 b hb its2.toArray) hz hTI hTO ⟨h1, p⟩ ⟨h2, p2⟩ (by simp; omega) (by simp; omega) fun u u2 h' tk hu hu2 z' TO' h1' h2' hT hsz hk => ?_
    have ru : RelV x u := by
      obtain ⟨w, hw, r⟩ := rv.get hx
      have e : its.toArray[i]? = some w := by simpa using hw
      rw [hu] at e
      cases e
      exact r
    have ru2 : RelV y u2 := by
      obtain ⟨w, hw, r⟩ := rv2.get hy
      have e : its2.toArray[i]? = some w := by simpa using hw
      rw [hu2] at e
      cases e
      exact r
    refine ⟨_, rfl, wpAny_letOwnedTupleGo_zip (s := { s with heap := h', toks := tk }) z' fun h'' z'' sb => ?_⟩
    have hT2 : h''.get? s.heap.objs.size = some { cls := .type "tuple", data := .seq #[u, u2] } := (sb.2 _ (Nat.ne_of_gt hzl)).trans hT
    have new : ObjOk X.prog X.w (upd H s.heap.objs.size (.tup [x, y])) h'' s.heap.objs.size (.tup [x, y]) :=
      ⟨by show 2 ≤ sizeLine; decide, [u, u2], .cons ru (.cons ru2 .nil), ⟨_, hT2, rfl, _, rfl⟩⟩
    have I1 : Inv X pins σ (upd H s.heap.objs.size (.tup [x, y])) { s with heap := h'', toks := tk } :=
      I.turnedNew (t' := tk) (ch := [z, TI, TO, i1, i2]) (fun c o hb q => (sb.2 c (fun q' => hb (by simp [q']))).trans (hk c o (fun q' => hb (by simp [q'])) (fun q' => hb (by simp [q'])) (fun q' => hb (by simp [q'])) (fun q' => hb (by simp [q'])) q)) hf (Nat.le_refl _) new
    refine ⟨.ref s.heap.objs.size, _, I1, rfl, ⟨_, x, y, rfl, I.hok.fresh (Nat.le_refl _), rfl, fun l hl => by rw [sqB_inj I hl hqx]; exact hx, fun l hl => by rw [sqB_inj I hl hqy]; exact hy⟩, ⟨z'', ?_, ⟨u, u2, ?_⟩, ?_, ?_⟩, fun c hcm => ?_⟩
    · exact (sb.2 _ D.TIz).trans (hk _ _ D.TIz D.TITO D.TIi1 D.TIi2 hTI)
    · exact (sb.2 _ D.TOz).trans TO'
    · exact h1'.1.at fun o q => (sb.2 _ (Ne.symm D.zi1)).trans q
    · exact h2'.1.at fun o q => (sb.2 _ (Ne.symm D.zi2)).trans q
    · have hlt : c < s.heap.objs.size := by
        have e' : c = z ∨ c = TI ∨ c = TO ∨ c = i1 ∨ c = i2 := by simpa using hcm
        rcases e' with q | q | q | q | q
        · rw [q]; exact hzl
        · rw [q]; exact Heap.lt_size hTI
        · rw [q]; exact Heap.lt_size hTO
        · rw [q]; obtain ⟨_, e1, _⟩ := h1.obj; exact Heap.lt_size e1
        · rw [q]; obtain ⟨_, e2, _⟩ := h2.obj; exact Heap.lt_size e2
      rw [upd_ne (Nat.ne_of_lt hlt)]
      exact (hf c hcm).1
  done := by
    intro X hP hw hK hc i pins s σ H E I hf st hg
    subst hP hw hK
    obtain ⟨hz, hTI, ⟨x0, y0, hTO⟩, h1, h2⟩ := st
    obtain ⟨xs, ys, hqx, hqy, hend⟩ := hg
    obtain ⟨its, rv, p, _⟩ := seqB_of I hqx
    obtain ⟨its2, rv2, p2, _⟩ := seqB_of I hqy
    have l1 := rv.length
    have l2 := rv2.length
    have hh : X.A.in1.handled = none := I.ok.hd hc
    exact wpAny_pyNext_zipD2_end D (drawsB (A := X.A.in1) ka hh i1 a ha its.toArray) (drawsB (A := X.A.in1) kb hh i2 b hb its2.toArray) hz hTI hTO ⟨h1, p⟩ ⟨h2, p2⟩ (by simp; omega) (by simp; omega) (by simp; omega) fun h' tk hk => ⟨rfl, I.turnedL (t' := tk) (ch := [z, TI, TO, i1, i2]) (fun c o hb q =>
      hk c o (fun q' => hb (by simp [q'])) (fun q' => hb (by simp [q'])) (fun q' => hb (by simp [q'])) (fun q' => hb (by simp [q'])) q) hf⟩
  self := fun A i s Q E st h => wpAny_pyIter_zip st.1 h
theorem pi_zipB (ka kb : Bool) {X : Cx} {e e2 : Expr} {ta : TA} {p pos tpos : Pos} {elts : List Expr} {kk : Nat} (hg : Gl X "zip") (hm : X.mg "zip" = none) (ha : PA X [e, e2] ta)
    (hs : starEach [e, e2] X.env = (false, eval e X.env) :: starEach [e2] X.env := by rfl) (hpl : (backTo pos (starEach [e2] X.env)).any (·.1) = false := by rfl) :
    PI X (.Tuple elts kk tpos) (.Call (.Name "zip" p) [e, e2] [] pos) (iZipB X.K ka kb ta) := by
  refine ⟨fun pins s σ H R I h => ?_⟩
  refine PyProof.Rows.Call_ (ld_blt I hg hm PyProof.Rows.boot_zip (PyProof.Rows.callWith_type1 (thn (ha.run pos pins s σ H _ I h) fun us s1 ⟨vs, H1, I1, r1, q1⟩ => ?_) hs hpl))
  obtain ⟨a, b, xs, ys, ex, hqx, hqy, q⟩ := q1
  subst ex
  cases r1 with
  | cons r rr =>
    cases rr with
    | cons r' rr =>
      cases rr
      cases r
      cases r'
      have fresh5 : ∀ c, c ∈ [s1.heap.objs.size + 4, s1.heap.objs.size + 2, s1.heap.objs.size + 3, s1.heap.objs.size, s1.heap.objs.size + 1] → FpOk X pins H1 c := fun c hcm => by
        have e' : c = s1.heap.objs.size + 4 ∨ c = s1.heap.objs.size + 2 ∨ c = s1.heap.objs.size + 3 ∨ c = s1.heap.objs.size ∨ c = s1.heap.objs.size + 1 := by simpa using hcm
        have hle : s1.heap.objs.size ≤ c := by
          rcases e' with z | z | z | z | z
          · rw [z]; exact Nat.le_add_right _ _
          · rw [z]; exact Nat.le_add_right _ _
          · rw [z]; exact Nat.le_add_right _ _
          · rw [z]; exact Nat.le_refl _
          · rw [z]; exact Nat.le_add_right _ _
        exact I1.fpOk hle (I1.hok.fresh hle)
      obtain ⟨its, rv, p1, la⟩ := seqB_of I1 hqx
      obtain ⟨its2, rv2, p2, lb⟩ := seqB_of I1 hqy
      refine zip_begins2 (begins_B ka a its.toArray) (begins_B kb b its2.toArray) p1 p2 fun h' hz hTI hTO h1 h2 hsz hk => wpAny_pyIter_zip hz ?_
      have I2 : Inv X pins σ H1 { s1 with heap := h' } := I1.kept (t' := s1.toks) hk
      exact ⟨s1.heap.objs.size + 4, [s1.heap.objs.size + 4, s1.heap.objs.size + 2, s1.heap.objs.size + 3, s1.heap.objs.size, s1.heap.objs.size + 1], _, _, H1, rfl, I2, turn_zipB (zip_sep2 (fp1 := [a]) (fp2 := [b]) (by simpa using la) (by simpa using lb)) (Nat.ne_of_lt la) (Nat.ne_of_lt (Nat.lt_succ_of_lt lb)), ⟨hz, hTI, ⟨_, _, hTO⟩, iterB_new h1, iterB_new h2⟩, fresh5, q⟩
section
variable {K : PySem.W.Frag} {σ : St} {G G' M M1 M2 M3 : Hp} {ta tb te tc : TE} {P P1 P2 : VP} {d e : Dat} {ds es : List Dat}
def seqD : Bool → List Dat → Dat
  | true => .tuple
  | false => .list
theorem sqB_of {k : Bool} {v : V} {G : Hp} (h : Dq K G v (seqD k ds)) : ∃ a vs, v = .ref a ∧ (∀ H, Same G H → SqB K k H a vs) ∧ DqAll K G vs ds := by
  cases k with
  | true =>
    obtain ⟨a, vs, rfl, h1, h2⟩ := dp_tuple h
    exact ⟨a, vs, rfl, fun H s => sqT_up s h1, h2⟩
  | false =>
    obtain ⟨a, vs, rfl, h1, h2⟩ := dp_list h
    exact ⟨a, vs, rfl, fun H s => .inl (.inl (s _ _ h1)), h2⟩
theorem src_enumT {ta : TA} (h : EvA ta σ G M M1 (conP (DD K (.tuple ds)) nilP)) : Src K (iEnumT K ta) σ G M M1 (enumD ds) := fun G0 H s k R q =>
  h G0 H s k _ fun vs G1 H1 s1 k1 hv => by
    obtain ⟨v, rfl, hw⟩ := one_of (R := nilP) hv
    obtain ⟨a, vs, rfl, h1, h2⟩ := dp_tuple hw
    refine ⟨a, vs, rfl, sqT_up k1.g h1, q _ G1 H1 s1 k1 ?_⟩
    have w : Walk (IteT K a) vs.length (fun H => SqT K H a vs) (YPair (fun i => some (.int (i : Nat))) (fun i => vs[i]?)) := by
      refine ⟨fun i _ hi q => ⟨vs, vs[i], q, by simp [hi]⟩, fun _ q => ⟨vs, q, rfl⟩, fun i H v H' _ q y => ?_⟩
      obtain ⟨T, x, h1, h2, h3, h4⟩ := y
      exact ⟨T, .int (i : Nat), x, h1, h2, h3, rfl, h4 vs q⟩
    refine walks_pair w (by simp [enumD, dpAll_len h2]) (fun H s => sqT_up s h1) fun i d x y hd hx hy => ?_
    cases hx
    unfold enumD at hd
    rw [List.getElem?_mapIdx] at hd
    cases e : ds[i]? with
    | none => rw [e] at hd; cases hd
    | some d' =>
      rw [e] at hd
      cases hd
      exact ⟨_, _, rfl, .int _, dqAll_at h2 hy e⟩
theorem src_zipB {ka kb : Bool} {ta : TA} (h : EvA ta σ G M M1 (conP (DD K (seqD ka ds)) (conP (DD K (seqD kb es)) nilP))) : Src K (iZipB K ka kb ta) σ G M M1 (zipD ds es) := fun G0 H s k R q =>
  h G0 H s k _ fun vs G1 H1 s1 k1 hv => by
    obtain ⟨v, w, rfl, hv1, hw1⟩ := two_of hv
    obtain ⟨a, vs, rfl, h1, h2⟩ := sqB_of hv1
    obtain ⟨b, ws, rfl, h3, h4⟩ := sqB_of hw1
    refine ⟨a, b, vs, ws, rfl, h1 _ k1.g, h3 _ k1.g, q _ G1 H1 s1 k1 ?_⟩
    have w : Walk (ItzB K ka kb a b) (min vs.length ws.length) (fun H => SqB K ka H a vs ∧ SqB K kb H b ws) (YPair (fun i => vs[i]?) (fun i => ws[i]?)) := by
      refine ⟨fun i _ hi q => ?_, fun _ q => ⟨vs, ws, q.1, q.2, rfl⟩, fun i H v H' _ q y => ?_⟩
      · have h1 : i < vs.length := by omega
        have h2 : i < ws.length := by omega
        exact ⟨vs, ws, vs[i], ws[i], q.1, q.2, by simp [h1], by simp [h2]⟩
      · obtain ⟨T, x, z, h1, h2, h3, h4, h5⟩ := y
        exact ⟨T, x, z, h1, h2, h3, h4 vs q.1, h5 ws q.2⟩
    refine walks_pair w (by simp [zipD, dpAll_len h2, dpAll_len h4]) (fun H s => ⟨h1 _ s, h3 _ s⟩) fun i d x y hd hx hy => ?_
    obtain ⟨p, q, rfl, e1, e2⟩ := zipD_get hd
    exact ⟨p, q, rfl, dqAll_at h2 hx e1, dqAll_at h4 hy e2⟩
end
end Kx

end

section
set_option maxHeartbeats 2000000
namespace Kx
open PySem L2
section
variable {X : Cx} {K : PySem.W.Frag}
theorem ix_listK (h : X.K = K := by rfl) : IxR X (rIxL K) := h ▸ ix_list
theorem ix_tupK (h : X.K = K := by rfl) : IxR X (rIxT K) := h ▸ ix_tup
theorem sl_listK (h : X.K = K := by rfl) : SlR X (rSlL K) := h ▸ sl_list
theorem sl_tupK (h : X.K = K := by rfl) : SlR X (rSlF K) := h ▸ sl_tupF
theorem cl_lenK (h : X.K = K := by rfl) : CallR X (.builtin "len") (rLen K) := h ▸ cl_len
theorem cl_listK (h : X.K = K := by rfl) : CallR X (.type "list") (rListOf K) := h ▸ cl_list
theorem cl_tupleK (h : X.K = K := by rfl) : CallR X (.type "tuple") (rTupOf K) := h ▸ cl_tuple
theorem call_isiKK (h : X.K = K := by rfl) : CallR X (.builtin "isinstance") (rIsi K) := h ▸ call_isi
theorem cr_sumK (hc : X.calm = true) (h : X.K = K := by rfl) : CallR X (.builtin "sum") (rSum K) := h ▸ cr_sum hc
theorem cr_anyK (hc : X.calm = true) (h : X.K = K := by rfl) : CallR X (.builtin "any") (rAny K) := h ▸ cr_any hc
theorem cr_allK (hc : X.calm = true) (h : X.K = K := by rfl) : CallR X (.builtin "all") (rAll K) := h ▸ cr_all hc
theorem op_eqDK (hu : X.A.units + 64 < cLine) (h : X.K = K := by rfl) : OpR X (compareOp .Eq) (rEqD K) := h ▸ op_eqD hu
theorem op_neDK (hu : X.A.units + 64 < cLine) (h : X.K = K := by rfl) : OpR X (compareOp .NotEq) (rNeD K) := h ▸ op_neD hu
theorem op_inDK (hu : X.A.units + 65 < cLine) (h : X.K = K := by rfl) : OpR X (compareOp .In) (rInD K) := h ▸ op_inD hu
theorem op_notInDK (hu : X.A.units + 65 < cLine) (h : X.K = K := by rfl) : OpR X (compareOp .NotIn) (rNotInD K) := h ▸ op_notInD hu
theorem op_catAK (h : X.K = K := by rfl) : OpR X (binaryOp .Add) (rCatF K) := h ▸ op_catF
theorem pi_listK {tg l : Expr} {tl : TE} (hl : PE X l tl) (h : X.K = K := by rfl) : PI X tg l (iList K tl) := h ▸ pi_list hl
theorem pi_tupK {tg l : Expr} {tl : TE} (hl : PE X l tl) (h : X.K = K := by rfl) : PI X tg l (iTup K tl) := h ▸ pi_tup hl
theorem pi_enumK {e : Expr} {ta : TA} {p pos tpos : Pos} {elts : List Expr} {kk : Nat} (hg : Gl X "enumerate") (hm : X.mg "enumerate" = none) (ha : PA X [e] ta) (h : X.K = K := by rfl) (hs : starEach [e] X.env = [(false, eval e X.env)] := by rfl) :
    PI X (.Tuple elts kk tpos) (.Call (.Name "enumerate" p) [e] [] pos) (iEnum K ta) := h ▸ pi_enum hg hm ha hs
theorem pi_enumTK {e : Expr} {ta : TA} {p pos tpos : Pos} {elts : List Expr} {kk : Nat} (hg : Gl X "enumerate") (hm : X.mg "enumerate" = none) (ha : PA X [e] ta) (h : X.K = K := by rfl) (hs : starEach [e] X.env = [(false, eval e X.env)] := by rfl) :
    PI X (.Tuple elts kk tpos) (.Call (.Name "enumerate" p) [e] [] pos) (iEnumT K ta) := h ▸ pi_enumT hg hm ha hs
theorem pi_zipK {e e2 : Expr} {ta : TA} {p pos tpos : Pos} {elts : List Expr} {kk : Nat} (hg : Gl X "zip") (hm : X.mg "zip" = none) (ha : PA X [e, e2] ta) (h : X.K = K := by rfl)
    (hs : starEach [e, e2] X.env = (false, eval e X.env) :: starEach [e2] X.env := by rfl) (hpl : (backTo pos (starEach [e2] X.env)).any (·.1) = false := by rfl) :
    PI X (.Tuple elts kk tpos) (.Call (.Name "zip" p) [e, e2] [] pos) (iZip K ta) := h ▸ pi_zip hg hm ha hs hpl
theorem pi_zipBK (ka kb : Bool) {e e2 : Expr} {ta : TA} {p pos tpos : Pos} {elts : List Expr} {kk : Nat} (hg : Gl X "zip") (hm : X.mg "zip" = none) (ha : PA X [e, e2] ta) (h : X.K = K := by rfl)
    (hs : starEach [e, e2] X.env = (false, eval e X.env) :: starEach [e2] X.env := by rfl) (hpl : (backTo pos (starEach [e2] X.env)).any (·.1) = false := by rfl) :
    PI X (.Tuple elts kk tpos) (.Call (.Name "zip" p) [e, e2] [] pos) (iZipB K ka kb ta) := h ▸ pi_zipB ka kb hg hm ha hs hpl
end
end Kx

end

section
set_option maxHeartbeats 2000000
namespace Kx
open PySem L2
/-! ### a call by names alone -/
structure KBw (K : PySem.W.Frag) (fd : FuncData) (ps ks : List Str) (g : {α : Type} → List α → List α) : Prop where
  to : ∀ (s : Shared) (ws : List Value), K.In s.heap → ws.length = ks.length → BindsTo s fd ⟨[], ks.zip ws⟩ (ps.zip (g ws))
  rel : ∀ {zs : List V} {ws : List Value}, Vals zs ws → Vals (g zs) (g ws)
def tCallKw (n : Nat) (sp : Sp) (gV : List V → List V) (E : XK) (tk : TA) : TE := fun σ H Q => tk σ H fun zs H2 => zs.length = n ∧ sp (gV zs) H2 Q E
theorem pe_callKw {X : Cx} {CX : CXT} {k : Nat} {f : Addr} {fd : FuncData} {ps ks : List Str} {sp : Sp} {E : XK} {x : Str} {p pos : Pos} {kws : List Keyword} {tk : TA} {g : {α : Type} → List α → List α}
    (F : FnOk X.prog X.w X.K X.mg X.base CX k f fd ps sp) (hr : Room k X.A) (hg : Gl X x) (hm : X.mg x = some (.ref f)) (hk : PySem.W.keepIn X.K (.ref f) = true) (hb : KBw X.K fd ps ks g) (hx : Passes CX X E)
    (hkw : PK X kws tk) (hall : (backToKw pos (keywordEach kws X.env)).all (·.1.isSome) = true := by rfl) (hks : (backToKw pos (keywordEach kws X.env)).filterMap (·.1) = ks := by rfl)
    (hdb : (x == ("__debug__" : Str)) = false := by decide)
    (hpl : ((backTo pos (starEach [] X.env)).any (·.1) || (backToKw pos (keywordEach kws X.env)).any (·.1.isNone)) = false := by rfl) :
    PE X (.Call (.Name x p) [] kws pos) (tCallKw ks.length sp g E tk) := by
  refine ⟨fun pins s σ H Q I h => ?_⟩
  refine wpAny_Call_Name_kw (ld_glob I hg hm ?_ hdb)
  refine PySem.W.callWith_KW0 (h₀ := X.base) I.ok.mod.kin hk hall (thn (hkw.run pos pins s σ H _ I h) fun ws s2 ⟨zs, H2, I2, rz, l2, q2⟩ => ⟨I2.kIn, ?_⟩) hpl
  rw [hks]
  have r2 := hb.rel rz
  refine wpAny_call (codeAny_mono (F.run X.A X.stack s2 H2 ⟨[], ks.zip ws⟩ (g ws) (g zs) Q E hr I2.env0 (hb.to s2 ws I2.kIn (rz.length.symm.trans l2)) r2 q2) fun r s' hq => ?_)
  cases r with
  | error e => exact hx pins σ H2 s2 e s' I2 hq
  | ok fl =>
    cases fl with
    | ret u => exact I2.after hq
    | next => exact False.elim hq
    | brk => exact False.elim hq
    | cont => exact False.elim hq
theorem kbw_of {K : PySem.W.Frag} {x qual : Str} {st : Stmt} {f : Addr} {fd : FuncData} {ps ks : List Str} {g : {α : Type} → List α → List α} (F : Fun K x qual st f fd)
    (h : ∀ (kV doc pm : Value) (an : Option Addr) (cdv ct : Value) (ws : List Value), ws.length = ks.length → bindArgs (PySem.W.fnOf x qual (defArgs st) (defBody st) (defScope st) .none kV doc pm an cdv ct) ⟨[], ks.zip ws⟩ = pure (ps.zip (g ws)))
    (hr : ∀ {zs : List V} {ws : List Value}, Vals zs ws → Vals (g zs) (g ws)) : KBw K fd ps ks g := by
  obtain ⟨oc, od, kV, doc, pm, an, cdv, ct, osl, rfl, lk, hcd⟩ := F.ex
  exact ⟨fun s ws _ hl => .of_eq (h kV doc pm an cdv ct ws hl), hr⟩
section
variable {K : PySem.W.Frag} {σ : St} {G G' M M1 M2 M3 : Hp} {ta tb te tc : TE} {P P1 P2 : VP} {d e : Dat} {ds es : List Dat} {D : Ends} {H : Hp} {u : TS}
/-- the values by names, put in the def's own order -/
theorem ev_callKP {α ρ : Type} {args : α → List V → Hp → Prop} {m : α → Option ρ} {res : ρ → VP} {E : XK} {t : TA} {a : α} {r : ρ} {n : Nat} {gV : List V → List V} {Ps : List V → Hp → Prop} (hm : m a = some r) (hg : ∀ vs G, Ps vs G → vs.length = n ∧ args a (gV vs) G) (ha : EvA t σ G M M1 Ps) : Ev (tCallKw n (spP args m res) gV E t) σ G M M1 (res r) := fun G0 H s k Q q =>
  ha G0 H s k _ fun vs G1 H1 s1 k1 hv => ⟨(hg vs G1 hv).1, G1, M1, a, r, k1, (hg vs G1 hv).2, hm, fun v G2 H2 s2 k2 hr => q v G2 H2 (s1.trans s2) k2 hr⟩

/-! ### a list or a tuple -/
abbrev eQ {α : Type} (e : α → Dat) (q : Bool × List α) : Dat := seqD q.1 (q.2.map e)
theorem ev_lenQ {β : Type} {e : β → Dat} {q : Bool × List β} (ha : EvA (tCons ta tNil) σ G M M1 (conP (DD K (eQ e q)) nilP)) : Ev (tCB (rLen K) (tCons ta tNil)) σ G M M1 (DD K (.int (q.2.length : Int))) := by
  obtain ⟨k, xs⟩ := q
  cases k with
  | true => exact ev_lenTM ha
  | false => exact ev_lenLM ha
theorem ix_seqK {X : Cx} (h : X.K = K := by rfl) : IxR X (rIx K) := h ▸ ix_seq
theorem ev_ixQ {β : Type} {e : β → Dat} {q : Bool × List β} {i : Int} {x : β} (hi : atI q.2 i = some x) (ha : Ev ta σ G M M1 (DD K (eQ e q))) (hb : Ev tb σ G M1 M2 (DD K (.int i))) : Ev (tOp (rIx K) ta tb) σ G M M2 (DD K (e x)) := by
  obtain ⟨k, xs⟩ := q
  refine ev_op mo_dd ha hb fun x' y G0 H s kk hx hy Q q => ?_
  cases hy
  obtain ⟨a, vs, rfl, h1, h2⟩ := sqB_of hx
  obtain ⟨v, h3, h4⟩ := atI_of h2 (atI_map hi)
  cases k with
  | true => exact .inr (.inl ⟨a, vs, i, v, rfl, rfl, h1 _ kk.g, h3, q v G0 H (Same.refl _) kk h4⟩)
  | false => exact .inl ⟨a, vs, i, v, rfl, rfl, h1 _ kk.g, h3, q v G0 H (Same.refl _) kk h4⟩
/-! ### what may be None, and isn't -/
theorem ev_unO {β : Type} {e : β → Dat} {o : Option β} {x : β} (h : o = some x) (ha : Ev ta σ G M M1 (DD K (eO e o))) : Ev ta σ G M M1 (DD K (e x)) := by subst h; exact ha
/-! ### the script -/
def SCP (K : PySem.W.Frag) (ns : List Int) : VP := fun v G => ∃ a, v = .ref a ∧ SqL K G a (ns.map V.int)
theorem mo_scp {ns : List Int} : Mo (SCP K ns) := fun _ _ _ s ⟨a, e, h⟩ => ⟨a, e, s.seq h⟩
theorem ev_lenScr {ns : List Int} (ha : EvA (tCons ta tNil) σ G M M1 (conP (SCP K ns) nilP)) : Ev (tCB (rLen K) (tCons ta tNil)) σ G M M1 (DD K (.int (ns.length : Int))) := ev_cb ha fun xs G0 H s k hx Q q => by
  obtain ⟨v, rfl, a, rfl, ha⟩ := one_of (R := nilP) hx
  refine ⟨a, _, rfl, .inl (k.g.seq ha), q _ G0 H (Same.refl _) k ?_⟩
  rw [List.length_map]
  exact .int _
theorem ev_ixScr {ns : List Int} {i x : Int} (hi : atI ns i = some x) (ha : Ev ta σ G M M1 (SCP K ns)) (hb : Ev tb σ G M1 M2 (DD K (.int i))) : Ev (tOp (rIxL K) ta tb) σ G M M2 (DD K (.int x)) := ev_op mo_scp ha hb fun x' y G0 H s k hx hy Q q => by
  obtain ⟨a, rfl, ha⟩ := hx
  cases hy
  exact ⟨a, _, i, .int x, rfl, rfl, k.g.seq ha, atI_map hi, q _ G0 H (Same.refl _) k (.int _)⟩
/-! ### a def that makes a store -/
def spO {α : Type} (args : α → List V → Hp → Prop) (m : α → Option Sto) : Sp := fun vs H Q _ =>
  ∃ (G M : Hp) (a : α) (z : Sto), Ok G M H ∧ args a vs G ∧ m a = some z ∧ ∀ p G' H', Same G G' → Ok G' (upd M p (sto z)) H' → M p = none → Q (.ref p) H'
theorem q_retL (he : EvL K te σ G M M1 ds) (ok : Ok G M H) (k : ∀ p vs G' H', Same G G' → Ok G' (upd M1 p (.lst vs)) H' → M1 p = none → DqAll K G' vs ds → D.rt (.ref p) H') : tSeq (tRet te) u D σ H := he G H (Same.refl _) ok _ k
theorem vs_sto {G : Hp} {vs : List V} {x y z : Int} (h : DqAll K G vs [.int x, .int y, .int z]) : vs = [.int x, .int y, .int z] := by
  cases h with
  | cons a b => cases a; cases b with
    | cons a b => cases a; cases b with
      | cons a b => cases a; cases b; rfl
/-- f(g(..)): the store that g makes is handed on to f -/
theorem ev_open {α ρ : Type} {ao : α → List V → Hp → Prop} {mo : α → Option Sto} {args : Unit → List V → Hp → Prop} {m : Unit → Sto → Option (ρ × Sto)} {res : ρ → VP} {E E' : XK} {t : TA} {a : α} {z : Sto} {r : ρ × Sto} (h1 : mo a = some z) (h2 : m () z = some r) (hn : ∀ G, args () [] G) (ha : EvA t σ G M M1 (ao a)) :
    Ev (tCall (spD args m res) [] E (tCons (tCall (spO ao mo) [] E' t) tNil)) σ G M M1 (res r.1) := fun G0 H s k Q q =>
  ha G0 H s k _ fun vs G1 H1 s1 k1 hv => by
    rw [List.append_nil]
    refine ⟨G1, M1, a, z, k1, hv, h1, fun p G2 H2 s2 k2 hp => ?_⟩
    refine ⟨G2, upd M1 p (sto z), p, z, r.2, (), r.1, [], rfl, k2, upd_same, hn G2, h2, fun v G3 H3 s3 k3 hr => ?_⟩
    rw [upd_upd] at k3
    exact q v G3 H3 ((s1.trans s2).trans s3) (k3.less (Same.new hp)) hr
end
end Kx

end

section
namespace Kx
open PySem L2
/-- one draw -/
def pullM (a : Int) (z : Sto) : Option (Int × Sto) :=
  cond (decide ((0 : Int) < z.1)) ((dmO z.1 a).bind fun t1 => some (t1.2, (t1.1, z.2.1, z.2.2 + 1)))
    ((modO z.2.1 40961).bind fun t1 => (mulO z.2.1 (t1 + 20011)).bind fun t2 => (mulO 50021 (z.2.2 + 1)).bind fun t3 => (modO (t2 + t3 + 3) 1000000433).bind fun t4 => (fdivO t4 48).bind fun t5 => (modO t5 a).bind fun t6 => some (t6, (z.1, t4, z.2.2 + 1)))
end Kx
namespace Kx
open PySem L2
theorem same_upd2 {M0 M : Hp} {p : Addr} {o : HO} (h : Same M0 M) : Same (upd M0 p o) (upd M p o) := fun a u e => by
  by_cases ha : a = p
  · subst ha; rw [upd_same] at e ⊢; exact e
  · rw [upd_ne ha] at e ⊢; exact h a u e
end Kx

end

section
set_option maxHeartbeats 2000000
namespace Kx
open PySem L2
section
variable {K : PySem.W.Frag} {σ σ' : St} {G G' M M1 M2 M3 : Hp} {ta tb te tc : TE} {P P1 P2 : VP} {d e : Dat} {ds es : List Dat} {D : Ends} {H : Hp} {u : TS}
/-! ### truth of things -/
def tTru (K : PySem.W.Frag) (ta : TE) : TT := fun σ H Q => ta σ H fun x H' => ∃ k, TruV K x H' k ∧ Q k H'
theorem pt_tru {X : Cx} {a : Expr} (ha : PE X a ta) (he : ∀ whole, isTrue a X.env whole = (do let v ← whole; standAt a.pos; holding [v] (truthy v)) := by intro _; rfl) (h : X.K = K := by rfl) : PT X a (tTru K ta) := h ▸ pt_truth ha he
theorem isEmpty_map {α β : Type} {f : α → β} {xs : List α} : (xs.map f).isEmpty = xs.isEmpty := by cases xs <;> rfl
theorem isEmpty_len {vs : List V} (h : DqAll K G vs ds) : vs.isEmpty = ds.isEmpty := by cases h <;> rfl
theorem et_truL {β : Type} {e : β → Dat} {xs : List β} (h : Ev te σ G M M1 (DD K (.list (xs.map e)))) : EvT (tTru K te) σ G M M1 (!xs.isEmpty) := fun G0 H s k Q q => h G0 H s k _ fun v G1 H1 s1 k1 hv => by
  obtain ⟨a, vs, rfl, h1, h2⟩ := dp_list hv
  refine ⟨_, .inl ⟨vs, .inl (.inl (k1.g _ _ h1)), rfl⟩, ?_⟩
  rw [isEmpty_len h2, isEmpty_map]
  exact q G1 H1 s1 k1
theorem et_truT {β : Type} {e : β → Dat} {xs : List β} (h : Ev te σ G M M1 (DD K (.tuple (xs.map e)))) : EvT (tTru K te) σ G M M1 (!xs.isEmpty) := fun G0 H s k Q q => h G0 H s k _ fun v G1 H1 s1 k1 hv => by
  obtain ⟨a, vs, rfl, h1, h2⟩ := dp_tuple hv
  refine ⟨_, .inr (.inl ⟨vs, sqT_up k1.g h1, rfl⟩), ?_⟩
  rw [isEmpty_len h2, isEmpty_map]
  exact q G1 H1 s1 k1
theorem et_truO {β : Type} {e : β → Dat} {xs : List β} {p : Addr} {vs : List V} (hp : M1 p = some (.lst vs)) (hd : DqAll K G vs (xs.map e)) (h : Ev te σ G M M1 (OW p)) : EvT (tTru K te) σ G M M1 (!xs.isEmpty) := fun G0 H s k Q q => h G0 H s k _ fun v G1 H1 s1 k1 hv => by
  cases hv
  refine ⟨_, .inl ⟨vs, .inl (.inl (k1.m _ _ hp)), rfl⟩, ?_⟩
  rw [isEmpty_len hd, isEmpty_map]
  exact q G1 H1 s1 k1
theorem et_truI {i : Int} (h : Ev te σ G M M1 (DD K (.int i))) : EvT (tTru K te) σ G M M1 (i != 0) := fun G0 H s k Q q => h G0 H s k _ fun v G1 H1 s1 k1 hv => by
  cases hv
  exact ⟨_, rfl, q G1 H1 s1 k1⟩
/-! ### range(i, j, -1) -/
def drange (i j : Int) : List Int := (List.range (i - j).toNat).map fun k : Nat => i - (k : Int)
theorem drange_len (i j : Int) : (drange i j).length = (i - j).toNat := by
  unfold drange
  rw [List.length_map, List.length_range]
theorem drange_get {lo hi : Int} {i : Nat} (h : i < (lo - hi).toNat) : (drange lo hi)[i]? = some (lo - (i : Int)) := by
  unfold drange
  rw [List.getElem?_map, List.getElem?_range h]
  rfl
def rngDO (i j : Int) : Option (List Int) := (grd ((-(2 ^ 62) ≤ i ∧ i < 2 ^ 62) ∧ -(2 ^ 62) ≤ j ∧ j < 2 ^ 62)).bind fun _ => some (drange i j)
theorem walks_drange {i j : Int} : Walks K (Itc i (-1) (i - j).toNat) G ((drange i j).map Dat.int) := by
  have el : ((drange i j).map Dat.int).length = (i - j).toNat := by rw [List.length_map, drange_len]
  refine ⟨YFn fun k => .int (i + (k : Nat) * (-1)), fun _ => True, (by rw [el]; exact walk_rangeC), fun H _ => True.intro, fun k d H x H' G2 M2 hd s2 k2 y => ?_⟩
  obtain ⟨rfl, rfl⟩ := y
  have hi : k < (i - j).toNat := by
    rw [← el]
    exact (List.getElem?_eq_some_iff.mp hd).1
  rw [List.getElem?_map, drange_get hi] at hd
  cases hd
  have e : i + (k : Int) * (-1) = i - (k : Int) := by omega
  show ∃ G3, Same G2 G3 ∧ Ok G3 M2 H' ∧ Dq K G3 (V.int (i + (k : Int) * (-1))) (Dat.int (i - (k : Int)))
  rw [e]
  exact ⟨G2, Same.refl _, k2, .int _⟩
theorem three_of {P2 : VP} {xs : List V} {G : Hp} (h : conP P (conP P1 (conP P2 nilP)) xs G) : ∃ v w x, xs = [v, w, x] ∧ P v G ∧ P1 w G ∧ P2 x G := by
  obtain ⟨v, r, rfl, hp, hr⟩ := h
  obtain ⟨w, r, rfl, hq, hr⟩ := hr
  obtain ⟨x, r, rfl, ht, hr⟩ := hr
  cases hr
  exact ⟨v, w, x, rfl, hp, hq, ht⟩
theorem src_rngDO {ta : TA} {j k c : Int} {xs : List Int} (h : rngDO j k = some xs) (hc : c = -1) (ha : EvA ta σ G M M1 (conP (DD K (.int j)) (conP (DD K (.int k)) (conP (DD K (.int c)) nilP)))) : Src K (iRng3 ta) σ G M M1 (xs.map Dat.int) := by
  obtain ⟨_, h1, h2⟩ := bs h
  cases h2
  subst hc
  have z := grd_of h1
  exact fun G0 H s k R q => ha G0 H s k _ fun vs G1 H1 s1 k1 hv => by
    obtain ⟨v, w, x, rfl, hv1, hw1, hx1⟩ := three_of hv
    cases hv1; cases hw1; cases hx1
    exact ⟨_, _, _, _, rfl, RgC.neg z.1.1 z.1.2 z.2.1 z.2.2, q _ G1 H1 s1 k1 walks_drange⟩
/-! ### sum of a tuple -/
def rSumT (K : PySem.W.Frag) : List V → Hp → VK → Prop := fun vs H Q => ∃ (a : Addr) (ns : List Int), vs = [V.ref a] ∧ SqT K H a (ns.map V.int) ∧ Q (.int ns.sum) H
theorem sumT_raw {prog : Program} {w : World} {A : Around} {E : Value → Shared → Prop} {s : Shared} {l : Addr} {its : List Value} {ns : List Int} {Q : Value → Shared → Prop} (hh : A.handled = none) (hl : s.heap.IsTuple l its.toArray) (hi : PyProof.Rows.IntsAre its ns)
    (h : ∀ h' tk t', (∀ b o, s.heap.get? b = some o → h'.get? b = some o) → Q (.int ns.sum t') { s with heap := h', toks := tk }) : wpAny (model prog w) A (call (.builtin "sum") [.ref l]) Q E s := by
  obtain ⟨xs, e⟩ := hi.allInts.items
  have hn : numsOf (intItems xs).toList = ns := by rw [← e]; exact hi.numsOf
  rw [nums_intItems] at hn
  rw [e] at hl
  refine PySem.W.ktm_sumG hh hl fun h' tk t' hk => ?_
  have := h h' tk t' hk
  rw [preSum_eq, List.take_of_length_le (by simp), hn]; exact this
theorem cr_sumTK {X : Cx} (hc : X.calm = true) (h : X.K = K := by rfl) : CallR X (.builtin "sum") (rSumT K) := by
  subst h
  intro pins s σ H vs us Q I r h
  obtain ⟨a, ns, rfl, hs, q⟩ := h
  obtain ⟨its, rv, hl, _⟩ := I.tuple hs
  rw [Vals.ref1 r]
  exact sumT_raw (I.ok.hd hc) hl rv.ints fun h' tk t' hk => ⟨.int _, H, I.kept hk, ⟨_, rfl⟩, q⟩
theorem ev_sumT {ns : List Int} (ha : EvA (tCons ta tNil) σ G M M1 (conP (DD K (.tuple (ns.map Dat.int))) nilP)) : Ev (tCB (rSumT K) (tCons ta tNil)) σ G M M1 (DD K (.int ns.sum)) := ev_cb ha fun xs G0 H s k hx Q q => by
  obtain ⟨v, rfl, hv⟩ := one_of (R := nilP) hx
  obtain ⟨a, vs, rfl, ha, hb⟩ := dp_tuple hv
  rw [dpAll_ints hb] at ha
  exact ⟨a, ns, rfl, sqT_up k.g ha, q _ G0 H (Same.refl _) k (.int _)⟩
end
end Kx

end

section
set_option maxHeartbeats 2000000
namespace Kx
open PySem L2
section
variable {K : PySem.W.Frag} {σ σ' : St} {G G' M M1 M2 M3 : Hp} {ta tb te tc : TE} {P P1 P2 : VP} {d e : Dat} {ds es : List Dat} {D : Ends} {H : Hp} {u : TS}
/-! ### several targets at once -/
def EvX (ta : TA) (σ : St) (G M : Hp) (F : List V → Hp → Hp → Prop) : Prop :=
  ∀ G0 H, Same G G0 → Ok G0 M H → ∀ Q : List V → Hp → Prop, (∀ vs G' M' H', Same G0 G' → Ok G' M' H' → F vs G' M' → Q vs H') → ta σ H Q
theorem ex_nil : EvX tNil σ G M fun vs _ M' => vs = [] ∧ M' = M := fun G0 H _ k Q q => q [] G0 M H (Same.refl _) k ⟨rfl, rfl⟩
theorem ex_D {tr : TA} {R : List V → Hp → Hp → Prop} (m : Mo P) (ha : Ev ta σ G M M1 P) (hr : EvX tr σ G M1 R) : EvX (tCons ta tr) σ G M fun vs G' M' => ∃ v r, vs = v :: r ∧ P v G' ∧ R r G' M' := fun G0 H s k Q q =>
  ha G0 H s k _ fun x G1 H1 s1 k1 hx => hr G1 H1 (s.trans s1) k1 _ fun xs G2 M2 H2 s2 k2 hy => q (x :: xs) G2 M2 H2 (s1.trans s2) k2 ⟨x, xs, rfl, m x G1 G2 s2 hx, hy⟩
theorem ex_L {tr : TA} {R : Addr → List V → List V → Hp → Hp → Prop} (ha : EvL K ta σ G M M1 ds) (hr : ∀ p ws, M1 p = none → EvX tr σ G (upd M1 p (.lst ws)) (R p ws)) :
    EvX (tCons ta tr) σ G M fun vs G' M' => ∃ p ws r, vs = .ref p :: r ∧ M1 p = none ∧ DqAll K G' ws ds ∧ R p ws r G' M' := fun G0 H s k Q q =>
  ha G0 H s k _ fun p ws G1 H1 s1 k1 hp hd => hr p ws hp G1 H1 (s.trans s1) k1 _ fun xs G2 M2 H2 s2 k2 hy => q (.ref p :: xs) G2 M2 H2 (s1.trans s2) k2 ⟨p, ws, xs, rfl, hp, dpAll_up s2 _ hd, hy⟩
theorem q_parX {i j : Nat} {ta : TA} {F : List V → Hp → Hp → Prop} (he : EvX ta σ G M F) (ok : Ok G M H) (k : ∀ vs G' M' H', Same G G' → Ok G' M' H' → F vs G' M' → ∃ v w, vs = [v, w] ∧ u D ((σ.set i (some v)).set j (some w)) H') : tSeq (tPar i j ta) u D σ H :=
  he G H (Same.refl _) ok _ fun vs G1 M1 H1 s1 k1 hv => k vs G1 M1 H1 s1 k1 hv
theorem q_par3X {i j l : Nat} {ta : TA} {F : List V → Hp → Hp → Prop} (he : EvX ta σ G M F) (ok : Ok G M H) (k : ∀ vs G' M' H', Same G G' → Ok G' M' H' → F vs G' M' → ∃ v w x, vs = [v, w, x] ∧ u D (((σ.set i (some v)).set j (some w)).set l (some x)) H') : tSeq (tPar3 i j l ta) u D σ H :=
  he G H (Same.refl _) ok _ fun vs G1 M1 H1 s1 k1 hv => k vs G1 M1 H1 s1 k1 hv
/-! the same where a tuple is made on the way -/
theorem q_tupX {n : Nat} {g : TGs} {ta : TA} {F : List V → Hp → Hp → Prop} (he : EvX ta σ G M F) (ok : Ok G M H) (k : ∀ vs G' M' H', Same G G' → Ok G' M' H' → F vs G' M' → vs.length ≤ sizeLine ∧ ∀ p, H' p = none → gTup K n g (.ref p) σ (upd H' p (.tup vs)) (u D)) : tSeq (tAsg (tTup ta) (gTup K n g)) u D σ H :=
  he G H (Same.refl _) ok _ fun vs G1 M1 H1 s1 k1 hv => k vs G1 M1 H1 s1 k1 hv
theorem tup_go2 {i j : Nat} {v w : V} (k : Ok G M H) (h : ∀ G' H', Same G G' → Ok G' M H' → u D ((σ.set i (some v)).set j (some w)) H') : [v, w].length ≤ sizeLine ∧ ∀ p, H p = none → gTup K 2 (gCons (gName i) (gCons (gName j) gNil)) (.ref p) σ (upd H p (.tup [v, w])) (u D) := by
  refine ⟨by show 2 ≤ sizeLine; decide, fun p hp => ?_⟩
  have sp : Same G (upd G p (.tup [v, w])) := Same.new (Same.none k.g hp)
  exact ⟨p, [v, w], rfl, .inl (.inl upd_same), rfl, v, [w], rfl, w, [], rfl, rfl, h _ _ sp (k.newG _ hp)⟩
theorem tup_go3 {i j l : Nat} {v w x : V} (k : Ok G M H) (h : ∀ G' H', Same G G' → Ok G' M H' → u D (((σ.set i (some v)).set j (some w)).set l (some x)) H') : [v, w, x].length ≤ sizeLine ∧ ∀ p, H p = none → gTup K 3 (gCons (gName i) (gCons (gName j) (gCons (gName l) gNil))) (.ref p) σ (upd H p (.tup [v, w, x])) (u D) := by
  refine ⟨by show 3 ≤ sizeLine; decide, fun p hp => ?_⟩
  have sp : Same G (upd G p (.tup [v, w, x])) := Same.new (Same.none k.g hp)
  exact ⟨p, [v, w, x], rfl, .inl (.inl upd_same), rfl, v, [w, x], rfl, w, [x], rfl, x, [], rfl, rfl, h _ _ sp (k.newG _ hp)⟩

/-! ### things of any kind -/
def isT : Dat → Bool
  | .tuple _ => true
  | .rtup _ => true
  | _ => false
def isI : Dat → Bool
  | .int _ => true
  | .bool _ => true
  | _ => false
def isB : Dat → Bool
  | .bool _ => true
  | _ => false
def isS : Dat → Bool
  | .str _ => true
  | _ => false
def isL : Dat → Bool
  | .list _ => true
  | _ => false
/-- isinstance of a thing that is no instance of an own class -/
def isO (f : Dat → Bool) (d : Dat) : Option Bool := cond (isIns d) none (some (f d))
theorem isO_of {f : Dat → Bool} {b : Bool} (h : isO f d = some b) : isIns d = false ∧ f d = b := by
  unfold isO at h
  cases e : isIns d with
  | true => rw [e] at h; cases h
  | false => rw [e] at h; exact ⟨rfl, Option.some.inj h⟩
def IsC (n : String) (f : Dat → Bool) : Prop := ∀ d : Dat, isIns d = false → kitB (tyD d) n = some (f d)
theorem isc_T : IsC "tuple" isT := fun d h => by
  cases d with
  | none => exact (show kitB "NoneType" "tuple" = some false by decide +kernel)
  | bool _ => exact (show kitB "bool" "tuple" = some false by decide +kernel)
  | int _ => exact (show kitB "int" "tuple" = some false by decide +kernel)
  | str _ => exact (show kitB "str" "tuple" = some false by decide +kernel)
  | list _ => exact (show kitB "list" "tuple" = some false by decide +kernel)
  | tuple _ => exact (show kitB "tuple" "tuple" = some true by decide +kernel)
  | rtup _ => exact (show kitB "tuple" "tuple" = some true by decide +kernel)
  | dK _ _ => exact (show kitB "dict" "tuple" = some false by decide +kernel)
  | dT _ _ => exact (show kitB "dict" "tuple" = some false by decide +kernel)
  | ins _ _ _ => cases h
theorem isc_I : IsC "int" isI := fun d h => by
  cases d with
  | none => exact (show kitB "NoneType" "int" = some false by decide +kernel)
  | bool _ => exact (show kitB "bool" "int" = some true by decide +kernel)
  | int _ => exact (show kitB "int" "int" = some true by decide +kernel)
  | str _ => exact (show kitB "str" "int" = some false by decide +kernel)
  | list _ => exact (show kitB "list" "int" = some false by decide +kernel)
  | tuple _ => exact (show kitB "tuple" "int" = some false by decide +kernel)
  | rtup _ => exact (show kitB "tuple" "int" = some false by decide +kernel)
  | dK _ _ => exact (show kitB "dict" "int" = some false by decide +kernel)
  | dT _ _ => exact (show kitB "dict" "int" = some false by decide +kernel)
  | ins _ _ _ => cases h
theorem isc_B : IsC "bool" isB := fun d h => by
  cases d with
  | none => exact (show kitB "NoneType" "bool" = some false by decide +kernel)
  | bool _ => exact (show kitB "bool" "bool" = some true by decide +kernel)
  | int _ => exact (show kitB "int" "bool" = some false by decide +kernel)
  | str _ => exact (show kitB "str" "bool" = some false by decide +kernel)
  | list _ => exact (show kitB "list" "bool" = some false by decide +kernel)
  | tuple _ => exact (show kitB "tuple" "bool" = some false by decide +kernel)
  | rtup _ => exact (show kitB "tuple" "bool" = some false by decide +kernel)
  | dK _ _ => exact (show kitB "dict" "bool" = some false by decide +kernel)
  | dT _ _ => exact (show kitB "dict" "bool" = some false by decide +kernel)
  | ins _ _ _ => cases h
theorem isc_S : IsC "str" isS := fun d h => by
  cases d with
  | none => exact (show kitB "NoneType" "str" = some false by decide +kernel)
  | bool _ => exact (show kitB "bool" "str" = some false by decide +kernel)
  | int _ => exact (show kitB "int" "str" = some false by decide +kernel)
  | str _ => exact (show kitB "str" "str" = some true by decide +kernel)
  | list _ => exact (show kitB "list" "str" = some false by decide +kernel)
  | tuple _ => exact (show kitB "tuple" "str" = some false by decide +kernel)
  | rtup _ => exact (show kitB "tuple" "str" = some false by decide +kernel)
  | dK _ _ => exact (show kitB "dict" "str" = some false by decide +kernel)
  | dT _ _ => exact (show kitB "dict" "str" = some false by decide +kernel)
  | ins _ _ _ => cases h
theorem isc_L : IsC "list" isL := fun d h => by
  cases d with
  | none => exact (show kitB "NoneType" "list" = some false by decide +kernel)
  | bool _ => exact (show kitB "bool" "list" = some false by decide +kernel)
  | int _ => exact (show kitB "int" "list" = some false by decide +kernel)
  | str _ => exact (show kitB "str" "list" = some false by decide +kernel)
  | list _ => exact (show kitB "list" "list" = some true by decide +kernel)
  | tuple _ => exact (show kitB "tuple" "list" = some false by decide +kernel)
  | rtup _ => exact (show kitB "tuple" "list" = some false by decide +kernel)
  | dK _ _ => exact (show kitB "dict" "list" = some false by decide +kernel)
  | dT _ _ => exact (show kitB "dict" "list" = some false by decide +kernel)
  | ins _ _ _ => cases h
theorem ev_isiD {n : String} {f : Dat → Bool} {b : Bool} (hc : IsC n f) (h : isO f d = some b) (ha : EvA (tCons ta (tCons tb tNil)) σ G M M1 (conP (DD K d) (conP (CLS n) nilP))) : Ev (tCB (rIsi K) (tCons ta (tCons tb tNil))) σ G M M1 (DD K (.bool b)) := by
  obtain ⟨h1, h2⟩ := isO_of h
  exact ev_isi h1 (h2 ▸ hc d h1) ha
def lenD : Dat → Option Int
  | .tuple xs => some (xs.length : Int)
  | .list xs => some (xs.length : Int)
  | _ => none
theorem ev_lenD {n : Int} (h : lenD d = some n) (ha : EvA (tCons ta tNil) σ G M M1 (conP (DD K d) nilP)) : Ev (tCB (rLen K) (tCons ta tNil)) σ G M M1 (DD K (.int n)) := by
  cases d with
  | tuple xs => cases h; exact ev_lenT ha
  | list xs => cases h; exact ev_lenL ha
  | _ => cases h
def atD : Dat → Int → Option Dat
  | .tuple xs, i => atI xs i
  | .list xs, i => atI xs i
  | _, _ => none
theorem ev_ixD {i : Int} {x : Dat} (h : atD d i = some x) (ha : Ev ta σ G M M1 (DD K d)) (hb : Ev tb σ G M1 M2 (DD K (.int i))) : Ev (tOp (rIx K) ta tb) σ G M M2 (DD K x) := ev_op mo_dd ha hb fun v w G0 H s k hx hy Q q => by
  cases d with
  | tuple xs =>
    obtain ⟨a, vs, rfl, h1, h2⟩ := dp_tuple hx
    cases hy
    obtain ⟨v, h3, h4⟩ := atI_of h2 h
    exact .inr (.inl ⟨a, vs, i, v, rfl, rfl, sqT_up k.g h1, h3, q v G0 H (Same.refl _) k h4⟩)
  | list xs =>
    obtain ⟨a, vs, rfl, h1, h2⟩ := dp_list hx
    cases hy
    obtain ⟨v, h3, h4⟩ := atI_of h2 h
    exact .inl ⟨a, vs, i, v, rfl, rfl, .inl (.inl (k.g _ _ h1)), h3, q v G0 H (Same.refl _) k h4⟩
  | _ => cases h
def eqDO (d e : Dat) : Option Bool := (grd ((pur d = true ∧ pur e = true) ∧ (toPy d).depth ≤ 64 ∧ (toPy e).depth ≤ 64)).bind fun _ => some (PyData.eqv (toPy d) (toPy e))
theorem ev_eqDO {b : Bool} (h : eqDO d e = some b) (ha : Ev ta σ G M M1 (DD K d)) (hb : Ev tb σ G M1 M2 (DD K e)) : Ev (tOp (rEqD K) ta tb) σ G M M2 (DD K (.bool b)) := by
  obtain ⟨_, h1, h2⟩ := bs h
  cases h2
  have z := grd_of h1
  exact ev_eqD z.1.1 z.1.2 z.2.1 z.2.2 ha hb
theorem ev_neDO {b : Bool} (h : eqDO d e = some b) (ha : Ev ta σ G M M1 (DD K d)) (hb : Ev tb σ G M1 M2 (DD K e)) : Ev (tOp (rNeD K) ta tb) σ G M M2 (DD K (.bool (!b))) := by
  obtain ⟨_, h1, h2⟩ := bs h
  cases h2
  have z := grd_of h1
  exact ev_neD z.1.1 z.1.2 z.2.1 z.2.2 ha hb
def intD : Dat → Option Int
  | .int i => some i
  | _ => none
def strD : Dat → Option Str
  | .str x => some x
  | _ => none
def boolD : Dat → Option Bool
  | .bool x => some x
  | _ => none
def tupD : Dat → Option (List Dat)
  | .tuple x => some x
  | _ => none
def lstD : Dat → Option (List Dat)
  | .list x => some x
  | _ => none
theorem ev_intD {i : Int} (h : intD d = some i) (ha : Ev ta σ G M M1 (DD K d)) : Ev ta σ G M M1 (DD K (.int i)) := by
  cases d with
  | int j => cases h; exact ha
  | _ => cases h
theorem ev_strD {i : Str} (h : strD d = some i) (ha : Ev ta σ G M M1 (DD K d)) : Ev ta σ G M M1 (DD K (.str i)) := by
  cases d with
  | str j => cases h; exact ha
  | _ => cases h
theorem ev_boolD {i : Bool} (h : boolD d = some i) (ha : Ev ta σ G M M1 (DD K d)) : Ev ta σ G M M1 (DD K (.bool i)) := by
  cases d with
  | bool j => cases h; exact ha
  | _ => cases h
theorem ev_tupD {i : List Dat} (h : tupD d = some i) (ha : Ev ta σ G M M1 (DD K d)) : Ev ta σ G M M1 (DD K (.tuple (i.map id))) := by
  rw [List.map_id]
  cases d with
  | tuple j => cases h; exact ha
  | _ => cases h
theorem ev_lstD {i : List Dat} (h : lstD d = some i) (ha : Ev ta σ G M M1 (DD K d)) : Ev ta σ G M M1 (DD K (.list (i.map id))) := by
  rw [List.map_id]
  cases d with
  | list j => cases h; exact ha
  | _ => cases h
/-! ### least and greatest of a list of ints -/
def minL : List Int → Option Int
  | [] => none
  | x :: xs => some (xs.foldl (fun a b => if b < a then b else a) x)
def maxL : List Int → Option Int
  | [] => none
  | x :: xs => some (xs.foldl (fun a b => if a < b then b else a) x)
theorem foldl_min (xs : List Int) : ∀ x : Int, (xs.foldl (fun a b => if b < a then b else a) x ∈ x :: xs) ∧ ∀ y ∈ x :: xs, xs.foldl (fun a b => if b < a then b else a) x ≤ y := by
  induction xs with
  | nil =>
    intro x
    refine ⟨by simp, fun y hy => ?_⟩
    have e : y = x := by simpa using hy
    rw [e]
    exact Int.le_refl _
  | cons z zs ih =>
    intro x
    obtain ⟨h1, h2⟩ := ih (if z < x then z else x)
    rw [List.foldl_cons]
    refine ⟨?_, fun y hy => ?_⟩
    · rcases List.mem_cons.mp h1 with h | h
      · rw [h]
        split
        · exact List.mem_cons_of_mem _ List.mem_cons_self
        · exact List.mem_cons_self
      · exact List.mem_cons_of_mem _ (List.mem_cons_of_mem _ h)
    · have h3 := h2 (if z < x then z else x) List.mem_cons_self
      generalize List.foldl (fun a b => if b < a then b else a) (if z < x then z else x) zs = w at *
      rcases List.mem_cons.mp hy with h | h
      · subst h
        split at h3 <;> omega
      · rcases List.mem_cons.mp h with h | h
        · subst h
          split at h3 <;> omega
        · exact h2 y (List.mem_cons_of_mem _ h)
theorem foldl_max (xs : List Int) : ∀ x : Int, (xs.foldl (fun a b => if a < b then b else a) x ∈ x :: xs) ∧ ∀ y ∈ x :: xs, y ≤ xs.foldl (fun a b => if a < b then b else a) x := by
  induction xs with
  | nil =>
    intro x
    refine ⟨by simp, fun y hy => ?_⟩
    have e : y = x := by simpa using hy
    rw [e]
    exact Int.le_refl _
  | cons z zs ih =>
    intro x
    obtain ⟨h1, h2⟩ := ih (if x < z then z else x)
    rw [List.foldl_cons]
    refine ⟨?_, fun y hy => ?_⟩
    · rcases List.mem_cons.mp h1 with h | h
      · rw [h]
        split
        · exact List.mem_cons_of_mem _ List.mem_cons_self
        · exact List.mem_cons_self
      · exact List.mem_cons_of_mem _ (List.mem_cons_of_mem _ h)
    · have h3 := h2 (if x < z then z else x) List.mem_cons_self
      generalize List.foldl (fun a b => if a < b then b else a) (if x < z then z else x) zs = w at *
      rcases List.mem_cons.mp hy with h | h
      · subst h
        split at h3 <;> omega
      · rcases List.mem_cons.mp h with h | h
        · subst h
          split at h3 <;> omega
        · exact h2 y (List.mem_cons_of_mem _ h)
theorem minL_of {xs : List Int} {m : Int} (h : minL xs = some m) : m ∈ xs ∧ ∀ y ∈ xs, m ≤ y := by
  cases xs with
  | nil => cases h
  | cons x xs => cases h; exact foldl_min xs x
theorem maxL_of {xs : List Int} {m : Int} (h : maxL xs = some m) : m ∈ xs ∧ ∀ y ∈ xs, y ≤ m := by
  cases xs with
  | nil => cases h
  | cons x xs => cases h; exact foldl_max xs x
theorem cr_minK {X : Cx} (hc : X.calm = true) (h : X.K = K := by rfl) : CallR X (.builtin "min") (rMin K) := h ▸ cr_min hc
theorem cr_maxK {X : Cx} (hc : X.calm = true) (h : X.K = K := by rfl) : CallR X (.builtin "max") (rMax K) := h ▸ cr_max hc
theorem ev_minL {ns : List Int} {m : Int} (h : minL ns = some m) (ha : EvA (tCons ta tNil) σ G M M1 (conP (DD K (.list (ns.map Dat.int))) nilP)) : Ev (tCB (rMin K) (tCons ta tNil)) σ G M M1 (DD K (.int m)) := ev_cb ha fun xs G0 H s k hx Q q => by
  obtain ⟨v, rfl, hv⟩ := one_of (R := nilP) hx
  obtain ⟨a, vs, rfl, ha, hb⟩ := dp_list hv
  rw [dpAll_ints hb] at ha
  obtain ⟨m1, m2⟩ := minL_of h
  refine ⟨a, ns, rfl, .inl (.inl (k.g _ _ ha)), List.length_pos_of_mem m1, fun m' h1 h2 => ?_⟩
  have : m' = m := Int.le_antisymm (h2 m m1) (m2 m' h1)
  subst this
  exact q _ G0 H (Same.refl _) k (.int _)
theorem ev_maxL {ns : List Int} {m : Int} (h : maxL ns = some m) (ha : EvA (tCons ta tNil) σ G M M1 (conP (DD K (.list (ns.map Dat.int))) nilP)) : Ev (tCB (rMax K) (tCons ta tNil)) σ G M M1 (DD K (.int m)) := ev_cb ha fun xs G0 H s k hx Q q => by
  obtain ⟨v, rfl, hv⟩ := one_of (R := nilP) hx
  obtain ⟨a, vs, rfl, ha, hb⟩ := dp_list hv
  rw [dpAll_ints hb] at ha
  obtain ⟨m1, m2⟩ := maxL_of h
  refine ⟨a, ns, rfl, .inl (.inl (k.g _ _ ha)), List.length_pos_of_mem m1, fun m' h1 h2 => ?_⟩
  have : m' = m := Int.le_antisymm (m2 m' h1) (h2 m m1)
  subst this
  exact q _ G0 H (Same.refl _) k (.int _)
end
end Kx
namespace Kx
open PySem L2
section
variable {K : PySem.W.Frag} {σ σ' : St} {G G' M M1 M2 M3 : Hp} {ta tb te tc : TE} {P P1 P2 : VP} {d e : Dat} {ds es : List Dat} {D : Ends} {H : Hp} {u : TS}
theorem ip_mulO {X : Cx} : PIp X .Mult (rI CMulO fun i j => .int (i * j)) := opI fun _ _ _ _ _ _ _ hc q => PyProof.Rows.imul_int q (hc.elim (fun h => h.ok) (fun h => h.ok))
theorem q_augG {i : Nat} {x : V} {ti : TIp} {σ' : V → St} (hx : σ[i]? = some (some x)) (px : P1 x G) (m : Mo P1) (he : Ev te σ G M M1 P2) (hr : RV2 ti G M1 M2 P1 P2 P) (ok : Ok G M H) (hσ : ∀ v, σ.set i (some v) = σ' v) (k : ∀ v G' H', Same G G' → Ok G' M2 H' → P v G' → u D (σ' v) H') : tSeq (tAug i te ti) u D σ H :=
  ⟨x, hx, he G H (Same.refl _) ok _ fun y G1 H1 s1 k1 hy => hr x y G1 H1 s1 k1 (m x G G1 s1 px) hy _ fun v G2 H2 s2 k2 hv => by
    show u D (σ.set i (some v)) H2
    rw [hσ]
    exact k v G2 H2 (s1.trans s2) k2 hv⟩
theorem rv_mulO {i j r : Int} (h : mulO i j = some r) : RV2 (rI CMulO fun i j => .int (i * j)) G M M (DD K (.int i)) (DD K (.int j)) (DD K (.int r)) := by
  obtain ⟨hc, rfl⟩ := mulO_of h
  exact rv_I (f := fun i j => .int (i * j)) (fun i j _ => .int _) hc
end
end Kx

end

section
set_option maxHeartbeats 2000000
namespace Kx
open PySem L2
/-! ### min(rows): a walk whose comparison reads the heap -/
section
variable {prog : Program} {w : World} {A : Around} {R : Result → Shared → Prop} {it : Addr} {fp wr : List Addr} {n : Nat} {Pv : Nat → Value → Prop} {Sx : Nat → Heap → Prop} {ls : Addr} {Gd : Heap → Prop} {bt : Nat → Nat → Bool}
def CmpH (prog : Program) (w : World) (A : Around) (Gd : Heap → Prop) (Pv : Nat → Value → Prop) (bt : Nat → Nat → Bool) : Prop :=
  ∀ i j x y (s : Shared) (Q E : Value → Shared → Prop), Gd s.heap → Pv i x → Pv j y → Q (.bool (bt i j)) s → wpAny (model prog w) A (richCompare .Lt x y) Q E s
theorem minH_loop (W : PySem.Walks prog w A.in1 it fp wr n Pv Sx) (hG : ∀ g g', Gd g → (∀ b o, b ∉ wr → b ≠ ls → g.get? b = some o → g'.get? b = some o) → Gd g') (hc : CmpH prog w A.in1 Gd Pv bt) (nf : ls ∉ fp) :
    ∀ (k j : Nat) (s : Shared) (best : Value) (c : Nat), n - (j + 1) = k → j + 1 ≤ n → Sx (j + 1) s.heap → Gd s.heap → Pv (argBest bt j) best →
    s.heap.get? ls = some { cls := .type "list", dict := none, data := .seq #[best, best] c, slots := #[] } →
    (∀ v g' tk, Pv (argBest bt (n - 1)) v → (∀ b o, b ∉ wr → b ≠ ls → s.heap.get? b = some o → g'.get? b = some o) → R (.ok (.ret v)) { s with heap := g', toks := tk }) →
    codeAny (model prog w) A (.builtin "min.loop" ⟨[.ref it, .none, .ref ls], []⟩) R s := by
  have nw : ls ∉ wr := fun z => nf (W.sub _ z)
  have nm : (toString "min" ++ toString ".loop" : String) = "min.loop" := by decide
  intro k
  induction k with
  | zero =>
    intro j s best c ek ej ex eg eb el eR
    have last : j + 1 = n := by omega
    refine codeAny_builtin F.entry_min_loop ?_
    rw [Around.under_plainId F.plain_min_loop _]; refine wpAny_bind (wpAny_seqItems el rfl ?_)
    refine wpAny_bind (wpAny_tryCatch (W.done s _ _ (last ▸ ex) fun g1 tk kept => ?_))
    have el1 := kept ls _ nw el
    refine wpAny_bind (wpAny_updateSeq el1 rfl (wpAny_bind (wpAny_letGo (wpAny_pure ?_))))
    exact eR best _ tk (by rw [← last]; exact eb) fun b o n1 n2 e => (Heap.get?_update_other _ _ (Ne.symm n2)).trans (kept b o n1 e)
  | succ k ih =>
    intro j s best c ek ej ex eg eb el eR
    have more : j + 1 < n := by omega
    refine codeAny_builtin F.entry_min_loop ?_
    rw [Around.under_plainId F.plain_min_loop _]; refine wpAny_bind (wpAny_seqItems el rfl ?_)
    refine wpAny_bind (wpAny_tryCatch (W.item (j + 1) s _ _ more ex fun x g1 tk px ex1 kept => ?_))
    have el1 := kept ls _ nw el
    have eg1 : Gd g1 := hG _ _ eg fun b o n1 _ e => kept b o n1 e
    show wpAny _ A.in1 (tryCatch (holding [x, x] (richCompare .Lt x best >>= _)) _ >>= _) _ _ _
    refine wpAny_bind (wpAny_tryCatch (wpAny_holding (wpAny_bind (hc (j + 1) (argBest bt j) x best _ _ _ eg1 px eb ?_))))
    refine wpAny_bind (wpAny_holding (wpAny_truthy_bool ?_))
    refine wpAny_bind (wpAny_letGo (wpAny_pure ?_))
    cases ebt : bt (j + 1) (argBest bt j) with
    | true =>
      simp only [if_true]
      refine wpAny_bind (wpAny_updateSeq el1 rfl (wpAny_bind (wpAny_letGo ?_)))
      rw [nm]
      have keep2 : ∀ (u : Obj → Obj) b o, b ≠ ls → g1.get? b = some o → ((g1.update ls u).get? b) = some o := fun u b o n2 e => (Heap.get?_update_other _ _ (Ne.symm n2)).trans e
      refine wpAny_pure ⟨plainId_quiet F.plain_min_loop _, ih (j + 1) _ x _ (by omega) more (W.frame _ _ _ ex1 fun b hb o e => ?_) (hG _ _ eg1 fun b o _ n2 e => keep2 _ b o n2 e) (by simp only [argBest, ebt, if_true]; exact px) (Heap.get?_update_self _ el1 rfl) fun v g2 tk2 pv kept2 => ?_⟩
      · exact keep2 _ b o (fun z => nf (by rw [← z]; exact hb)) e
      · exact eR v g2 tk2 pv fun b o n1 n2 e => kept2 b o n1 n2 (keep2 _ b o n2 (kept b o n1 e))
    | false =>
      simp only [Bool.false_eq_true, if_false]
      refine wpAny_bind (wpAny_letGo ?_)
      rw [nm]
      refine wpAny_pure ⟨plainId_quiet F.plain_min_loop _, ih (j + 1) _ best c (by omega) more ex1 eg1 (by simp only [argBest, ebt, Bool.false_eq_true, if_false]; exact eb) el1 fun v g2 tk2 pv kept2 => ?_⟩
      exact eR v g2 tk2 pv fun b o n1 n2 e => kept2 b o n1 n2 (kept b o n1 e)
theorem call_minH {E : Value → Shared → Prop} {s : Shared} {x : Value} {Q : Value → Shared → Prop}
    (h : wpAny (model prog w) A.in1 (pyIter x) (fun iv s2 => ∃ it fp wr n Pv Sx bt, iv = .ref it ∧ PySem.Walks prog w A.in1 it fp wr n Pv Sx ∧ Sx 0 s2.heap ∧ (∀ b ∈ fp, b < s2.heap.objs.size) ∧ 0 < n ∧
      CmpH prog w A.in1 (fun g => ∀ b o, b ∉ wr → s2.heap.get? b = some o → g.get? b = some o) Pv bt ∧
      ∀ v g' tk, Pv (argBest bt (n - 1)) v → (∀ b o, b ∉ wr → s2.heap.get? b = some o → g'.get? b = some o) → Q v { s2 with heap := g', toks := tk }) E s) :
    wpAny (model prog w) A (call (.builtin "min") [x]) Q E s := by
  have nm : (toString "min" ++ toString ".loop" : String) = "min.loop" := by decide
  refine call_function_tree F.kind_min F.plain_min F.entry_min (F.args_min1 _) ?_
  refine wpAny_bind (wpAny_of_eq (show Builtin.Builtins.bindParams "min" ["key", "default"] 0 ⟨[], []⟩ = pure [none, none] from rfl) (wpAny_bind (wpAny_pure ?_)))
  refine wpAny_bind (wpAny_mono h (fun iv s2 z => ?_) fun _ _ e => e)
  obtain ⟨it, fp, wr, n, Pv, Sx, bt, rfl, W, ex, efp, pos, hc, hQ⟩ := z
  refine wpAny_bind (wpAny_newObj_type ?_)
  have nf : s2.heap.objs.size ∉ fp := fun z => Nat.lt_irrefl _ (efp _ z)
  have nw : s2.heap.objs.size ∉ wr := fun z => nf (W.sub _ z)
  rw [nm]
  refine wpAny_pure ⟨plainId_quiet F.plain_min_loop _, ?_⟩
  refine codeAny_builtin F.entry_min_loop ?_
  rw [Around.under_plainId F.plain_min_loop _]; refine wpAny_bind (wpAny_seqItems (Heap.get?_push_size _ rfl) rfl ?_)
  refine wpAny_bind (wpAny_tryCatch (W.item 0 _ _ _ pos (W.frame _ _ _ ex fun b _ o e => Heap.get?_push_of_some _ e) fun x g1 tk px ex1 kept => ?_))
  have el1 := kept _ _ nw (Heap.get?_push_size _ rfl)
  show wpAny _ A.in1 (updateSeq s2.heap.objs.size (fun _ => #[x, x]) >>= _) _ _ _
  refine wpAny_bind ?_
  refine wpAny_updateSeq el1 rfl ?_
  rw [nm]
  refine wpAny_pure ⟨plainId_quiet F.plain_min_loop _, minH_loop (Gd := fun g => ∀ b o, b ∉ wr → s2.heap.get? b = some o → g.get? b = some o) (bt := bt) W (fun g g' z keep b o n1 e => keep b o n1 (Nat.ne_of_lt (Heap.lt_size e)) (z b o n1 e)) hc nf _ 0 _ x _ rfl pos (W.frame _ _ _ ex1 fun b hb o e => ?_) (fun b o n1 e => ?_) px (Heap.get?_update_self _ el1 rfl) fun v g2 tk2 pv kept2 => ?_⟩
  · exact (Heap.get?_update_other _ _ (fun z => nf (by rw [z]; exact hb))).trans e
  · exact (Heap.get?_update_other _ _ (Ne.symm (Nat.ne_of_lt (Heap.lt_size e)))).trans (kept b o n1 (Heap.get?_push_of_some _ e))
  · exact hQ v g2 tk2 pv fun b o n1 e => kept2 b o n1 (Nat.ne_of_lt (Heap.lt_size e)) ((Heap.get?_update_other _ _ (Ne.symm (Nat.ne_of_lt (Heap.lt_size e)))).trans (kept b o n1 (Heap.get?_push_of_some _ e)))
end
end Kx
namespace Kx
open PySem L2
theorem lex_irr : ∀ a : List Int, HT.lexLt a a = false
  | [] => rfl
  | x :: xs => by rw [HT.lexLt_cons, if_pos rfl]; exact lex_irr xs
theorem lex_trans : ∀ {a b c : List Int}, HT.lexLt a b = true → HT.lexLt b c = true → HT.lexLt a c = true
  | [], [], _, h, _ => by cases h
  | [], _ :: _, [], _, h => by cases h
  | [], _ :: _, _ :: _, _, _ => rfl
  | _ :: _, [], _, h, _ => by cases h
  | _ :: _, _ :: _, [], _, h => by cases h
  | x :: xs, y :: ys, z :: zs, h1, h2 => by
    rw [HT.lexLt_cons] at h1 h2 ⊢
    by_cases e1 : x = y
    · by_cases e2 : y = z
      · rw [if_pos e1] at h1
        rw [if_pos e2] at h2
        rw [if_pos (e1.trans e2)]
        exact lex_trans h1 h2
      · rw [if_neg e2] at h2
        rw [if_neg (by rw [e1]; exact e2), e1]
        exact h2
    · rw [if_neg e1] at h1
      have l1 : x < y := of_decide_eq_true h1
      by_cases e2 : y = z
      · rw [← e2, if_neg e1]
        exact h1
      · rw [if_neg e2] at h2
        have l2 : y < z := of_decide_eq_true h2
        rw [if_neg (by omega)]
        exact decide_eq_true (by omega)
theorem argBest_le (bt : Nat → Nat → Bool) : ∀ k, argBest bt k ≤ k
  | 0 => Nat.le_refl _
  | k + 1 => by
    unfold argBest
    split
    · exact Nat.le_refl _
    · exact Nat.le_succ_of_le (argBest_le bt k)
theorem argBest_least (bt : Nat → Nat → Bool) (irr : ∀ i, bt i i = false) (tr : ∀ i j k, bt i j = true → bt j k = true → bt i k = true) : ∀ k i, i ≤ k → bt i (argBest bt k) = false
  | 0, i, h => by
    have : i = 0 := by omega
    subst this
    exact irr 0
  | k + 1, i, h => by
    unfold argBest
    cases e : bt (k + 1) (argBest bt k) with
    | true =>
      rw [if_pos rfl]
      by_cases hi : i = k + 1
      · rw [hi]; exact irr _
      · cases e2 : bt i (k + 1) with
        | false => rfl
        | true =>
          have := tr _ _ _ e2 e
          rw [argBest_least bt irr tr k i (by omega)] at this
          cases this
    | false =>
      rw [if_neg (by decide)]
      by_cases hi : i = k + 1
      · rw [hi]; exact e
      · exact argBest_least bt irr tr k i (by omega)
/-- min(rows) of a list of rows of ints -/
def rMinT (K : PySem.W.Frag) : List V → Hp → VK → Prop := fun vs H Q => ∃ (a : Addr) (xs : List V) (rows : List (List Int)), vs = [V.ref a] ∧ SqL K H a xs ∧ xs.length = rows.length ∧ 0 < rows.length ∧
  (∀ (i : Nat) (x : V) (r : List Int), xs[i]? = some x → rows[i]? = some r → ∃ t, x = .ref t ∧ SqT K H t (r.map V.int)) ∧
  ∀ (i : Nat) (x : V) (r : List Int), xs[i]? = some x → rows[i]? = some r → (∀ r' ∈ rows, HT.lexLt r' r = false) → Q x H
theorem vals_get : ∀ {xs : List V} {us : List Value} {i : Nat} {u : Value}, Vals xs us → us[i]? = some u → ∃ x, xs[i]? = some x ∧ RelV x u
  | _, _, _, _, .nil, h => by simp at h
  | _, _, 0, _, .cons r _, h => by simp at h; subst h; exact ⟨_, rfl, r⟩
  | _, _, i + 1, u, .cons _ t, h => by
    obtain ⟨x, h1, h2⟩ := vals_get (i := i) (u := u) t (by simpa using h)
    exact ⟨x, by simpa using h1, h2⟩
theorem vals_len : ∀ {xs : List V} {us : List Value}, Vals xs us → xs.length = us.length
  | _, _, .nil => rfl
  | _, _, .cons _ t => congrArg (· + 1) (vals_len t)
theorem cr_minTK {X : Cx} {K : PySem.W.Frag} (hc : X.calm = true) (hu : X.A.units + 64 < cLine) (h : X.K = K := by rfl) : CallR X (.builtin "min") (rMinT K) := by
  subst h
  intro pins s σ H vs us Q I r h
  obtain ⟨a, xs, rows, rfl, hs, hl, hpos, ht, q⟩ := h
  obtain ⟨its, rv, hp, _⟩ := I.list hs
  rw [Vals.ref1 r]
  have ln := vals_len rv
  have hlt : a < s.heap.objs.size := by obtain ⟨_, _, e, _⟩ := hp; exact Heap.lt_size e
  obtain ⟨bt, hbt⟩ : ∃ bt : Nat → Nat → Bool, ∀ i j, bt i j = HT.lexLt (rows.getD i []) (rows.getD j []) := ⟨_, fun _ _ => rfl⟩
  refine call_minH (wpAny_pyIter_list hp.isList ?_)
  refine ⟨s.heap.objs.size, [s.heap.objs.size, a], [s.heap.objs.size], its.toArray.size, _, _, bt, rfl, PySem.Walks.list (A := X.A.in1) (I.ok.hd hc) _ a (Nat.ne_of_lt hlt) its.toArray, ⟨⟨_, Heap.get?_push_size _ rfl, rfl, rfl⟩, hp.isList.push _⟩, fun b hb => ?_, ?_, ?_, fun v g' tk pv kept => ?_⟩
  · show b < (s.heap.push _).objs.size
    rw [Heap.size_push]
    have : b = s.heap.objs.size ∨ b = a := by simpa using hb
    rcases this with e | e
    · rw [e]; exact Nat.lt_succ_self _
    · rw [e]; exact Nat.lt_succ_of_lt hlt
  · rw [List.size_toArray]; omega
  · intro i j x y s1 Q1 E1 hG px py q1
    have keep : ∀ b o, s.heap.get? b = some o → s1.heap.get? b = some o := fun b o e => hG b o (fun z => by
      have : b = s.heap.objs.size := by simpa using z
      exact absurd (this ▸ Heap.lt_size e) (Nat.lt_irrefl _)) (Heap.get?_push_of_some _ e)
    have tup : ∀ {i : Nat} {x : Value}, its.toArray[i]? = some x → ∃ t us, x = .ref t ∧ PyProof.Rows.IsTup s1.heap t us ∧ PyProof.Rows.IntsAre us.toList (rows.getD i []) := fun {i x} px => by
      obtain ⟨xv, e1, rx⟩ := vals_get rv (by simpa using px)
      have hi := (List.getElem?_eq_some_iff.mp e1).1
      have e2 : rows[i]? = some (rows.getD i []) := by
        rw [List.getElem?_eq_getElem (by omega)]
        simp [List.getD, List.getElem?_eq_getElem (show i < rows.length by omega)]
      obtain ⟨t, rfl, st⟩ := ht i xv _ e1 e2
      cases rx
      obtain ⟨us, r2, p2, _⟩ := I.tuple st
      refine ⟨t, us.toArray, rfl, ?_, intsAre_of r2⟩
      obtain ⟨o, ho, hc, n, hd⟩ := p2
      exact ⟨o, keep _ _ ho, hc, n, hd⟩
    obtain ⟨t1, u1, rfl, p1, i1⟩ := tup px
    obtain ⟨t2, u2, rfl, p2, i2⟩ := tup py
    exact HT.lt_tupInts p1 p2 i1 i2 (by have : X.A.in1.units ≤ X.A.units + 1 := by first | exact Nat.le_refl _ | exact Nat.le_succ _
                                        omega) (by rw [← hbt]; exact q1)
  · have hbl := argBest_le bt (its.length - 1)
    rw [List.size_toArray] at pv
    generalize hj : argBest bt (its.length - 1) = j at pv hbl
    obtain ⟨xv, e1, rx⟩ := vals_get rv (by simpa using pv)
    have hi := (List.getElem?_eq_some_iff.mp e1).1
    have e2 : rows[j]? = some (rows.getD j []) := by
      rw [List.getElem?_eq_getElem (by omega)]
      simp [List.getD, List.getElem?_eq_getElem (show j < rows.length by omega)]
    refine ⟨xv, H, I.kept fun b o e => kept b o (fun z => ?_) (Heap.get?_push_of_some _ e), rx, q _ _ _ e1 e2 fun r' hr' => ?_⟩
    · have : b = s.heap.objs.size := by simpa using z
      exact absurd (this ▸ Heap.lt_size e) (Nat.lt_irrefl _)
    · obtain ⟨k, hk⟩ := List.mem_iff_getElem?.mp hr'
      have hkl := (List.getElem?_eq_some_iff.mp hk).1
      have := argBest_least bt (fun i => by rw [hbt]; exact lex_irr _) (fun i j k => by rw [hbt, hbt, hbt]; exact lex_trans) (its.length - 1) k (by omega)
      rw [hj, hbt] at this
      have ek : rows.getD k [] = r' := by simp [List.getD, hk]
      rw [ek] at this
      exact this
end Kx
namespace Kx
open PySem L2
theorem lex_tri : ∀ {a b : List Int}, HT.lexLt a b = false → HT.lexLt b a = false → a = b
  | [], [], _, _ => rfl
  | [], _ :: _, h, _ => by cases h
  | _ :: _, [], _, h => by cases h
  | x :: xs, y :: ys, h1, h2 => by
    rw [HT.lexLt_cons] at h1 h2
    by_cases e : x = y
    · subst e
      rw [if_pos rfl] at h1 h2
      rw [lex_tri h1 h2]
    · rw [if_neg e] at h1
      rw [if_neg (Ne.symm e)] at h2
      have l1 : ¬ x < y := of_decide_eq_false h1
      have l2 : ¬ y < x := of_decide_eq_false h2
      omega
def minR : List (List Int) → Option (List Int)
  | [] => none
  | x :: xs => some (xs.foldl (fun a b => if HT.lexLt b a = true then b else a) x)
theorem foldl_minR (xs : List (List Int)) : ∀ x : List Int, (xs.foldl (fun a b => if HT.lexLt b a = true then b else a) x ∈ x :: xs) ∧ ∀ y ∈ x :: xs, HT.lexLt y (xs.foldl (fun a b => if HT.lexLt b a = true then b else a) x) = false := by
  induction xs with
  | nil =>
    intro x
    refine ⟨by simp, fun y hy => ?_⟩
    have e : y = x := by simpa using hy
    rw [e]
    exact lex_irr _
  | cons z zs ih =>
    intro x
    obtain ⟨h1, h2⟩ := ih (if HT.lexLt z x = true then z else x)
    rw [List.foldl_cons]
    generalize List.foldl (fun a b => if HT.lexLt b a = true then b else a) (if HT.lexLt z x = true then z else x) zs = w at *
    refine ⟨?_, fun y hy => ?_⟩
    · rcases List.mem_cons.mp h1 with h | h
      · rw [h]
        split
        · exact List.mem_cons_of_mem _ List.mem_cons_self
        · exact List.mem_cons_self
      · exact List.mem_cons_of_mem _ (List.mem_cons_of_mem _ h)
    · have h3 := h2 (if HT.lexLt z x = true then z else x) List.mem_cons_self
      have key : ∀ u, HT.lexLt u (if HT.lexLt z x = true then z else x) = false → HT.lexLt u w = false := fun u hu => by
        cases e : HT.lexLt u w with
        | false => rfl
        | true =>
          -- w is not above the first, so u lies below it
          cases e2 : HT.lexLt w (if HT.lexLt z x = true then z else x) with
          | true => rw [lex_trans e e2] at hu; cases hu
          | false => rw [lex_tri e2 h3, hu] at e; cases e
      rcases List.mem_cons.mp hy with h | h
      · subst h
        refine key _ ?_
        split
        · next e =>
          cases e2 : HT.lexLt y z with
          | false => rfl
          | true => have := lex_trans e2 e; rw [lex_irr] at this; cases this
        · exact lex_irr _
      · rcases List.mem_cons.mp h with h | h
        · subst h
          refine key _ ?_
          split
          · exact lex_irr _
          · next e => simpa using e
        · exact h2 y (List.mem_cons_of_mem _ h)
theorem minR_of {xs : List (List Int)} {m : List Int} (h : minR xs = some m) : m ∈ xs ∧ ∀ y ∈ xs, HT.lexLt y m = false := by
  cases xs with
  | nil => cases h
  | cons x xs => cases h; exact foldl_minR xs x
section
variable {K : PySem.W.Frag} {σ σ' : St} {G G' M M1 M2 M3 : Hp} {ta tb te tc : TE}
theorem ev_minT {rows : List (List Int)} {m : List Int} (h : minR rows = some m) (ha : EvA (tCons ta tNil) σ G M M1 (conP (DD K (.list (rows.map (eT Dat.int)))) nilP)) : Ev (tCB (rMinT K) (tCons ta tNil)) σ G M M1 (DD K (eT Dat.int m)) := ev_cb ha fun xs G0 H s k hx Q q => by
  obtain ⟨v, rfl, hv⟩ := one_of (R := nilP) hx
  obtain ⟨a, vs, rfl, h1, h2⟩ := dp_list hv
  obtain ⟨m1, m2⟩ := minR_of h
  have ln : vs.length = rows.length := by rw [dpAll_len h2, List.length_map]
  have each : ∀ (i : Nat) (x : V) (r : List Int), vs[i]? = some x → rows[i]? = some r → Dq K G0 x (eT Dat.int r) := fun i x r hx hr => dqAll_at h2 hx (by rw [List.getElem?_map, hr]; rfl)
  refine ⟨a, vs, rows, rfl, .inl (.inl (k.g _ _ h1)), ln, List.length_pos_of_mem m1, fun i x r hx hr => ?_, fun i x r hx hr least => ?_⟩
  · obtain ⟨t, ws, rfl, h3, h4⟩ := dp_tuple (each i x r hx hr)
    rw [dpAll_ints h4] at h3
    exact ⟨t, rfl, sqT_up k.g h3⟩
  · have e : r = m := lex_tri (m2 r (List.mem_of_getElem? hr)) (least m m1)
    subst e
    exact q _ G0 H (Same.refl _) k (each i x r hx hr)
end
end Kx

end

section
set_option maxHeartbeats 2000000
namespace Kx
open PySem L2
/-! ### texts -/
theorem sok_iff {z : Str} : sok z = true ↔ ∀ c ∈ z.cps.toList, c < 0x110000 := by
  unfold sok PyData.strOk
  rw [Array.all_eq_true']
  simp
theorem sok_mk {l : List Nat} (h : ∀ c ∈ l, c < 0x110000) : sok ⟨l.toArray⟩ = true := sok_iff.mpr (by simpa using h)
theorem sok_app {a b : Str} (ha : sok a = true) (hb : sok b = true) : sok (a ++ b) = true := by
  rw [sok_iff] at *
  intro c hc
  have e : (a ++ b).cps.toList = a.cps.toList ++ b.cps.toList := by
    show (a.cps ++ b.cps).toList = _
    simp
  rw [e] at hc
  rcases List.mem_append.mp hc with h | h
  · exact ha c h
  · exact hb c h
def lenS (z : Str) : Option Int := (grd (z.length ≤ 16777216)).bind fun _ => some (z.length : Int)
def atS (z : Str) (i : Int) : Option Str := (grd (z.length ≤ 16777216)).bind fun _ => (atI z.cps.toList i).bind fun c => some ⟨#[c]⟩
def addS (a b : Str) : Option Str := (grd (a.length + b.length ≤ 16777216)).bind fun _ => some (a ++ b)
def inSign (x z : Str) : Option Bool := match x.cps.toList with
  | [c] => some (decide (c ∈ z.cps.toList))
  | _ => none
def sLt (a b : Str) : Bool := decide (a.cps.toList < b.cps.toList)
def cutSO (z : Str) (lo hi : Option Int) : Option Str := (grd (z.length ≤ 16777216)).bind fun _ => some (cutS z lo hi)
section
variable {K : PySem.W.Frag} {σ σ' : St} {G G' M M1 M2 M3 : Hp} {ta tb te tc : TE} {P P1 P2 : VP} {d e : Dat} {ds es : List Dat} {D : Ends} {H : Hp} {u : TS}
theorem dq_str {G : Hp} {v : V} {z : Str} (h : Dq K G v (.str z)) : v = .str z ∧ sok z = true := by
  cases h with
  | str h => exact ⟨rfl, h⟩
def rLenS : List V → Hp → VK → Prop := fun xs H Q => ∃ z, xs = [.str z] ∧ z.length ≤ sizeLine ∧ Q (.int z.length) H
theorem ev_lenS {z : Str} {n : Int} (h : lenS z = some n) (ha : EvA (tCons ta tNil) σ G M M1 (conP (DD K (.str z)) nilP)) : Ev (tCB rLenS (tCons ta tNil)) σ G M M1 (DD K (.int n)) := ev_cb ha fun xs G0 H s k hx Q q => by
  obtain ⟨v, rfl, hv⟩ := one_of (R := nilP) hx
  obtain ⟨rfl, _⟩ := dq_str hv
  obtain ⟨_, h1, h2⟩ := bs h
  cases h2
  exact ⟨z, rfl, szl (grd_of h1), q _ G0 H (Same.refl _) k (.int _)⟩
theorem ev_ixS {z y : Str} {i : Int} (h : atS z i = some y) (ha : Ev ta σ G M M1 (DD K (.str z))) (hb : Ev tb σ G M1 M2 (DD K (.int i))) : Ev (tOp rIxS ta tb) σ G M M2 (DD K (.str y)) := ev_op mo_dd ha hb fun v w G0 H s k hx hy Q q => by
  obtain ⟨rfl, hz⟩ := dq_str hx
  cases hy
  obtain ⟨_, h1, h2⟩ := bs h
  obtain ⟨c, h3, h4⟩ := bs h2
  cases h4
  refine ⟨z, i, c, rfl, rfl, szl (grd_of h1), h3, q _ G0 H (Same.refl _) k (.str (sok_sign hz ?_))⟩
  unfold atI at h3
  obtain ⟨j, _, h5⟩ := bs h3
  exact List.mem_of_getElem? h5
theorem ev_addS {a b c : Str} (h : addS a b = some c) (ha : Ev ta σ G M M1 (DD K (.str a))) (hb : Ev tb σ G M1 M2 (DD K (.str b))) : Ev (tOp (fun x y H Q => ∃ i j, x = V.str i ∧ y = .str j ∧ i.length + j.length ≤ sizeLine ∧ Q (.str (i ++ j)) H) ta tb) σ G M M2 (DD K (.str c)) := ev_op mo_dd ha hb fun v w G0 H s k hx hy Q q => by
  obtain ⟨rfl, h1⟩ := dq_str hx
  obtain ⟨rfl, h2⟩ := dq_str hy
  obtain ⟨_, h3, h4⟩ := bs h
  cases h4
  exact ⟨a, b, rfl, rfl, szl (grd_of h3), q _ G0 H (Same.refl _) k (.str (sok_app h1 h2))⟩
theorem inSign_of {x z : Str} {b : Bool} (h : inSign x z = some b) : ∃ c, x = ⟨#[c]⟩ ∧ b = decide (c ∈ z.cps.toList) := by
  unfold inSign at h
  split at h
  · next c e =>
    refine ⟨c, ?_, (Option.some.inj h).symm⟩
    cases x with
    | mk cps =>
      congr 1
      apply Array.toList_inj.mp
      exact e
  · cases h
theorem ev_inSign {x z : Str} {b : Bool} (h : inSign x z = some b) (ha : Ev ta σ G M M1 (DD K (.str x))) (hb : Ev tb σ G M1 M2 (DD K (.str z))) : Ev (tOp (fun x y H Q => ∃ (c : Nat) (z : Str), x = V.str ⟨#[c]⟩ ∧ y = .str z ∧ Q (.bl (decide (c ∈ z.cps.toList))) H) ta tb) σ G M M2 (DD K (.bool b)) := ev_op mo_dd ha hb fun v w G0 H s k hx hy Q q => by
  obtain ⟨rfl, _⟩ := dq_str hx
  obtain ⟨rfl, _⟩ := dq_str hy
  obtain ⟨c, rfl, rfl⟩ := inSign_of h
  exact ⟨c, z, rfl, rfl, q _ G0 H (Same.refl _) k (.bl _)⟩
theorem ev_leS {a b : Str} (ha : Ev ta σ G M M1 (DD K (.str a))) (hb : Ev tb σ G M1 M2 (DD K (.str b))) : Ev (tOp (fun x y H Q => ∃ i j, x = V.str i ∧ y = .str j ∧ Q (.bl (!decide (j.cps.toList < i.cps.toList))) H) ta tb) σ G M M2 (DD K (.bool (!sLt b a))) := ev_op mo_dd ha hb fun v w G0 H s k hx hy Q q => by
  obtain ⟨rfl, _⟩ := dq_str hx
  obtain ⟨rfl, _⟩ := dq_str hy
  exact ⟨a, b, rfl, rfl, q _ G0 H (Same.refl _) k (.bl _)⟩
theorem ev_ltS {a b : Str} (ha : Ev ta σ G M M1 (DD K (.str a))) (hb : Ev tb σ G M1 M2 (DD K (.str b))) : Ev (tOp (fun x y H Q => ∃ i j, x = V.str i ∧ y = .str j ∧ Q (.bl (decide (i.cps.toList < j.cps.toList))) H) ta tb) σ G M M2 (DD K (.bool (sLt a b))) := ev_op mo_dd ha hb fun v w G0 H s k hx hy Q q => by
  obtain ⟨rfl, _⟩ := dq_str hx
  obtain ⟨rfl, _⟩ := dq_str hy
  exact ⟨a, b, rfl, rfl, q _ G0 H (Same.refl _) k (.bl _)⟩
theorem sok_cut {z : Str} {lo hi : Option Int} (h : sok z = true) : sok (cutS z lo hi) = true := by
  rw [sok_iff] at h
  exact sok_mk fun c hc => h c (List.mem_of_mem_drop (List.mem_of_mem_take hc))
theorem ev_slS {z y : Str} {tl th : TO} {lo hi : Option Int} (hy : cutSO z lo hi = some y) (h : Ev te σ G M M (DD K (.str z))) (h1 : EvO tl σ G M M lo) (h2 : EvO th σ G M M hi) : Ev (tSl rSlS te tl th) σ G M M (DD K (.str y)) := fun G0 H s k Q q =>
  h G0 H s k _ fun x G1 H1 s1 k1 hx => h1 G1 H1 (s.trans s1) k1 _ fun G2 H2 s2 k2 => h2 G2 H2 ((s.trans s1).trans s2) k2 _ fun G3 H3 s3 k3 => by
    obtain ⟨rfl, hz⟩ := dq_str hx
    obtain ⟨_, h3, h4⟩ := bs hy
    cases h4
    exact ⟨z, rfl, szl (grd_of h3), q _ G3 H3 (s1.trans (s2.trans s3)) k3 (.str (sok_cut hz))⟩
theorem cl_lenS {X : Cx} : CallR X (.builtin "len") rLenS := call_len_str
/-! ### a text among texts -/
theorem strs_flat : ∀ (xs : List Str), (xs.map V.str).all flatV = true
  | [] => rfl
  | x :: xs => by
    rw [List.map_cons, List.all_cons, strs_flat xs]; rfl
theorem inV_strs (x : Str) : ∀ (xs : List Str), inV (.str x) (xs.map V.str) = memB x xs
  | [] => by simp [inV, memB]
  | y :: ys => by
    have ih := inV_strs x ys
    unfold inV at ih ⊢
    rw [List.map_cons, List.any_cons, ih]
    have e : eqV (.str y) (.str x) = decide (y = x) := by unfold eqV; exact beq_dec y x
    rw [e]
    unfold memB
    by_cases h : x = y
    · simp [h]
    · simp [h, Ne.symm h]
theorem op_inSK {X : Cx} (h : X.K = K := by rfl) : OpR X (compareOp .In) (rIn K false) := h ▸ op_in_seq
theorem op_notInSK {X : Cx} (h : X.K = K := by rfl) : OpR X (compareOp .NotIn) (rIn K true) := h ▸ op_notIn_seq
theorem ev_inS {x : Str} {xs : List Str} {k : Bool} (ha : Ev ta σ G M M1 (DD K (.str x))) (hb : Ev tb σ G M1 M2 (DD K (seqD k (xs.map Dat.str)))) : Ev (tOp (rIn K false) ta tb) σ G M M2 (DD K (.bool (memB x xs))) := ev_op mo_dd ha hb fun v w G0 H s kk hx hy Q q => by
  obtain ⟨rfl, _⟩ := dq_str hx
  cases k with
  | true =>
    obtain ⟨a, vs, rfl, h1, h2⟩ := dp_tuple (show Dq K G0 w (.tuple (xs.map Dat.str)) from hy)
    rw [dpAll_strs h2] at h1
    refine ⟨a, _, rfl, .inr (sqT_up kk.g h1), rfl, strs_flat xs, ?_⟩
    rw [if_neg (by decide), inV_strs]
    exact q _ G0 H (Same.refl _) kk (.bl _)
  | false =>
    obtain ⟨a, vs, rfl, h1, h2⟩ := dp_list (show Dq K G0 w (.list (xs.map Dat.str)) from hy)
    rw [dpAll_strs h2] at h1
    refine ⟨a, _, rfl, .inl (.inl (.inl (kk.g _ _ h1))), rfl, strs_flat xs, ?_⟩
    rw [if_neg (by decide), inV_strs]
    exact q _ G0 H (Same.refl _) kk (.bl _)
theorem ev_notInS {x : Str} {xs : List Str} {k : Bool} (ha : Ev ta σ G M M1 (DD K (.str x))) (hb : Ev tb σ G M1 M2 (DD K (seqD k (xs.map Dat.str)))) : Ev (tOp (rIn K true) ta tb) σ G M M2 (DD K (.bool (!memB x xs))) := ev_op mo_dd ha hb fun v w G0 H s kk hx hy Q q => by
  obtain ⟨rfl, _⟩ := dq_str hx
  cases k with
  | true =>
    obtain ⟨a, vs, rfl, h1, h2⟩ := dp_tuple (show Dq K G0 w (.tuple (xs.map Dat.str)) from hy)
    rw [dpAll_strs h2] at h1
    refine ⟨a, _, rfl, .inr (sqT_up kk.g h1), rfl, strs_flat xs, ?_⟩
    rw [if_pos rfl, inV_strs]
    exact q _ G0 H (Same.refl _) kk (.bl _)
  | false =>
    obtain ⟨a, vs, rfl, h1, h2⟩ := dp_list (show Dq K G0 w (.list (xs.map Dat.str)) from hy)
    rw [dpAll_strs h2] at h1
    refine ⟨a, _, rfl, .inl (.inl (.inl (kk.g _ _ h1))), rfl, strs_flat xs, ?_⟩
    rw [if_pos rfl, inV_strs]
    exact q _ G0 H (Same.refl _) kk (.bl _)
end
end Kx

end

section
set_option maxHeartbeats 2000000
namespace Kx
open PySem L2
/-! ### the order of texts -/
theorem sLt_irr (a : Str) : sLt a a = false := decide_eq_false (List.lt_irrefl _)
theorem sLt_trans {a b c : Str} (h1 : sLt a b = true) (h2 : sLt b c = true) : sLt a c = true := decide_eq_true (List.lt_trans (of_decide_eq_true h1) (of_decide_eq_true h2))
theorem str_ext {a b : Str} (h : a.cps.toList = b.cps.toList) : a = b := by
  cases a with
  | mk x =>
    cases b with
    | mk y =>
      congr 1
      exact Array.toList_inj.mp h
theorem sLt_tri {a b : Str} (h1 : sLt a b = false) (h2 : sLt b a = false) : a = b := by
  have l1 : ¬ a.cps.toList < b.cps.toList := of_decide_eq_false h1
  have l2 : ¬ b.cps.toList < a.cps.toList := of_decide_eq_false h2
  exact str_ext (List.le_antisymm (List.not_lt.mp l2) (List.not_lt.mp l1))
def sLe (a b : Str) : Bool := !sLt b a
theorem sLe_trans (a b c : Str) (h1 : sLe a b = true) (h2 : sLe b c = true) : sLe a c = true := by
  unfold sLe at *
  cases e : sLt c a with
  | false => rfl
  | true =>
    cases e1 : sLt b a with
    | true => rw [e1] at h1; cases h1
    | false =>
      cases e2 : sLt a b with
      | true => have := sLt_trans e e2; rw [this] at h2; cases h2
      | false => rw [sLt_tri e2 e1] at e; rw [e] at h2; cases h2
theorem sLe_total (a b : Str) : (sLe a b || sLe b a) = true := by
  unfold sLe
  cases e : sLt b a with
  | false => rfl
  | true =>
    cases e2 : sLt a b with
    | false => rfl
    | true => have := sLt_trans e e2; rw [sLt_irr] at this; cases this
theorem sLe_anti {a b : Str} (h1 : sLe a b = true) (h2 : sLe b a = true) : a = b := by
  unfold sLe at *
  exact sLt_tri (by simpa using h2) (by simpa using h1)
/-- two rows in order with the same items are one -/
theorem perm_sorted {α : Type} {le : α → α → Prop} (anti : ∀ a b, le a b → le b a → a = b) : ∀ {l m : List α}, l.Perm m → l.Pairwise le → m.Pairwise le → l = m
  | [], m, p, _, _ => by rw [List.nil_perm.mp p]
  | x :: l, [], p, _, _ => by have := p.length_eq; simp at this
  | x :: l, y :: m, p, h1, h2 => by
    have e : x = y := by
      have hx : x ∈ y :: m := p.mem_iff.mp List.mem_cons_self
      have hy : y ∈ x :: l := p.mem_iff.mpr List.mem_cons_self
      rcases List.mem_cons.mp hx with e | hx
      · exact e
      · rcases List.mem_cons.mp hy with e | hy
        · exact e.symm
        · exact anti _ _ (List.rel_of_pairwise_cons h1 hy) (List.rel_of_pairwise_cons h2 hx)
    subst e
    rw [perm_sorted anti ((List.perm_cons x).mp p) (List.pairwise_cons.mp h1).2 (List.pairwise_cons.mp h2).2]
def srt (xs : List Str) : List Str := xs.mergeSort sLe
def sortS (xs : List Str) : Option (List Str) := (grd (xs.length < 64)).bind fun _ => some (srt xs)
theorem srt_perm (xs : List Str) : (srt xs).Perm xs := List.mergeSort_perm _ _
theorem srt_sorted (xs : List Str) : (srt xs).Pairwise fun a b => sLe a b = true := List.pairwise_mergeSort sLe_trans sLe_total xs
theorem rising_pairwise : ∀ {p : Str} {l : List Str}, PyProof.Rows.risingS p l = true → (p :: l).Pairwise fun a b => sLe a b = true
  | p, [], _ => by simp
  | p, x :: r, h => by
    unfold PyProof.Rows.risingS at h
    rw [Bool.and_eq_true] at h
    have ih := rising_pairwise h.2
    have e : sLe p x = true := by
      unfold sLe sLt
      rw [← PyProof.Rows.ltCps_eq]
      exact h.1
    refine List.pairwise_cons.mpr ⟨fun y hy => ?_, ih⟩
    rcases List.mem_cons.mp hy with e2 | hy
    · rw [e2]; exact e
    · exact sLe_trans _ _ _ e (List.rel_of_pairwise_cons ih hy)
theorem srt_is {xs ys : List Str} (p : ys.Perm xs) (h : PyProof.Rows.sortedS ys = true) : ys = srt xs := by
  refine perm_sorted (le := fun a b => sLe a b = true) (fun a b => sLe_anti) (p.trans (srt_perm xs).symm) ?_ (srt_sorted xs)
  cases ys with
  | nil => exact .nil
  | cons y l => exact rising_pairwise h
def idxO (z : Str) : List Str → Option Nat
  | [] => none
  | y :: ys => if y = z then some 0 else (idxO z ys).map (· + 1)
theorem idxO_of {z : Str} : ∀ {ys : List Str} {j : Nat}, idxO z ys = some j → ys[j]? = some z ∧ ∀ m, m < j → ys[m]? ≠ some z
  | [], j, h => by cases h
  | y :: ys, j, h => by
    unfold idxO at h
    by_cases e : y = z
    · rw [if_pos e] at h
      cases h
      exact ⟨by rw [e]; rfl, fun m hm => by omega⟩
    · rw [if_neg e] at h
      cases e2 : idxO z ys with
      | none => rw [e2] at h; cases h
      | some k =>
        rw [e2] at h
        cases h
        obtain ⟨h1, h2⟩ := idxO_of e2
        refine ⟨by simpa using h1, fun m hm => ?_⟩
        have hm : m < k + 1 := hm
        cases m with
        | zero => simpa using e
        | succ m => simpa using h2 m (by omega)
section
variable {K : PySem.W.Frag} {σ σ' : St} {G G' M M1 M2 M3 : Hp} {ta tb te tc : TE} {P P1 P2 : VP} {d e : Dat} {ds es : List Dat} {D : Ends} {H : Hp} {u : TS}
theorem cr_sortedSK {X : Cx} (h : X.K = K := by rfl) : CallR X (.builtin "sorted") (rSortedS K) := h ▸ cr_sortedS
theorem dqAll_strs {G : Hp} : ∀ {xs : List Str} , (∀ x ∈ xs, sok x = true) → DqAll K G (xs.map V.str) (xs.map Dat.str)
  | [], _ => .nil
  | x :: xs, h => .cons (.str (h x List.mem_cons_self)) (dqAll_strs fun y hy => h y (List.mem_cons_of_mem _ hy))
theorem strs_sok {G : Hp} : ∀ {xs : List Str} {vs : List V}, DqAll K G vs (xs.map Dat.str) → ∀ x ∈ xs, sok x = true
  | [], _, _, x, hx => by simp at hx
  | y :: ys, _, .cons a b, x, hx => by
    rcases List.mem_cons.mp hx with e | hx
    · rw [e]; exact (dq_str a).2
    · exact strs_sok b x hx
theorem el_sortedS {xs ys : List Str} (h : sortS xs = some ys) (ha : EvA (tCons ta tNil) σ G M M1 (conP (DD K (.list (xs.map Dat.str))) nilP)) : EvL K (tCB (rSortedS K) (tCons ta tNil)) σ G M M1 (ys.map Dat.str) := el_cb ha fun vs G0 H s k hx Q q => by
  obtain ⟨v, rfl, hv⟩ := one_of (R := nilP) hx
  obtain ⟨a, ws, rfl, h1, h2⟩ := dp_list hv
  obtain ⟨_, h3, h4⟩ := bs h
  cases h4
  have so := strs_sok h2
  rw [dpAll_strs h2] at h1
  refine ⟨a, xs, rfl, .inl (.inl (k.g _ _ h1)), grd_of h3, fun zs p pz sz hp => ?_⟩
  have e := srt_is pz sz
  subst e
  exact newL (Same.refl _) k (dqAll_strs fun x hx => so x ((srt_perm xs).mem_iff.mp hx)) q p hp
def rIdxT (K : PySem.W.Frag) : V → List V → Hp → VK → Prop := fun x xs H Q => ∃ p, ∃ ys : List Str, ∃ z j, x = .ref p ∧ xs = [.str z] ∧ SqT K H p (ys.map V.str) ∧ ys[j]? = some z ∧ (∀ m, m < j → ys[m]? ≠ some z) ∧ Q (.int (j : Nat)) H
theorem mt_idxTK {X : Cx} (h : X.K = K := by rfl) : MtR X "tuple.index" (rIdxT K) := h ▸ mt_tup_index
theorem ev_idxT {z : Str} {ys : List Str} {j : Nat} (h : idxO z ys = some j) (ho : Ev ta σ G M M1 (DD K (.tuple (ys.map Dat.str)))) (ha : EvA (tCons tb tNil) σ G M1 M2 (conP (DD K (.str z)) nilP)) : Ev (tBMT K (rIdxT K) ta (tCons tb tNil)) σ G M M2 (DD K (.int (j : Int))) := fun G0 H s k Q q =>
  ho G0 H s k _ fun x G1 H1 s1 k1 hx => by
    cases hx with
    | tup a b =>
      refine ⟨⟨_, _, rfl, a.up k1.g⟩, ha G1 H1 (s.trans s1) k1 _ fun xs G2 H2 s2 k2 hv => ?_⟩
      obtain ⟨v, rfl, hw⟩ := one_of (R := nilP) hv
      obtain ⟨rfl, _⟩ := dq_str hw
      obtain ⟨h1, h2⟩ := idxO_of h
      have sq := sqT_up (s2.trans k2.g) a.sq
      rw [dpAll_strs b] at sq
      exact ⟨_, ys, z, j, rfl, rfl, sq, h1, h2, q _ G2 H2 (s1.trans s2) k2 (.int _)⟩
theorem popO_of {α : Type} {xs : List α} {i : Int} {r : α × List α} (h : popO xs i = some r) : (-(2 ^ 63) ≤ i ∧ i < 2 ^ 63) ∧ ∃ k, seqIndex? i xs.length = some k ∧ xs[k]? = some r.1 ∧ r.2 = xs.eraseIdx k := by
  obtain ⟨_, h1, h⟩ := bs h
  obtain ⟨k, h2, h⟩ := bs h
  obtain ⟨x, h3, h⟩ := bs h
  cases h
  exact ⟨grd_of h1, k, h2, h3, rfl⟩
/-- xs.pop(i), xs a list of one's own -/
theorem ev_popO {β : Type} {e : β → Dat} {xs : List β} {i : Int} {r : β × List β} {p : Addr} {vs : List V} {k : Nat} (h : popO xs i = some r) (hk : seqIndex? i xs.length = some k) (hp0 : M p = some (.lst vs)) (hp : M1 p = some (.lst vs)) (hd : DqAll K G vs (xs.map e)) (ho : Ev ta σ G M M (OW p)) (ha : EvA (tCons tb tNil) σ G M M1 (conP (DD K (.int i)) nilP)) :
    Ev (tBM K "list" rPopAt ta (tCons tb tNil)) σ G M (upd M1 p (.lst (vs.eraseIdx k))) (DD K (e r.1)) := fun G0 H s kk Q q =>
  ho G0 H s kk _ fun x G1 H1 s1 k1 hx => by
    cases hx
    refine ⟨.inl ⟨rfl, _, .inl (.inl (k1.m _ _ hp0))⟩, ha G1 H1 (s.trans s1) k1 _ fun ys G2 H2 s2 k2 hv => ?_⟩
    obtain ⟨v, rfl, hw⟩ := one_of (R := nilP) hv
    cases hw
    obtain ⟨b, k', h1, h2, h3⟩ := popO_of h
    rw [hk] at h1
    cases h1
    obtain ⟨y, h4, h5⟩ := dpAll_get (i := k) (d := e r.1) hd (by rw [List.getElem?_map, h2]; rfl)
    refine ⟨p, vs, i, k, y, rfl, rfl, k2.m _ _ hp, b.1, b.2, by rw [dpAll_len hd, List.length_map]; exact hk, h4, ?_⟩
    exact q _ G2 _ (s1.trans s2) (k2.chg _ hp) (dp_up ((s.trans s1).trans s2) _ h5)
theorem map_erase {α β : Type} {f : α → β} : ∀ (xs : List α) (k : Nat), (xs.eraseIdx k).map f = (xs.map f).eraseIdx k
  | [], _ => rfl
  | _ :: _, 0 => rfl
  | x :: xs, k + 1 => by
    show f x :: (xs.eraseIdx k).map f = f x :: (xs.map f).eraseIdx k
    rw [map_erase xs k]
end
end Kx

end

section
set_option maxHeartbeats 2000000
namespace Kx
open PySem L2 PySem.Spec PyProof.Rows
/-! ### a dict filled by a comprehension: keys of either kind -/
theorem dictSet2 {X : Cx} {pins : List (Addr × Obj)} {σ : L2.St} {H H' : Hp} {s : Shared} {E : Value → Shared → Prop} {D : Addr} {y v : V} {u r : Value} {Q : Unit → Shared → Prop} (hu : X.A.units + 1 < cLine) (I : Inv X pins σ H s) (g : DPut H D y v H') (ry : RelV y u) (rv : RelV v r)
    (h : ∀ s', Inv X pins σ H' s' → Q () s') : wpAny (model X.prog X.w) X.A (dictSet D u r) Q E s := by
  rcases g with ⟨kvs, k, e, rfl, l, rfl⟩ | ⟨kvs, k, b, e, rfl, eb, l, rfl⟩
  · exact d_dictSet I e l ry rv h
  · cases (show u = Value.ref b from ry)
    obtain ⟨z, hd, xs, rel, dd⟩ := dt_of I.hok e
    have hz : xs.length ≤ sizeLine := by rw [← Paired.length rel]; exact z
    have hl : (putK kvs k v).length ≤ sizeLine := by have := length_putK kvs k v; omega
    refine wpAny_dictSet_heap (hsz := hz) (show (tupleKind (mixKind X.prog X.w)).room X.A from Nat.lt_of_succ_lt hu) (key_of I.hok eb) dd fun g1 dd1 hs => h _ ?_
    obtain ⟨q, es, ep, hq, h2, h3, h4, _, h5⟩ := dd1
    refine d_write I (by rw [e]; exact True.intro) hs ⟨q, hq⟩ ⟨hl, hd, _, (rel.put k eb rv).keeps fun c ys ec => ?_, q, es, ep, hq, h2, h3, h4, h5⟩
    rw [upd_ne (ne_of ec e (fun z => nomatch z))]
    exact ec
/-- the empty one, by its kind -/
def d0 : Bool → HO
  | true => .dT []
  | false => .dK []
def tDcB (kd : Bool) (wi : TI) (g : TG) (tt : TT) (tk tv : TE) (vs : List Nat) : TE := fun σ H Q => wi σ H fun J H1 => ∀ D, H1 D = none → ∃ W : Nat → Nat → Hp → Prop, (∃ m, W 0 m (upd H1 D (d0 kd))) ∧ ∀ i m H, W i m H →
  (J.stop i H ∧ Q (.ref D) H) ∨ (J.go i H ∧ ∃ Nx : Hp → Prop, (∀ H', Nx H' → ∃ m', m' < m ∧ W (i + 1) m' H') ∧ ∀ x H', J.yld i H x H' → g x (wipe σ vs) H' fun σ2 H2 => wipe σ2 vs = wipe σ vs ∧ tt σ2 H2 fun b H3 =>
    if b = true then tk σ2 H3 fun y H4 => tv σ2 H4 fun z H5 => ∃ H6, DPut H5 D y z H6 ∧ Nx H6 else Nx H3)
section
variable {X : Cx}
theorem pe_dcB (kd : Bool) {kx vx tg iter : Expr} {ifs : List Expr} {scope : Scope} {own : List (Str × Nat)} {pos : Pos} {wi : TI} {g : TG} {tt : TT} {tk tv : TE} (hu : X.A.units + 1 < cLine) (hc : X.calm = true) (hN : X.N.Nodup) (hi : PI X tg iter wi) (ok : BlkOk X.N X.env.scope scope own)
    (hg : ∀ (s : Shared) (H : Hp) (C : Addr) (cl : List (Str × Addr)) (fp : List Addr), PG (X.blk s H scope (compEnvC scope cl C X.env) fp) tg g) (ht : ∀ (s : Shared) (H : Hp) (C : Addr) (cl : List (Str × Addr)) (fp : List Addr), PTs (X.blk s H scope (compEnvC scope cl C X.env) fp) ifs tt)
    (hk : ∀ (s : Shared) (H : Hp) (C : Addr) (cl : List (Str × Addr)) (fp : List Addr), PE (X.blk s H scope (compEnvC scope cl C X.env) fp) kx tk)
    (he : ∀ (s : Shared) (H : Hp) (C : Addr) (cl : List (Str × Addr)) (fp : List Addr), PE (X.blk s H scope (compEnvC scope cl C X.env) fp) vx tv) (hs : ∀ x, foldedSetIterable iter X.env x = pure x := by intro _; rfl) :
    PE X (.DictComp kx vx [⟨tg, iter, ifs, 0⟩] scope pos) (tDcB kd wi g tt tk tv (own.map (·.2))) := by
  refine ⟨fun pins s σ H Q I hq => ?_⟩
  rw [arm_eval_DictComp]
  have cells : ∀ y ∈ scope.names, y.2 = .free → ∃ c, X.env.cells.lookup y.1 = some c := fun y hy e => (ok.free y hy e).elim (fun k => I.ok.has _ (.inl k)) (fun k => I.ok.has _ (.inr k))
  refine wpAny_comprehension_free (use := none) rfl hs (closure_ok cells) ok.kind (fun y hy e => by rw [ok.uniq y hy, e]) (thn (hi.run pins s σ H _ I hq) fun xv s1 hx => thn hx fun itv s2 h2 => ?_)
  obtain ⟨it, fp, tn, J, H2, rfl, I2, T, st2, f2, q⟩ := h2
  refine wpAny_newObj_type (newEnv_comp ?_)
  generalize hD : s2.heap.objs.size = D
  obtain ⟨W, ⟨m0, w0⟩, turn⟩ := q D (I2.hok.fresh (Nat.le_of_eq hD))
  generalize hs3 : ({ s2 with heap := s2.heap.push { cls := .type "dict", data := .dict #[] } } : Shared) = s3
  have h3 : s3.heap = s2.heap.push { cls := .type "dict", data := .dict #[] } := by rw [← hs3]
  have I3 : Inv X pins σ (upd H2 D (d0 kd)) s3 := by
    rw [← hs3]
    refine I2.laid (t' := s2.toks) (fun b o e => Heap.get?_push_of_some _ e) (Nat.le_of_eq hD) ?_
    rw [← hD]
    cases kd with
    | true => exact dt_empty s2.heap I2.big
    | false => exact dk_empty s2.heap I2.big
  have f3 : ∀ b ∈ fp, FpOk X pins (upd H2 D (d0 kd)) b ∧ b < s3.heap.objs.size := fun b hb => by
    obtain ⟨o, e, _⟩ := T.obj _ _ st2 b hb
    have lt := Heap.lt_size e
    refine ⟨⟨?_, (f2 b hb).2⟩, by rw [h3, Heap.size_push]; exact Nat.lt_succ_of_lt lt⟩
    rw [upd_ne (by rw [← hD]; exact Nat.ne_of_lt lt)]
    exact (f2 b hb).1
  have st3 : tn 0 s3.heap := T.keep _ _ _ st2 fun b _ o e => by rw [h3]; exact Heap.get?_push_of_some _ e
  have I4 := block_start I3 ok hN f3
  have pg := hg s3 (upd H2 D (d0 kd)) s3.heap.objs.size (cellsFrom (s3.heap.objs.size + 1) scope.names (cloFrom X.env.cells scope.names [])) fp
  have pt := ht s3 (upd H2 D (d0 kd)) s3.heap.objs.size (cellsFrom (s3.heap.objs.size + 1) scope.names (cloFrom X.env.cells scope.names [])) fp
  have pk := hk s3 (upd H2 D (d0 kd)) s3.heap.objs.size (cellsFrom (s3.heap.objs.size + 1) scope.names (cloFrom X.env.cells scope.names [])) fp
  have pe := he s3 (upd H2 D (d0 kd)) s3.heap.objs.size (cellsFrom (s3.heap.objs.size + 1) scope.names (cloFrom X.env.cells scope.names [])) fp
  show codeAny _ _ (.compStart (.DictComp kx vx [⟨tg, iter, ifs, 0⟩] scope pos) 0 (.ref it) (.ref D) (compEnvC scope (cellsFrom (s3.heap.objs.size + 1) scope.names (cloFrom X.env.cells scope.names [])) s3.heap.objs.size X.env)) (compPost (model X.prog X.w) X.A X.xe none (EP X pins σ Q) (.ref D) s3.heap.objs.size) { s3 with heap := pushCells (s3.heap.push { cls := .type "dict", data := .dict #[] }) scope.names }
  have nfp : ∀ b ∈ fp, (upd H2 D (d0 kd)) b = none := fun b hb => (f3 b hb).1.1
  generalize hce : compEnvC scope (cellsFrom (s3.heap.objs.size + 1) scope.names (cloFrom X.env.cells scope.names [])) s3.heap.objs.size X.env = ce at I4 pg pt pk pe ⊢
  have cL : ce.locals = s3.heap.objs.size := by subst hce; rfl
  generalize hH3 : upd H2 D (d0 kd) = H3 at I3 I4 pg pt pk pe w0 nfp f3
  generalize hs4 : ({ s3 with heap := pushCells (s3.heap.push { cls := .type "dict", data := .dict #[] }) scope.names } : Shared) = s4 at I4 ⊢
  have st4 : tn 0 s4.heap := T.keep _ _ _ st3 fun b _ o e => by rw [← hs4]; exact pushCells_keeps _ _ _ _ (Heap.get?_push_of_some _ e)
  have stat : ∀ {σ1 : L2.St} {H1 : Hp} {s' : Shared}, Inv (X.blk s3 H3 scope ce fp) [] σ1 H1 s' → (∀ b ∈ fp, H1 b = none) → ∀ b ∈ fp, FpOk (X.blk s3 H3 scope ce fp) [] H1 b := fun I1 hn b hb =>
    ⟨hn b hb, (I1.ok.exf b hb).1, I1.ok.exfs b hb, .inl hb, fun x c e => (I1.ok.exf b hb).2 x c e, fun p hp => absurd (show p ∈ ([] : List (Addr × Obj)) ++ [] from hp) (by simp)⟩
  have loop : codeAny (model X.prog X.w) X.A (.compLoop (.DictComp kx vx [⟨tg, iter, ifs, 0⟩] scope pos) 0 (.ref it) (.ref D) ce) (compPost (model X.prog X.w) X.A X.xe none (EP X pins σ Q) (.ref D) s3.heap.objs.size) s4 := by
    refine compLoop_anyD (fun n s' => ∃ i H1, Inv (X.blk s3 H3 scope ce fp) [] (wipe σ (own.map (·.2))) H1 s' ∧ tn i s'.heap ∧ (∀ b ∈ fp, H1 b = none) ∧ W i n H1) ?_ m0 ⟨0, H3, I4, st4, nfp, w0⟩
    rintro n s5 ⟨i, H5, I5, st5, n5, w5⟩
    rcases turn i n H5 w5 with ⟨stop, qq⟩ | ⟨go, Nx, hNx, step⟩
    · refine thnF (T.done (X.blk s3 H3 scope ce fp) rfl rfl rfl hc i [] s5 _ H5 (fun _ _ => False) I5 (stat I5 n5) st5 stop) fun r s6 ⟨hr, I6⟩ => ?_
      subst hr
      have I7 : Inv X pins σ H5 s6 := I3.call' (ch := fp) I6.os I6.base I6.hok I6.bare fun b hb => ⟨(f3 b hb).1.2.2.2.1, (f3 b hb).1.2.1, (f3 b hb).1.2.2.2.2.1, (f3 b hb).1.2.2.2.2.2⟩
      have nC : H5 s3.heap.objs.size = none := by
        have z : H5 ce.locals = none := I6.free
        rw [cL] at z
        exact z
      obtain ⟨m, hn, _⟩ := I6.loc
      have hn : s6.heap.Ns ce.locals m := hn
      rw [cL] at hn
      obtain ⟨a0, a1, a2, a3, a4, a5⟩ := I3.fpOk (Nat.le_refl _) nC
      exact ⟨m, hn, fun g2 sb => ⟨.ref D, H5, I7.turned (t' := s6.toks) (fun b o hb e => (sb.2 b hb).trans e) a0 a1 a3 a4 a5, rfl, qq⟩⟩
    · refine thnF (T.item (X.blk s3 H3 scope ce fp) rfl rfl rfl hc i [] s5 _ H5 (fun _ _ => False) I5 (stat I5 n5) st5 go) fun r s6 ⟨u, hr, h6⟩ => ?_
      subst hr
      refine thnF h6 fun _ s7 ⟨x, H7, I7, r7, y7, st7, n7⟩ => ?_
      refine thnF (pg.run _ s7 _ H7 x u _ (I7.pinned (stat I7 n7) (T.obj _ _ st7)) r7 (step x H7 y7)) fun _ s8 ⟨σ8, H8, I8, hw8, q8⟩ => ?_
      refine thnF (pt.run _ s8 σ8 H8 _ I8 q8) fun b s9 ⟨H9, I9, q9⟩ => ?_
      have fin : ∀ {s' : Shared} {H1 : Hp}, Inv (X.blk s3 H3 scope ce fp) ([] ++ pinsAt fp s7.heap) σ8 H1 s' → Nx H1 → ∃ m, m < n ∧ ∃ i H1, Inv (X.blk s3 H3 scope ce fp) [] (wipe σ (own.map (·.2))) H1 s' ∧ tn i s'.heap ∧ (∀ b ∈ fp, H1 b = none) ∧ W i m H1 := fun {s' H1} I1 nx => by
        obtain ⟨m1, hm, w1⟩ := hNx H1 nx
        have pin1 : ∀ b ∈ fp, ∀ o, s7.heap.get? b = some o → s'.heap.get? b = some o ∧ H1 b = none := fun b hb o e =>
          let z := I1.pin (b, o) (List.mem_append_right _ (List.mem_append_right _ (mem_pinsAt hb e)))
          ⟨z.1, z.2.1⟩
        refine ⟨m1, hm, i + 1, H1, (I1.unpinned (pins := [])).weak (by rw [← hw8, wipe_length]) (fun j v e => by rw [← hw8] at e; exact (wipe_some e).1), T.keep _ _ _ st7 fun b hb o e => (pin1 b hb o e).1, fun b hb => ?_, w1⟩
        obtain ⟨o, e, _⟩ := T.obj _ _ st7 b hb
        exact (pin1 b hb o e).2
      cases b with
      | false =>
        simp only [Bool.false_eq_true, if_false] at q9 ⊢
        exact fin I9 q9
      | true =>
        simp only [if_true] at q9 ⊢
        refine thnF (pk.run _ s9 σ8 H9 _ I9 q9) fun z s10 ⟨yk, H10, I10, r10, q10⟩ => ?_
        refine thnF (pe.run _ s10 σ8 H10 _ I10 q10) fun z2 s11 ⟨yv, H11, I11, r11, H6, put, nx⟩ => ?_
        exact dictSet2 (X := X.blk s3 H3 scope ce fp) hu I11 put r10 r11 fun s12 I12 => fin I12 nx
  exact codeAny_compStart_dict loop (T.self X.A 0 _ _ _ st4 loop)
end
end Kx

end

section
set_option maxHeartbeats 2000000
namespace Kx
open PySem L2 PySem.Spec PyProof.Rows
/-! ### dict(xs) of pairs: a tuple of pairs by texts; a list of pairs by tuples of texts -/
def mergeT (kvs more : List (List Key × V)) : List (List Key × V) := more.foldl (fun acc kv => putK acc kv.1 kv.2) kvs
theorem length_mergeT : ∀ (more kvs : List (List Key × V)), (mergeT kvs more).length ≤ kvs.length + more.length
  | [], kvs => by show kvs.length ≤ kvs.length + 0; omega
  | p :: r, kvs => by
    have h1 := length_mergeT r (putK kvs p.1 p.2)
    have h2 := length_putK kvs p.1 p.2
    show (mergeT (putK kvs p.1 p.2) r).length ≤ _
    rw [List.length_cons]; omega
theorem KT.mergeAll {H : Hp} : ∀ {more : List (List Key × V)} {rs : List (List Key × Addr × Value)} {kvs : List (List Key × V)} {xs : List (List Key × Addr × Value)}, L2.KT H more rs → L2.KT H kvs xs → L2.KT H (mergeT kvs more) (storedAllH xs rs) := by
  intro more rs kvs xs r
  induction r generalizing kvs xs with
  | nil => intro q; exact q
  | @cons p q ps qs h t ih =>
    intro r0
    obtain ⟨h1, h2, h3⟩ := h
    have e := L2.KT.put r0 p.1 h2 h3
    rw [h1] at e
    have e2 := ih e
    show L2.KT H (mergeT (putK kvs p.1 p.2) ps) (storedAllH (storedH xs q.1 q.2.1 q.2.2) qs)
    rw [h1]
    exact e2
section
variable {X : Cx} {K : PySem.W.Frag}
/-- pairs whose keys are tracked tuples -/
theorem pairsT_of {pins : List (Addr × Obj)} {σ : L2.St} {H : Hp} {s : Shared} (I : Inv X pins σ H s) : ∀ {ps : List Addr} {kvs : List (List Key × V)}, Paired (fun p kv => ∃ b, SqT X.K H p [.ref b, kv.2] ∧ H b = some (.tup (kv.1.map kV))) ps kvs →
    ∃ prs : List (List Key × Addr × Value), L2.KT H kvs prs ∧ prs.length = ps.length ∧ ∀ (j : Nat) (q : List Key × Addr × Value), prs[j]? = some q → ∃ b : Addr, ps[j]? = some b ∧ IsTup s.heap b #[.ref q.2.1, q.2.2]
  | _, _, .nil => ⟨[], .nil, rfl, fun j q e => by simp at e⟩
  | _, _, .cons (a := p) (b := kv) h t => by
    obtain ⟨prs, r, hl, hp⟩ := pairsT_of I t
    obtain ⟨b, h, hb⟩ := h
    obtain ⟨its, rv, ht, _⟩ := I.tuple h
    obtain ⟨u, y, ei, ru, ry⟩ := vals2 rv
    subst ei
    cases (show u = Value.ref b from ru)
    refine ⟨(kv.1, b, y) :: prs, .cons ⟨rfl, hb, ry⟩ r, by rw [List.length_cons, List.length_cons, hl], fun j q e => ?_⟩
    cases j with
    | zero =>
      have e' : (kv.1, b, y) = q := Option.some.inj e
      subst e'
      exact ⟨p, rfl, ht⟩
    | succ j =>
      obtain ⟨b', e1, e2⟩ := hp j q (by simpa using e)
      exact ⟨b', by simpa using e1, e2⟩
def rDictH (K : PySem.W.Frag) : List V → Hp → VK → Prop := fun xs H Q => ∃ (a : Addr) (ps : List Addr) (kvs : List (List Key × V)), xs = [.ref a] ∧ SqL K H a (ps.map V.ref) ∧ Paired (fun p kv => ∃ b, SqT K H p [.ref b, kv.2] ∧ H b = some (.tup (kv.1.map kV))) ps kvs ∧
    ∀ p, H p = none → Q (.ref p) (upd H p (.dT (mergeT [] kvs)))
theorem isTuple_of {h : Heap} {a : Addr} {its : Array Value} (x : IsTup h a its) : h.IsTuple a its := by
  obtain ⟨o, h1, h2, n, h3⟩ := x
  exact ⟨o, h1, h2, n, h3⟩
theorem cl_dictH (hu : X.A.units + 2 < cLine) (hcalm : X.calm = true) : CallR X (.type "dict") (rDictH X.K) := by
  intro pins s σ H xs us Q I r q
  obtain ⟨a, ps, kvs, ex, hq, hp, q⟩ := q
  subst ex
  obtain ⟨u, eu, rx⟩ := vals1 r
  subst eu
  cases rx
  obtain ⟨its, rv, pl, hz⟩ := I.list hq
  have ei := refs_at rv
  subst ei
  rw [List.length_map] at hz
  obtain ⟨prs, rel, hl, hpr⟩ := pairsT_of I hp
  obtain ⟨o, n, ho, hc, hd, hdat⟩ := pl
  let Ts : Nat → Addr := fun j => ps.getD j 0
  have hkeys : ∀ h' : Heap, (∀ b o, s.heap.get? b = some o → h'.get? b = some o) → ∀ {l : List (List Key × V)} {m : List (List Key × Addr × Value)}, L2.KT H l m → ∀ x ∈ m, (tupleKind (mixKind X.prog X.w)).is h' x.1 x.2.1 := by
    intro h' hk l m q
    induction q with
    | nil => intro x hx; exact nomatch hx
    | @cons p q ps qs hq t ih =>
      intro x hx
      rcases List.mem_cons.mp hx with e | hx
      · subst e
        obtain ⟨oo, its, nn, e1, e2, e3, e4⟩ := key_of (P := X.prog) (w := X.w) I.hok (by rw [← hq.1]; exact hq.2.1 : H x.2.1 = some (.tup (x.1.map kV)))
        exact ⟨oo, its, nn, hk _ _ e1, e2, e3, e4⟩
      · exact ih x hx
  refine PySem.call_dict_pairsH (knd := tupleKind (mixKind X.prog X.w)) (ps := prs) (PairArg.list a (ps.map Value.ref).toArray Ts (prs.map fun x => (Value.ref x.2.1, x.2.2))) (I.ok.hd hcalm) (show X.A.units + 2 < cLine from hu) ⟨⟨o, n, ho, hc, hd, hdat⟩, ?_, fun j k v e => ?_⟩ ⟨by rw [List.length_map], fun i key v hr => ?_⟩ (fun h' hk => ?_) (by rw [List.length_map, hl]; exact hz) fun h' tk dd k => ?_
  · simp [hl]
  · rw [List.getElem?_map] at e
    obtain ⟨x, hx, e⟩ := Option.map_eq_some_iff.mp e
    cases e
    obtain ⟨b, e1, e2⟩ := hpr j x hx
    have hb : Ts j = b := by show ps.getD j 0 = b; rw [List.getD_eq_getElem?_getD, e1]; rfl
    rw [hb]
    exact ⟨by simp [e1], .inl (isTuple_of e2)⟩
  · have hr : (prs.map fun x => (Value.ref x.2.1, x.2.2))[i]? = some (key, v) := hr
    rw [List.getElem?_map] at hr
    obtain ⟨x, hx, e⟩ := Option.map_eq_some_iff.mp hr
    cases e
    exact ⟨x.1, x.2.1, hx, rfl⟩
  · exact hkeys h' (fun b o e => hk b o (Nat.ne_of_lt (Heap.lt_size e)) (by simp) e) rel
  · have k : ∀ b o, s.heap.get? b = some o → h'.get? b = some o := fun b o e => k b o (by simp) e
    have hm : (s.heap.objs.size == sysModules) = false := beq_eq_false_iff_ne.mpr (Nat.ne_of_gt I.big)
    have hlen : (mergeT [] kvs).length ≤ sizeLine := by
      refine Nat.le_trans (length_mergeT kvs []) ?_
      rw [List.length_nil, Nat.zero_add, Paired.length rel, hl]
      exact hz
    have fr := I.hok.fresh (Nat.le_refl s.heap.objs.size)
    obtain ⟨oo, es, ep, h1, h2, h3, h4, _, h5⟩ := dd
    refine ⟨.ref s.heap.objs.size, upd H s.heap.objs.size (.dT (mergeT [] kvs)), I.laid (t' := tk) k (Nat.le_refl _) (show ObjOk X.prog X.w _ _ _ (.dT (mergeT [] kvs)) from ⟨hlen, hm, _, L2.KT.keeps (KT.mergeAll rel .nil) fun b ys e => ?_, oo, es, ep, h1, h2, h3, h4, h5⟩), rfl, q _ fr⟩
    rw [upd_ne (ne_of_none e fr)]
    exact e
def rDictT (K : PySem.W.Frag) : List V → Hp → VK → Prop := fun xs H Q => ∃ (a : Addr) (ps : List Addr) (kvs : List (Key × V)), xs = [.ref a] ∧ (TupG K H a (ps.map V.ref) ∨ SqL K H a (ps.map V.ref)) ∧ Paired (fun p kv => SqT K H p [kV kv.1, kv.2]) ps kvs ∧
    ∀ p, H p = none → Q (.ref p) (upd H p (.dK (mergeK [] kvs)))
theorem cl_dictT (hcalm : X.calm = true) : CallR X (.type "dict") (rDictT X.K) := by
  intro pins s σ H xs us Q I r q
  obtain ⟨a, ps, kvs, ex, hq | hq, hp, q⟩ := q
  rotate_left
  · exact call_dictP hcalm pins s σ H xs us Q I r ⟨a, ps, kvs, ex, hq, hp, q⟩
  subst ex
  obtain ⟨u, eu, rx⟩ := vals1 r
  subst eu
  cases rx
  obtain ⟨its, rv, _, hz⟩ := I.tuple hq.sq
  have ei := refs_at rv
  subst ei
  have ob : ∃ o n, s.heap.get? a = some o ∧ o.cls = .type "tuple" ∧ o.dict = none ∧ o.data = .seq (ps.map Value.ref).toArray n := by
    rcases hq with ⟨o, e, hd⟩ | ⟨o, its, n, e, hc, hd, h4, _, h6⟩
    · obtain ⟨e1, _, its, r1, o2, e2, hc, n, h3⟩ := I.hok a _ e
      rw [e1] at e2
      cases e2
      rw [refs_at r1] at h3
      exact ⟨o, n, e1, hc, hd, h3⟩
    · have e6 := refs_at h6
      exact ⟨o, n, I.kIn a o e, hc, hd, by rw [h4, ← e6]⟩
  rw [List.length_map] at hz
  obtain ⟨prs, rel, hl, hpr⟩ := pairs_of I hp
  let Ts : Nat → Addr := fun j => ps.getD j 0
  have ks : ∀ {l : List (Key × Value)}, (∀ (j : Nat) (q : Key × Value), l[j]? = some q → ∃ (b : Addr) (u : Value), IsTup s.heap b #[u, q.2] ∧ keyIs q.1 u = true) → True := fun _ => trivial
  -- the keys' values
  have hex : ∃ us : List Value, us.length = prs.length ∧ ∀ (j : Nat) (q : Key × Value), prs[j]? = some q → ∃ b u, ps[j]? = some b ∧ us[j]? = some u ∧ IsTup s.heap b #[u, q.2] ∧ keyIs q.1 u = true := by
    clear rel
    have : ∀ (prs : List (Key × Value)) (ps : List Addr), (∀ (j : Nat) (q : Key × Value), prs[j]? = some q → ∃ (b : Addr) (u : Value), ps[j]? = some b ∧ IsTup s.heap b #[u, q.2] ∧ keyIs q.1 u = true) → ∃ us : List Value, us.length = prs.length ∧ ∀ (j : Nat) (q : Key × Value), prs[j]? = some q → ∃ b u, ps[j]? = some b ∧ us[j]? = some u ∧ IsTup s.heap b #[u, q.2] ∧ keyIs q.1 u = true := by
      intro prs
      induction prs with
      | nil => intro ps _; exact ⟨[], rfl, fun j q e => by simp at e⟩
      | cons x prs ih =>
        intro ps h
        obtain ⟨us, hl, hu⟩ := ih ps.tail fun j q e => by
          obtain ⟨b, u, e1, e2⟩ := h (j + 1) q (by simpa using e)
          refine ⟨b, u, ?_, e2⟩
          cases ps with
          | nil => simp at e1
          | cons _ _ => simpa using e1
        obtain ⟨b, u, e1, e2⟩ := h 0 x rfl
        refine ⟨u :: us, by rw [List.length_cons, List.length_cons, hl], fun j q e => ?_⟩
        cases j with
        | zero =>
          cases (Option.some.inj e : x = q)
          exact ⟨b, u, e1, rfl, e2⟩
        | succ j =>
          obtain ⟨b', u', f1, f2, f3⟩ := hu j q (by simpa using e)
          refine ⟨b', u', ?_, by simpa using f2, f3⟩
          cases ps with
          | nil => simp at f1
          | cons _ _ => simpa using f1
    exact this prs ps hpr
  obtain ⟨us, hul, hus⟩ := hex
  obtain ⟨o, n, o1, o2, o3, o4⟩ := ob
  refine PySem.call_dict_pairs (knd := mixKind X.prog X.w) (kvs := prs) (PairArg.tuple a (ps.map Value.ref).toArray Ts (us.zip (prs.map (·.2)))) (I.ok.hd hcalm) ⟨⟨o, n, o1, o2, o3, o4⟩, ?_, fun j k v e => ?_⟩ ⟨by simp [hul], fun i key v hr => ?_⟩ (by simp [hul, hl]; exact hz) fun h' tk dd k => ?_
  · simp [hl, hul]
  · rw [List.getElem?_zip_eq_some] at e
    obtain ⟨e1, e2⟩ := e
    rw [List.getElem?_map] at e2
    obtain ⟨x, hx, e3⟩ := Option.map_eq_some_iff.mp e2
    obtain ⟨b, u, f1, f2, f3, f4⟩ := hus j x hx
    rw [e1] at f2
    cases f2
    subst e3
    have hb : Ts j = b := by show ps.getD j 0 = b; rw [List.getD_eq_getElem?_getD, f1]; rfl
    rw [hb]
    exact ⟨by simp [f1], .inl (isTuple_of f3)⟩
  · have hr : (us.zip (prs.map (·.2)))[i]? = some (key, v) := hr
    rw [List.getElem?_zip_eq_some] at hr
    obtain ⟨e1, e2⟩ := hr
    rw [List.getElem?_map] at e2
    obtain ⟨x, hx, e3⟩ := Option.map_eq_some_iff.mp e2
    obtain ⟨b, u, f1, f2, f3, f4⟩ := hus i x hx
    rw [e1] at f2
    cases f2
    subst e3
    exact ⟨x.1, hx, f4⟩
  · have k : ∀ b o, s.heap.get? b = some o → h'.get? b = some o := fun b o e => k b o (by simp) e
    have hm : (s.heap.objs.size == sysModules) = false := beq_eq_false_iff_ne.mpr (Nat.ne_of_gt I.big)
    have hlen : (mergeK [] kvs).length ≤ sizeLine := by
      refine Nat.le_trans (length_mergeK kvs []) ?_
      rw [List.length_nil, Nat.zero_add, rel.length, hl]
      exact hz
    exact ⟨.ref s.heap.objs.size, upd H s.heap.objs.size (.dK (mergeK [] kvs)), I.laid (t' := tk) k (Nat.le_refl _) (show ObjOk X.prog X.w _ _ _ (.dK (mergeK [] kvs)) from ⟨hlen, hm, merged [] prs, KV.merge rel .nil, dd⟩), rfl, q _ (I.hok.fresh (Nat.le_refl _))⟩
end
end Kx

end

section
set_option maxHeartbeats 2000000
namespace Kx
open PySem L2
/-! ### tables: the mirror of dicts -/
section
variable {α β : Type} [DecidableEq α]
def getA (xs : List (α × β)) (k : α) : Option β := (xs.find? fun x => decide (x.1 = k)).map (·.2)
def hasA (xs : List (α × β)) (k : α) : Bool := (getA xs k).isSome
def putA (xs : List (α × β)) (k : α) (v : β) : List (α × β) := if (xs.any fun x => decide (x.1 = k)) = true then xs.map (fun x => if x.1 = k then (x.1, v) else x) else xs ++ [(k, v)]
def mergeA (xs more : List (α × β)) : List (α × β) := more.foldl (fun acc x => putA acc x.1 x.2) xs
def dputO (xs : List (α × β)) (k : α) (v : β) : Option (List (α × β)) := do
  grd (xs.length < 16777216)
  some (putA xs k v)
def dictO (xs : List (α × β)) : Option (List (α × β)) := do
  grd (xs.length ≤ 16777216)
  some (mergeA [] xs)
theorem getA_nil {k : α} : getA ([] : List (α × β)) k = none := rfl
theorem getA_pos {p : α × β} {r : List (α × β)} {k : α} (e : p.1 = k) : getA (p :: r) k = some p.2 := by simp [getA, List.find?_cons, e]
theorem getA_neg {p : α × β} {r : List (α × β)} {k : α} (e : ¬ p.1 = k) : getA (p :: r) k = getA r k := by simp [getA, List.find?_cons, e]
theorem putA_len (xs : List (α × β)) (k : α) (v : β) : (putA xs k v).length ≤ xs.length + 1 := by
  unfold putA
  split
  · rw [List.length_map]; omega
  · rw [List.length_append, List.length_cons, List.length_nil]; omega
theorem putA_keys {p : α → Prop} {xs : List (α × β)} {k : α} {v : β} (h : ∀ x ∈ xs, p x.1) (hk : p k) : ∀ x ∈ putA xs k v, p x.1 := by
  unfold putA
  split
  · intro x hx
    obtain ⟨y, hy, e⟩ := List.mem_map.mp hx
    by_cases e2 : y.1 = k
    · rw [if_pos e2] at e; rw [← e]; exact h y hy
    · rw [if_neg e2] at e; rw [← e]; exact h y hy
  · intro x hx
    rcases List.mem_append.mp hx with hx | hx
    · exact h x hx
    · rw [List.mem_singleton.mp hx]; exact hk
end
/-! ### tables in the heap -/
section
variable {α β κ : Type} [DecidableEq α] [DecidableEq κ] {K : PySem.W.Frag} {G G' : Hp} {f : α → κ} {e : β → Dat}
inductive KRel (K : PySem.W.Frag) (G : Hp) (f : α → κ) (e : β → Dat) : List (κ × V) → List (α × β) → Prop
  | nil : KRel K G f e [] []
  | cons {k : α} {v : V} {b : β} {kvs : List (κ × V)} {xs : List (α × β)} : Dq K G v (e b) → KRel K G f e kvs xs → KRel K G f e ((f k, v) :: kvs) ((k, b) :: xs)
theorem KRel.up (s : Same G G') {kvs : List (κ × V)} {xs : List (α × β)} (h : KRel K G f e kvs xs) : KRel K G' f e kvs xs := by
  induction h with
  | nil => exact .nil
  | cons a _ ih => exact .cons (dp_up s _ a) ih
theorem KRel.len {kvs : List (κ × V)} {xs : List (α × β)} (h : KRel K G f e kvs xs) : kvs.length = xs.length := by
  induction h with
  | nil => rfl
  | cons a _ ih => rw [List.length_cons, List.length_cons, ih]
theorem KRel.of : ∀ {kvs : List (κ × V)} {xs : List (α × β)}, kvs.map (·.1) = (xs.map fun x => f x.1) → DqAll K G (kvs.map (·.2)) (xs.map fun x => e x.2) → KRel K G f e kvs xs
  | [], [], _, _ => .nil
  | [], _ :: _, h, _ => by cases h
  | _ :: _, [], h, _ => by cases h
  | (k, v) :: kvs, (a, b) :: xs, h, hd => by
    cases hd with
    | cons h1 h2 =>
      rw [List.map_cons, List.map_cons] at h
      obtain ⟨e1, e2⟩ := List.cons.inj h
      cases (show k = f a from e1)
      exact .cons h1 (KRel.of e2 h2)
theorem KRel.keys {kvs : List (κ × V)} {xs : List (α × β)} (h : KRel K G f e kvs xs) : kvs.map (·.1) = xs.map fun x => f x.1 := by
  induction h with
  | nil => rfl
  | cons a _ ih => rw [List.map_cons, List.map_cons, ih]
theorem KRel.vals {kvs : List (κ × V)} {xs : List (α × β)} (h : KRel K G f e kvs xs) : DqAll K G (kvs.map (·.2)) (xs.map fun x => e x.2) := by
  induction h with
  | nil => exact .nil
  | cons a _ ih => exact .cons a ih
theorem KRel.get (inj : ∀ a b : α, f a = f b → a = b) {kvs : List (κ × V)} {xs : List (α × β)} (h : KRel K G f e kvs xs) (k : α) : (getA xs k = none ∧ valV kvs (f k) = none) ∨ ∃ b v, getA xs k = some b ∧ valV kvs (f k) = some v ∧ Dq K G v (e b) := by
  induction h with
  | nil => exact .inl ⟨rfl, rfl⟩
  | @cons k' v b kvs xs a _ ih =>
    by_cases q : k' = k
    · subst q
      exact .inr ⟨b, v, getA_pos (p := (k', b)) rfl, valV_pos (p := (f k', v)) rfl, a⟩
    · rw [getA_neg (p := (k', b)) q, valV_neg (p := (f k', v)) fun z => q (inj _ _ z)]
      exact ih
theorem KRel.any (inj : ∀ a b : α, f a = f b → a = b) {kvs : List (κ × V)} {xs : List (α × β)} (h : KRel K G f e kvs xs) (k : α) : (kvs.any fun kv => decide (kv.1 = f k)) = xs.any fun x => decide (x.1 = k) := by
  induction h with
  | nil => rfl
  | @cons k' v b kvs xs a _ ih =>
    rw [List.any_cons, List.any_cons, ih]
    by_cases q : k' = k
    · subst q; simp
    · have q2 : ¬ f k' = f k := fun z => q (inj _ _ z)
      simp [q, q2]
theorem KRel.put (inj : ∀ a b : α, f a = f b → a = b) {kvs : List (κ × V)} {xs : List (α × β)} (h : KRel K G f e kvs xs) (k : α) {v : V} {b : β} (hv : Dq K G v (e b)) : KRel K G f e (putK kvs (f k) v) (putA xs k b) := by
  unfold putK putA
  rw [h.any inj k]
  split
  · next hh =>
    clear hh
    induction h with
    | nil => exact .nil
    | @cons k' v' b' kvs xs a _ ih =>
      rw [List.map_cons, List.map_cons]
      by_cases q : k' = k
      · subst q
        rw [if_pos rfl, if_pos rfl]
        exact .cons hv ih
      · rw [if_neg (show ¬ (f k', v').1 = f k from fun z => q (inj _ _ z)), if_neg (show ¬ (k', b').1 = k from q)]
        exact .cons a ih
  · next hh =>
    clear hh
    induction h with
    | nil => exact .cons hv .nil
    | cons a _ ih => exact .cons a ih
end
def kS (x : Str) : Key := .inr x
def kP (x : Str × Str) : List Key := [.inr x.1, .inr x.2]
theorem kS_inj (a b : Str) (h : kS a = kS b) : a = b := by unfold kS at h; exact Sum.inr.inj h
theorem kP_inj (a b : Str × Str) (h : kP a = kP b) : a = b := by
  unfold kP at h
  obtain ⟨h1, h2⟩ := List.cons.inj h
  obtain ⟨h2, _⟩ := List.cons.inj h2
  exact Prod.ext (Sum.inr.inj h1) (Sum.inr.inj h2)
def okS (x : Str) : Prop := sok x = true
def okP (x : Str × Str) : Prop := sok x.1 = true ∧ sok x.2 = true
/-- dicts by texts, by pairs of texts -/
def eDS {β : Type} (e : β → Dat) (xs : List (Str × β)) : Dat := .dK (xs.map fun x => kS x.1) (xs.map fun x => e x.2)
def eDP {β : Type} (e : β → Dat) (xs : List ((Str × Str) × β)) : Dat := .dT (xs.map fun x => kP x.1) (xs.map fun x => e x.2)
section
variable {β : Type} {K : PySem.W.Frag} {σ σ' : St} {G G' M M1 M2 M3 : Hp} {ta tb te tc tk tv : TE} {P P1 P2 : VP} {d : Dat} {ds es : List Dat} {D : Ends} {H : Hp} {u : TS} {e : β → Dat}
theorem dq_eDS {v : V} {xs : List (Str × β)} (h : Dq K G v (eDS e xs)) : ∃ a kvs, v = .ref a ∧ Rd G a (.dK kvs) ∧ KRel K G kS e kvs xs ∧ ∀ x ∈ xs, okS x.1 := by
  unfold eDS at h
  cases h with
  | dK a b c d' =>
    refine ⟨_, _, rfl, a, KRel.of b d', fun x hx => ?_⟩
    exact (List.all_eq_true.mp c) (kS x.1) (List.mem_map.mpr ⟨x, hx, rfl⟩)
theorem dq_eDP {v : V} {xs : List ((Str × Str) × β)} (h : Dq K G v (eDP e xs)) : ∃ a kvs, v = .ref a ∧ Rd G a (.dT kvs) ∧ KRel K G kP e kvs xs ∧ ∀ x ∈ xs, okP x.1 := by
  unfold eDP at h
  cases h with
  | dT a b c d' =>
    refine ⟨_, _, rfl, a, KRel.of b d', fun x hx => ?_⟩
    have := (List.all_eq_true.mp c) (kP x.1) (List.mem_map.mpr ⟨x, hx, rfl⟩)
    have h2 := List.all_eq_true.mp this
    exact ⟨h2 (.inr x.1.1) (by simp [kP]), h2 (.inr x.1.2) (by simp [kP])⟩
theorem eDS_of {a : Addr} {kvs : List (Key × V)} {xs : List (Str × β)} (h : G a = some (.dK kvs)) (r : KRel K G kS e kvs xs) (ok : ∀ x ∈ xs, okS x.1) : Dq K G (.ref a) (eDS e xs) :=
  .dK (.inl h) r.keys (List.all_eq_true.mpr fun k hk => by obtain ⟨x, hx, rfl⟩ := List.mem_map.mp hk; exact ok x hx) r.vals
theorem eDP_of {a : Addr} {kvs : List (List Key × V)} {xs : List ((Str × Str) × β)} (h : G a = some (.dT kvs)) (r : KRel K G kP e kvs xs) (ok : ∀ x ∈ xs, okP x.1) : Dq K G (.ref a) (eDP e xs) :=
  .dT (.inl h) r.keys (List.all_eq_true.mpr fun k hk => by
    obtain ⟨x, hx, rfl⟩ := List.mem_map.mp hk
    refine List.all_eq_true.mpr fun y hy => ?_
    have h2 := ok x hx
    unfold kP at hy
    rcases List.mem_cons.mp hy with rfl | hy
    · exact h2.1
    · rw [List.mem_singleton.mp hy]; exact h2.2) r.vals
/-- a key that is a pair of texts -/
theorem key_pair {v : V} {k : Str × Str} (h : Dq K G v (.rtup [.str k.1, .str k.2])) : ∃ b, v = .ref b ∧ G b = some (.tup ((kP k).map kV)) := by
  obtain ⟨b, vs, rfl, h1, h2⟩ := dp_rtup h
  cases h2 with
  | cons a h2 =>
    cases h2 with
    | cons b' h2 =>
      cases h2; cases a; cases b'
      exact ⟨b, rfl, h1⟩
/-! ### looking up -/
theorem dgS {a : Addr} {kvs : List (Key × V)} {k : Str} (h : Rd H a (.dK kvs)) : DGet H a (.str k) (valV kvs (kS k)) := .inl ⟨kvs, kS k, h, rfl, rfl⟩
theorem ev_dgetS {xs : List (Str × β)} {k : Str} {b : β} (h : getA xs k = some b) (ho : Ev ta σ G M M1 (DD K (eDS e xs))) (hk : Ev tb σ G M1 M2 (DD K (.str k))) : Ev (tDGet ta tb) σ G M M2 (DD K (e b)) := fun G0 H s kk Q q =>
  ho G0 H s kk _ fun x G1 H1 s1 k1 hx => hk G1 H1 (s.trans s1) k1 _ fun y G2 H2 s2 k2 hy => by
    obtain ⟨a, kvs, rfl, h1, h2, _⟩ := dq_eDS hx
    cases hy
    rcases h2.get kS_inj k with ⟨z, _⟩ | ⟨b', v, e1, e2, e3⟩
    · rw [z] at h; cases h
    · rw [h] at e1; cases e1
      exact ⟨a, v, rfl, e2 ▸ dgS (rd_up (s2.trans k2.g) h1), q v G2 H2 (s1.trans s2) k2 (dp_up s2 _ e3)⟩
theorem KRel.some' {α κ : Type} [DecidableEq α] [DecidableEq κ] {f : α → κ} (inj : ∀ a b : α, f a = f b → a = b) {kvs : List (κ × V)} {xs : List (α × β)} (h : KRel K G f e kvs xs) (k : α) : (valV kvs (f k)).isSome = hasA xs k := by
  unfold hasA
  rcases h.get inj k with ⟨z, z2⟩ | ⟨b', v, e1, e2, e3⟩
  · rw [z, z2]; rfl
  · rw [e1, e2]; rfl
theorem ev_dinS {xs : List (Str × β)} {k : Str} (hk : Ev ta σ G M M1 (DD K (.str k))) (ho : Ev tb σ G M1 M2 (DD K (eDS e xs))) : Ev (tDIn ta tb) σ G M M2 (DD K (.bool (hasA xs k))) := fun G0 H s kk Q q =>
  hk G0 H s kk _ fun y G1 H1 s1 k1 hy => ho G1 H1 (s.trans s1) k1 _ fun x G2 H2 s2 k2 hx => by
    obtain ⟨a, kvs, rfl, h1, h2, _⟩ := dq_eDS hx
    cases hy
    refine ⟨a, _, rfl, dgS (rd_up k2.g h1), q _ G2 H2 (s1.trans s2) k2 ?_⟩
    rw [h2.some' kS_inj]
    exact .bl _
theorem ev_dninS {xs : List (Str × β)} {k : Str} (hk : Ev ta σ G M M1 (DD K (.str k))) (ho : Ev tb σ G M1 M2 (DD K (eDS e xs))) : Ev (tDNotIn ta tb) σ G M M2 (DD K (.bool (!hasA xs k))) := fun G0 H s kk Q q =>
  hk G0 H s kk _ fun y G1 H1 s1 k1 hy => ho G1 H1 (s.trans s1) k1 _ fun x G2 H2 s2 k2 hx => by
    obtain ⟨a, kvs, rfl, h1, h2, _⟩ := dq_eDS hx
    cases hy
    refine ⟨a, _, rfl, dgS (rd_up k2.g h1), q _ G2 H2 (s1.trans s2) k2 ?_⟩
    rw [h2.some' kS_inj]
    exact .bl _
def getD' {α β : Type} [DecidableEq α] (xs : List (α × β)) (k : α) (z : β) : β := (getA xs k).getD z
theorem ev_dget2S {xs : List (Str × β)} {k : Str} {z : β} (ho : Ev ta σ G M M1 (DD K (eDS e xs))) (hk : Ev tb σ G M1 M2 (DD K (.str k))) (hz : Ev tc σ G M2 M3 (DD K (e z))) : Ev (tDGet2 ta tb tc) σ G M M3 (DD K (e (getD' xs k z))) := fun G0 H s kk Q q =>
  ho G0 H s kk _ fun x G1 H1 s1 k1 hx => by
    obtain ⟨a, kvs, rfl, h1, h2, _⟩ := dq_eDS hx
    refine ⟨a, rfl, .inl ⟨kvs, rd_up k1.g h1⟩, hk G1 H1 (s.trans s1) k1 _ fun y G2 H2 s2 k2 hy => hz G2 H2 ((s.trans s1).trans s2) k2 _ fun w G3 H3 s3 k3 hw => ?_⟩
    cases hy
    have s13 := s2.trans s3
    refine ⟨_, dgS (rd_up (s13.trans k3.g) h1), q _ G3 H3 (s1.trans s13) k3 ?_⟩
    unfold getD'
    rcases h2.get kS_inj k with ⟨z1, z2⟩ | ⟨b', v, e1, e2, e3⟩
    · rw [z1, z2]; exact hw
    · rw [e1, e2]; exact dp_up s13 _ e3
theorem ev_dget2P {xs : List ((Str × Str) × β)} {k : Str × Str} {z : β} (ho : Ev ta σ G M M1 (DD K (eDP e xs))) (hk : Ev tb σ G M1 M2 (DD K (.rtup [.str k.1, .str k.2]))) (hz : Ev tc σ G M2 M3 (DD K (e z))) : Ev (tDGet2 ta tb tc) σ G M M3 (DD K (e (getD' xs k z))) := fun G0 H s kk Q q =>
  ho G0 H s kk _ fun x G1 H1 s1 k1 hx => by
    obtain ⟨a, kvs, rfl, h1, h2, _⟩ := dq_eDP hx
    refine ⟨a, rfl, .inr ⟨kvs, rd_up k1.g h1⟩, hk G1 H1 (s.trans s1) k1 _ fun y G2 H2 s2 k2 hy => hz G2 H2 ((s.trans s1).trans s2) k2 _ fun w G3 H3 s3 k3 hw => ?_⟩
    obtain ⟨b, rfl, hb⟩ := key_pair hy
    have s13 := s2.trans s3
    refine ⟨_, .inr ⟨kvs, kP k, b, (rd_up (s13.trans k3.g) h1), rfl, (s3.trans k3.g) _ _ hb, rfl⟩, q _ G3 H3 (s1.trans s13) k3 ?_⟩
    unfold getD'
    rcases h2.get kP_inj k with ⟨z1, z2⟩ | ⟨b', v, e1, e2, e3⟩
    · rw [z1, z2]; exact hw
    · rw [e1, e2]; exact dp_up s13 _ e3
theorem ev_dgetP {xs : List ((Str × Str) × β)} {k : Str × Str} {b : β} (h : getA xs k = some b) (ho : Ev ta σ G M M1 (DD K (eDP e xs))) (hk : Ev tb σ G M1 M2 (DD K (.rtup [.str k.1, .str k.2]))) : Ev (tDGet ta tb) σ G M M2 (DD K (e b)) := fun G0 H s kk Q q =>
  ho G0 H s kk _ fun x G1 H1 s1 k1 hx => hk G1 H1 (s.trans s1) k1 _ fun y G2 H2 s2 k2 hy => by
    obtain ⟨a, kvs, rfl, h1, h2, _⟩ := dq_eDP hx
    obtain ⟨c, rfl, hc⟩ := key_pair hy
    rcases h2.get kP_inj k with ⟨z, _⟩ | ⟨b', v, e1, e2, e3⟩
    · rw [z] at h; cases h
    · rw [h] at e1; cases e1
      exact ⟨a, v, rfl, .inr ⟨kvs, kP k, c, (rd_up (s2.trans k2.g) h1), rfl, k2.g _ _ hc, e2.symm⟩, q v G2 H2 (s1.trans s2) k2 (dp_up s2 _ e3)⟩
theorem ev_rtup {t : TA} (ha : EvA t σ G M M1 (allP K ds)) (hl : ds.length ≤ sizeLine := by simp [sizeLine_eq]) : Ev (tTup t) σ G M M1 (DD K (.rtup ds)) := fun G0 H s k Q q =>
  ha G0 H s k _ fun xs G1 H1 s1 k1 hx => ⟨by rw [dpAll_len hx]; exact hl, newR s1 k1 hx q⟩
/-! ### a dict of one's own by texts -/
def KOk (K : PySem.W.Frag) (G : Hp) (e : β → Dat) (kvs : List (Key × V)) (xs : List (Str × β)) : Prop := KRel K G kS e kvs xs ∧ ∀ x ∈ xs, okS x.1
theorem KOk.up {kvs : List (Key × V)} {xs : List (Str × β)} (s : Same G G') (h : KOk K G e kvs xs) : KOk K G' e kvs xs := ⟨h.1.up s, h.2⟩
theorem KOk.nil : KOk K G e [] [] := ⟨.nil, fun x hx => nomatch hx⟩
/-- a new dict of one's own -/
def EvD (K : PySem.W.Frag) (te : TE) (σ : St) (G M M' : Hp) (e : β → Dat) (xs : List (Str × β)) : Prop :=
  ∀ G0 H, Same G G0 → Ok G0 M H → ∀ Q : VK, (∀ p kvs G' H', Same G0 G' → Ok G' (upd M' p (.dK kvs)) H' → M' p = none → KOk K G' e kvs xs → Q (.ref p) H') → te σ H Q
theorem EvD.ev {xs : List (Str × β)} (h : EvD K te σ G M M1 e xs) : Ev te σ G M M1 (DD K (eDS e xs)) := fun G0 H s k Q q =>
  h G0 H s k Q fun p kvs G' H' s' k' hp hd => q _ (upd G' p (.dK kvs)) H' (s'.trans (Same.new k'.gp)) (k'.frz hp) (eDS_of upd_same (hd.1.up (Same.new k'.gp)) hd.2)
theorem ed_new : EvD K tDNewK σ G M M e [] := fun G0 H s k Q q p hp => q p [] G0 _ (Same.refl _) (k.newM _ hp) (Same.none k.m hp) KOk.nil
theorem ev_dget2O {xs : List (Str × β)} {k : Str} {z : β} {p : Addr} {kvs : List (Key × V)} (hp0 : M1 p = some (.dK kvs)) (hp : M3 p = some (.dK kvs)) (hd : KOk K G e kvs xs) (ho : Ev ta σ G M M1 (OW p)) (hk : Ev tb σ G M1 M2 (DD K (.str k))) (hz : Ev tc σ G M2 M3 (DD K (e z))) : Ev (tDGet2 ta tb tc) σ G M M3 (DD K (e (getD' xs k z))) := fun G0 H s kk Q q =>
  ho G0 H s kk _ fun x G1 H1 s1 k1 hx => by
    cases hx
    refine ⟨p, rfl, .inl ⟨kvs, .inl (k1.m _ _ hp0)⟩, hk G1 H1 (s.trans s1) k1 _ fun y G2 H2 s2 k2 hy => hz G2 H2 ((s.trans s1).trans s2) k2 _ fun w G3 H3 s3 k3 hw => ?_⟩
    cases hy
    have s13 := s2.trans s3
    refine ⟨_, dgS (.inl (k3.m _ _ hp)), q _ G3 H3 (s1.trans s13) k3 ?_⟩
    unfold getD'
    rcases hd.1.get kS_inj k with ⟨z1, z2⟩ | ⟨b', v, e1, e2, e3⟩
    · rw [z1, z2]; exact hw
    · rw [e1, e2]; exact dp_up ((s.trans s1).trans s13) _ e3
theorem ev_dinO {xs : List (Str × β)} {k : Str} {p : Addr} {kvs : List (Key × V)} (hp : M2 p = some (.dK kvs)) (hd : KOk K G e kvs xs) (hk : Ev ta σ G M M1 (DD K (.str k))) (ho : Ev tb σ G M1 M2 (OW p)) : Ev (tDIn ta tb) σ G M M2 (DD K (.bool (hasA xs k))) := fun G0 H s kk Q q =>
  hk G0 H s kk _ fun y G1 H1 s1 k1 hy => ho G1 H1 (s.trans s1) k1 _ fun x G2 H2 s2 k2 hx => by
    cases hx; cases hy
    refine ⟨p, _, rfl, dgS (.inl (k2.m _ _ hp)), q _ G2 H2 (s1.trans s2) k2 ?_⟩
    rw [hd.1.some' kS_inj]
    exact .bl _
theorem ev_dgetO {xs : List (Str × β)} {k : Str} {b : β} {p : Addr} {kvs : List (Key × V)} (h : getA xs k = some b) (hp : M2 p = some (.dK kvs)) (hd : KOk K G e kvs xs) (ho : Ev ta σ G M M1 (OW p)) (hk : Ev tb σ G M1 M2 (DD K (.str k))) : Ev (tDGet ta tb) σ G M M2 (DD K (e b)) := fun G0 H s kk Q q =>
  ho G0 H s kk _ fun x G1 H1 s1 k1 hx => hk G1 H1 (s.trans s1) k1 _ fun y G2 H2 s2 k2 hy => by
    cases hx; cases hy
    rcases hd.1.get kS_inj k with ⟨z, _⟩ | ⟨b', v, e1, e2, e3⟩
    · rw [z] at h; cases h
    · rw [h] at e1; cases e1
      exact ⟨p, v, rfl, e2 ▸ dgS (.inl (k2.m _ _ hp)), q v G2 H2 (s1.trans s2) k2 (dp_up ((s.trans s1).trans s2) _ e3)⟩
theorem q_setD {i : Nat} {σ' : V → St} {xs : List (Str × β)} (he : EvD K te σ G M M1 e xs) (ok : Ok G M H) (hσ : ∀ v, σ.set i (some v) = σ' v) (k : ∀ p kvs G' H', Same G G' → Ok G' (upd M1 p (.dK kvs)) H' → M1 p = none → KOk K G' e kvs xs → u D (σ' (.ref p)) H') : tSeq (tAsg te (gName i)) u D σ H :=
  he G H (Same.refl _) ok _ fun p kvs G1 H1 s1 k1 hp hv => by
    show u D (σ.set i (some (.ref p))) H1
    rw [hσ]
    exact k p kvs G1 H1 s1 k1 hp hv
/-- d[k] = v -/
theorem q_dput {p : Addr} {kvs : List (Key × V)} {xs ys : List (Str × β)} {k : Str} {b : β} (hy : dputO xs k b = some ys) (hv : Ev te σ G M M1 (DD K (e b))) (ho : Ev ta σ G M1 M1 (OW p)) (hk : Ev tb σ G M1 M2 (DD K (.str k))) (hp : M2 p = some (.dK kvs)) (hd : KOk K G e kvs xs) (ok : Ok G M H)
    (kk : ∀ kvs' G' H', Same G G' → Ok G' (upd M2 p (.dK kvs')) H' → KOk K G' e kvs' ys → u D σ H') : tSeq (sDPut ta tb te) u D σ H :=
  hv G H (Same.refl _) ok _ fun v G1 H1 s1 k1 hw => ho G1 H1 s1 k1 _ fun x G2 H2 s2 k2 hx => hk G2 H2 (s1.trans s2) k2 _ fun y G3 H3 s3 k3 hyk => by
    obtain ⟨_, h1, h2⟩ := bs hy
    cases h2
    cases hx
    have sk : okS k := by cases hyk with | str h => exact h
    cases hyk
    have s03 := (s1.trans s2).trans s3
    refine ⟨p, _, rfl, DPut.k (k := kS k) (k3.m _ _ hp) (by rw [hd.1.len, sizeLine_eq]; exact grd_of h1), ?_⟩
    exact kk _ G3 _ s03 (k3.chg _ hp) ⟨(hd.1.up s03).put kS_inj k (dp_up (s2.trans s3) _ hw), putA_keys hd.2 sk⟩
end
end Kx

end

section
set_option maxHeartbeats 2000000
namespace Kx
open PySem L2
theorem mergeA_take {α β : Type} [DecidableEq α] {ys : List (α × β)} {i : Nat} {y : α × β} (h : ys[i]? = some y) : mergeA [] (ys.take (i + 1)) = putA (mergeA [] (ys.take i)) y.1 y.2 := by
  unfold mergeA
  rw [List.take_add_one, h, List.foldl_append]
  rfl
theorem mergeA_len {α β : Type} [DecidableEq α] : ∀ (more xs : List (α × β)), (mergeA xs more).length ≤ xs.length + more.length
  | [], xs => by show xs.length ≤ xs.length + 0; omega
  | p :: r, xs => by
    have h1 := mergeA_len r (putA xs p.1 p.2)
    have h2 := putA_len xs p.1 p.2
    show (mergeA (putA xs p.1 p.2) r).length ≤ _
    rw [List.length_cons]; omega
theorem mergeA_keys {α β : Type} [DecidableEq α] {p : α → Prop} : ∀ (more xs : List (α × β)), (∀ x ∈ xs, p x.1) → (∀ x ∈ more, p x.1) → ∀ x ∈ mergeA xs more, p x.1
  | [], xs, h, _ => h
  | y :: r, xs, h, hm => mergeA_keys r (putA xs y.1 y.2) (putA_keys h (hm y List.mem_cons_self)) fun x hx => hm x (List.mem_cons_of_mem _ hx)
section
variable {β : Type} {K : PySem.W.Frag} {σ σ' : St} {G G' M M1 M2 M3 : Hp} {ta tb te tc tk tv : TE} {P P1 P2 : VP} {d : Dat} {ds es : List Dat} {D : Ends} {H : Hp} {u : TS} {e : β → Dat}
theorem KRel.mergeS : ∀ {more : List (Key × V)} {ms : List (Str × β)} {kvs : List (Key × V)} {xs : List (Str × β)}, KRel K G kS e more ms → KRel K G kS e kvs xs → KRel K G kS e (mergeK kvs more) (mergeA xs ms) := by
  intro more ms kvs xs r
  induction r generalizing kvs xs with
  | nil => intro q; exact q
  | cons a _ ih => intro q; exact ih (q.put kS_inj _ a)
theorem KRel.mergeP : ∀ {more : List (List Key × V)} {ms : List ((Str × Str) × β)} {kvs : List (List Key × V)} {xs : List ((Str × Str) × β)}, KRel K G kP e more ms → KRel K G kP e kvs xs → KRel K G kP e (mergeT kvs more) (mergeA xs ms) := by
  intro more ms kvs xs r
  induction r generalizing kvs xs with
  | nil => intro q; exact q
  | cons a _ ih => intro q; exact ih (q.put kP_inj _ a)
/-- pairs (text, thing) -/
theorem prsS_of : ∀ {xs : List (Str × β)} {vs : List V}, DqAll K G vs (xs.map (eP2 Dat.str e)) → ∃ ps kvs, vs = ps.map V.ref ∧ Paired (fun p kv => SqT K G p [kV kv.1, kv.2]) ps kvs ∧ KRel K G kS e kvs xs ∧ ∀ x ∈ xs, okS x.1
  | [], _, h => by cases h; exact ⟨[], [], rfl, .nil, .nil, fun x hx => nomatch hx⟩
  | x :: xs, _, h => by
    cases h with
    | cons a b =>
      obtain ⟨ps, kvs, rfl, h1, h2, h3⟩ := prsS_of b
      obtain ⟨p, ws, rfl, h4, h5⟩ := dp_tuple a
      cases h5 with
      | cons h5 h6 =>
        cases h6 with
        | cons h6 h7 =>
          cases h7
          have sk : okS x.1 := by cases h5 with | str h => exact h
          cases h5
          refine ⟨p :: ps, (kS x.1, _) :: kvs, rfl, .cons h4 h1, .cons h6 h2, fun y hy => ?_⟩
          rcases List.mem_cons.mp hy with rfl | hy
          · exact sk
          · exact h3 y hy
theorem paired_up {α γ : Type} {R S : α → γ → Prop} {xs : List α} {ys : List γ} (h : Paired R xs ys) (f : ∀ a b, R a b → S a b) : Paired S xs ys := by
  induction h with
  | nil => exact .nil
  | cons a _ ih => exact .cons (f _ _ a) ih
theorem ev_dictT {xs ys : List (Str × β)} (hy : dictO xs = some ys) (ha : EvA (tCons ta tNil) σ G M M1 (conP (DD K (.tuple (xs.map (eP2 Dat.str e)))) nilP)) : Ev (tCB (rDictT K) (tCons ta tNil)) σ G M M1 (DD K (eDS e ys)) := ev_cb ha fun vs G0 H s k hx Q q => by
  obtain ⟨v, rfl, hv⟩ := one_of (R := nilP) hx
  obtain ⟨_, h1, h2⟩ := bs hy
  cases h2
  cases hv with
  | tup a b =>
    obtain ⟨ps, kvs, rfl, p1, p2, p3⟩ := prsS_of b
    refine ⟨_, ps, kvs, rfl, .inl (a.up k.g), paired_up p1 fun _ _ z => sqT_up k.g z, fun p hp => ?_⟩
    have gn := Same.none k.g hp
    have s1 : Same G0 (upd G0 p (.dK (mergeK [] kvs))) := Same.new gn
    exact q _ _ _ s1 (k.newG _ hp) (eDS_of upd_same (((KRel.mergeS p2 .nil).up s1)) (mergeA_keys xs [] (fun x hx => nomatch hx) p3))
theorem ev_dictL {xs ys : List (Str × β)} (hy : dictO xs = some ys) (ha : EvA (tCons ta tNil) σ G M M1 (conP (DD K (.list (xs.map (eP2 Dat.str e)))) nilP)) : Ev (tCB (rDictT K) (tCons ta tNil)) σ G M M1 (DD K (eDS e ys)) := ev_cb ha fun vs G0 H s k hx Q q => by
  obtain ⟨v, rfl, hv⟩ := one_of (R := nilP) hx
  obtain ⟨_, h1, h2⟩ := bs hy
  cases h2
  obtain ⟨a, ws, rfl, a1, b⟩ := dp_list hv
  obtain ⟨ps, kvs, rfl, p1, p2, p3⟩ := prsS_of b
  refine ⟨_, ps, kvs, rfl, .inr (.inl (.inl (k.g _ _ a1))), paired_up p1 fun _ _ z => sqT_up k.g z, fun p hp => ?_⟩
  have gn := Same.none k.g hp
  have s1 : Same G0 (upd G0 p (.dK (mergeK [] kvs))) := Same.new gn
  exact q _ _ _ s1 (k.newG _ hp) (eDS_of upd_same (((KRel.mergeS p2 .nil).up s1)) (mergeA_keys xs [] (fun x hx => nomatch hx) p3))
/-- pairs (pair of texts, thing) -/
theorem prsP_of : ∀ {xs : List ((Str × Str) × β)} {vs : List V}, DqAll K G vs (xs.map (eP2 (eR2 Dat.str Dat.str) e)) → ∃ ps kvs, vs = ps.map V.ref ∧ Paired (fun p kv => ∃ b, SqT K G p [.ref b, kv.2] ∧ G b = some (.tup (kv.1.map kV))) ps kvs ∧ KRel K G kP e kvs xs ∧ ∀ x ∈ xs, okP x.1
  | [], _, h => by cases h; exact ⟨[], [], rfl, .nil, .nil, fun x hx => nomatch hx⟩
  | x :: xs, _, h => by
    cases h with
    | cons a b =>
      obtain ⟨ps, kvs, rfl, h1, h2, h3⟩ := prsP_of b
      obtain ⟨p, ws, rfl, h4, h5⟩ := dp_tuple a
      cases h5 with
      | cons h5 h6 =>
        cases h6 with
        | cons h6 h7 =>
          cases h7
          have h5' : Dq K G _ (.rtup [.str x.1.1, .str x.1.2]) := h5
          obtain ⟨c, rfl, hc⟩ := key_pair (k := x.1) h5'
          have sk : okP x.1 := by
            cases h5' with
            | rtup _ z =>
              cases z with
              | cons z1 z2 =>
                cases z2 with
                | cons z2 _ => exact ⟨(dq_str z1).2, (dq_str z2).2⟩
          refine ⟨p :: ps, (kP x.1, _) :: kvs, rfl, .cons ⟨c, h4, hc⟩ h1, .cons h6 h2, fun y hy => ?_⟩
          rcases List.mem_cons.mp hy with rfl | hy
          · exact sk
          · exact h3 y hy
theorem ev_dictP {xs ys : List ((Str × Str) × β)} (hy : dictO xs = some ys) (ha : EvA (tCons ta tNil) σ G M M1 (conP (DD K (.list (xs.map (eP2 (eR2 Dat.str Dat.str) e)))) nilP)) : Ev (tCB (rDictH K) (tCons ta tNil)) σ G M M1 (DD K (eDP e ys)) := ev_cb ha fun vs G0 H s k hx Q q => by
  obtain ⟨v, rfl, hv⟩ := one_of (R := nilP) hx
  obtain ⟨_, h1, h2⟩ := bs hy
  cases h2
  obtain ⟨a, ws, rfl, a1, b⟩ := dp_list hv
  obtain ⟨ps, kvs, rfl, p1, p2, p3⟩ := prsP_of b
  refine ⟨_, ps, kvs, rfl, .inl (.inl (k.g _ _ a1)), paired_up p1 fun _ _ ⟨c, z1, z2⟩ => ⟨c, sqT_up k.g z1, k.g _ _ z2⟩, fun p hp => ?_⟩
  have gn := Same.none k.g hp
  have s1 : Same G0 (upd G0 p (.dT (mergeT [] kvs))) := Same.new gn
  exact q _ _ _ s1 (k.newG _ hp) (eDP_of upd_same (((KRel.mergeP p2 .nil).up s1)) (mergeA_keys xs [] (fun x hx => nomatch hx) p3))
/-- {(a, b): v for ..} -/
def dcO {α γ : Type} [DecidableEq γ] (f : α → Option (γ × β)) (xs : List α) : Option (List (γ × β)) := do
  let ys ← lcO f xs
  some (mergeA [] ys)
theorem ev_dcP {α : Type} {ea : α → Dat} {f : α → Option ((Str × Str) × β)} {xs : List α} {zs : List ((Str × Str) × β)} {wi : TI} {g : TG} {vs : List Nat} (src : Src K wi σ G M M1 (xs.map ea)) (hf : dcO f xs = some zs)
    (hs : ∀ (x : α) (y : (Str × Str) × β) (Mx G1 : Hp) (v : V), f x = some y → Same M1 Mx → Same G G1 → Dq K G1 v (ea x) → Tg g v (wipe σ vs) G1 fun σ2 => wipe σ2 vs = wipe σ vs ∧ Ev tk σ2 G1 Mx Mx (DD K (.rtup [.str y.1.1, .str y.1.2])) ∧ Ev tv σ2 G1 Mx Mx (DD K (e y.2))) :
    Ev (tDcB true wi g tYes tk tv vs) σ G M M1 (DD K (eDP e zs)) := by
  intro G0 H s k Q q
  obtain ⟨ys, h0, h1⟩ := bs hf
  cases h1
  obtain ⟨_, h1, h2⟩ := bs h0
  have hl := mapO_len h2
  have hz := szl (grd_of h1)
  refine src G0 H s k _ fun J G1 H1 s1 k1 w => ?_
  obtain ⟨Y, Gd, w, hGd, hY⟩ := w
  intro D hD
  have mD : M1 D = none := Same.none k1.m hD
  rw [List.length_map] at w
  let Pv : Nat → Hp → Prop := fun i H => ∃ G2 kvs, Same G1 G2 ∧ Ok G2 (upd M1 D (.dT kvs)) H ∧ KRel K G2 kP e kvs (mergeA [] (ys.take i)) ∧ ∀ x ∈ mergeA [] (ys.take i), okP x.1
  refine ⟨fun i m H => m = xs.length - i ∧ i ≤ xs.length ∧ Pv i H, ⟨xs.length, by simp, Nat.zero_le _, G1, [], Same.refl _, k1.newM _ hD, .nil, fun x hx => nomatch hx⟩, ?_⟩
  rintro i m H2 ⟨rfl, hi, G2, kvs, s2, k2, r2, o2⟩
  have qg := hGd H2 (s2.trans k2.g)
  by_cases hlt : i < xs.length
  · refine .inr ⟨w.goes i H2 hlt qg, Pv (i + 1), fun H' p' => ⟨xs.length - (i + 1), by omega, rfl, hlt, p'⟩, fun x H3 y => ?_⟩
    have y := w.yields i H2 x H3 hlt qg y
    obtain ⟨a, ha⟩ : ∃ a, xs[i]? = some a := ⟨xs[i], List.getElem?_eq_getElem hlt⟩
    obtain ⟨b, hb⟩ : ∃ b, ys[i]? = some b := ⟨ys[i]'(by omega), List.getElem?_eq_getElem (by omega)⟩
    obtain ⟨G3, s3, k3, hx⟩ := hY i (ea a) H2 x H3 G2 _ (by rw [List.getElem?_map, ha]; rfl) s2 k2 y
    refine hs a b (upd M1 D (.dT kvs)) G3 x (mapO_get h2 ha hb) (Same.new mD) (((s.trans s1).trans s2).trans s3) hx H3 _ k3.g ?_
    rintro σ2 ⟨hw, ek, ev⟩
    refine ⟨hw, ?_⟩
    simp only [tYes, if_true]
    refine ek G3 H3 (Same.refl _) k3 _ fun kv G4 H4 s4 k4 hk => ev G4 H4 s4 k4 _ fun vv G5 H5 s5 k5 hv => ?_
    obtain ⟨c, rfl, hc⟩ := key_pair (k := b.1) hk
    have ok : okP b.1 := by
      cases hk with
      | rtup _ z =>
        cases z with
        | cons z1 z2 =>
          cases z2 with
          | cons z2 _ => exact ⟨(dq_str z1).2, (dq_str z2).2⟩
    have s25 := (s3.trans s4).trans s5
    have hlen : (mergeA [] (ys.take i)).length < sizeLine := by
      have := mergeA_len (ys.take i) []
      rw [List.length_nil, List.length_take] at this
      rw [sizeLine_eq] at hz ⊢
      omega
    refine ⟨_, DPut.t (k5.m _ _ upd_same) ((s5.trans k5.g) _ _ hc) (by rw [r2.len]; exact hlen), G5, putK kvs (kP b.1) vv, s2.trans s25, ?_, ?_⟩
    · have := k5.chg (p := D) (u := .dT kvs) (.dT (putK kvs (kP b.1) vv)) upd_same
      rw [upd_upd] at this
      exact this
    · rw [mergeA_take hb]
      exact ⟨(r2.up s25).put kP_inj _ hv, putA_keys o2 ok⟩
  · have e : i = xs.length := by omega
    subst e
    refine .inl ⟨w.stops H2 qg, ?_⟩
    rw [← hl, List.take_length] at r2 o2
    exact q _ (upd G2 D (.dT kvs)) H2 ((s1.trans s2).trans (Same.new k2.gp)) (k2.frz mD) (eDP_of upd_same (r2.up (Same.new k2.gp)) o2)
end
end Kx

end

section
set_option maxHeartbeats 2000000
namespace Kx
open PySem L2
/-! ### instances -/
def fldIx : List Str → Str → Option Nat
  | [], _ => none
  | n :: ns, f => if n = f then some 0 else (fldIx ns f).map (· + 1)
theorem fldIx_lookup {f : Str} : ∀ {fs : List (Str × V)} {i : Nat}, fldIx (fs.map (·.1)) f = some i → fs.lookup f = (fs.map (·.2))[i]?
  | [], _, h => by cases h
  | (n, v) :: fs, i, h => by
    rw [List.map_cons] at h
    unfold fldIx at h
    rw [List.lookup_cons]
    by_cases e : n = f
    · rw [if_pos e] at h
      cases h
      rw [show (f == n) = true from beq_iff_eq.mpr e.symm]
      rfl
    · rw [if_neg e] at h
      obtain ⟨j, hj, rfl⟩ := Option.map_eq_some_iff.mp h
      rw [show (f == n) = false from beq_eq_false_iff_ne.mpr fun z => e z.symm]
      exact fldIx_lookup hj
theorem fldIx_none {f : Str} : ∀ {fs : List (Str × V)}, fldIx (fs.map (·.1)) f = none → fs.lookup f = none ∧ ∀ v, putF f v fs = fs ++ [(f, v)]
  | [], _ => ⟨rfl, fun _ => rfl⟩
  | (n, v) :: fs, h => by
    rw [List.map_cons] at h
    unfold fldIx at h
    by_cases e : n = f
    · rw [if_pos e] at h
      cases h
    · rw [if_neg e] at h
      obtain ⟨h1, h2⟩ := fldIx_none (Option.map_eq_none_iff.mp h)
      refine ⟨?_, fun w => ?_⟩
      · rw [List.lookup_cons, show (f == n) = false from beq_eq_false_iff_ne.mpr fun z => e z.symm]
        exact h1
      · unfold putF
        rw [if_neg e, h2 w]
        rfl
section
variable {K : PySem.W.Frag} {σ σ' : St} {G G' M M1 M2 M3 : Hp} {ta tb te tc : TE} {P P1 P2 : VP} {d : Dat} {ds es : List Dat} {D : Ends} {H : Hp} {u : TS} {C : Addr} {cn : Str} {ns : List Str}
theorem dq_ins {v : V} (h : Dq K G v (.ins cn ns ds)) : ∃ a dx fs, v = .ref a ∧ G a = some (.ins (clsAt K cn) dx fs) ∧ fs.map (·.1) = ns ∧ DqAll K G (fs.map (·.2)) ds := by
  cases h with
  | ins a b c => exact ⟨_, _, _, rfl, a, b, c⟩
theorem ev_fld {f : Str} {i : Nat} (c : Cls K (clsAt K cn)) (n : NoAttr K (clsAt K cn) f) (hl : fldIx ns f = some i) (hd : ds[i]? = some d) (h : Ev te σ G M M1 (DD K (.ins cn ns ds))) : Ev (tFld K te f) σ G M M1 (DD K d) := fun G0 H s k Q q =>
  h G0 H s k _ fun x G1 H1 s1 k1 hx => by
    obtain ⟨a, dx, fs, rfl, h1, h2, h3⟩ := dq_ins hx
    subst h2
    obtain ⟨v, h4, h5⟩ := dpAll_get h3 hd
    exact ⟨a, clsAt K cn, dx, fs, v, rfl, k1.g _ _ h1, c, n, (fldIx_lookup hl).trans h4, q v G1 H1 s1 k1 h5⟩
/-- o.m(..) -/
theorem ev_meth {α ρ : Type} {args : α → List V → Hp → Prop} {m : α → Option ρ} {res : ρ → VP} {E : XK} {t : TA} {a : α} {r : ρ} {R : List V → Hp → Prop} {f : Str} (hf : fldIx ns f = none) (hA : args a = conP (DD K (.ins cn ns ds)) R) (hm : m a = some r) (ho : Ev te σ G M M1 (DD K (.ins cn ns ds))) (ha : EvA t σ G M1 M2 R) : Ev (tMeth (clsAt K cn) f (spP args m res) [] E te t) σ G M M2 (res r) := fun G0 H s k Q q =>
  ho G0 H s k _ fun x G1 H1 s1 k1 hx => by
    obtain ⟨b, dx, fs, rfl, h1, h2, h3⟩ := dq_ins hx
    subst h2
    refine ⟨b, dx, fs, rfl, k1.g _ _ h1, (fldIx_none hf).1, ha G1 H1 (s.trans s1) k1 _ fun vs G2 H2 s2 k2 hv => ?_⟩
    rw [List.append_nil]
    exact ⟨G2, M2, a, r, k2, by rw [hA]; exact ⟨_, _, rfl, dp_up s2 _ hx, hv⟩, hm, fun v G3 H3 s3 k3 hr => q v G3 H3 ((s1.trans s2).trans s3) k3 hr⟩
/-- the promise of __init__: the object that is being made may be changed, then has these fields -/
def spI {α ρ : Type} (K : PySem.W.Frag) (C : Addr) (ns : List Str) (fl : ρ → List Dat) (args : α → List V → Hp → Prop) (m : α → Option ρ) : Sp := fun vs H Q _ =>
  ∃ (G M : Hp) (x dx : Addr) (ws : List V) (a : α) (r : ρ), vs = .ref x :: ws ∧ Ok G (upd M x (.ins C dx [])) H ∧ M x = none ∧ args a ws G ∧ m a = some r ∧
    ∀ fs G' H', Same G G' → Ok G' (upd M x (.ins C dx fs)) H' → fs.map (·.1) = ns → DqAll K G' (fs.map (·.2)) (fl r) → Q .non H'
theorem ev_make {α ρ : Type} {fl : ρ → List Dat} {args : α → List V → Hp → Prop} {m : α → Option ρ} {E : XK} {t : TA} {a : α} {r : ρ} (hm : m a = some r) (ha : EvA t σ G M M1 (args a)) : Ev (tMake (clsAt K cn) (spI K (clsAt K cn) ns fl args m) [] E t) σ G M M1 (DD K (.ins cn ns (fl r))) := fun G0 H s k Q q =>
  ha G0 H s k _ fun vs G1 H1 s1 k1 hv x dx hx hdx hne => by
    rw [List.append_nil]
    have h2 : Ok G1 M1 (upd H1 dx (.own x)) := ⟨k1.g.trans (Same.new hdx), k1.m.trans (Same.new hdx), k1.d, k1.mu⟩
    have hx2 : (upd H1 dx (.own x)) x = none := by rw [upd_ne (fun z => hne z.symm)]; exact hx
    refine ⟨G1, M1, x, dx, vs, a, r, rfl, h2.newM _ hx2, Same.none k1.m hx, hv, hm, fun fs G2 H2 s2 k2 e1 e2 => ⟨rfl, ?_⟩⟩
    exact q _ (upd G2 x (.ins (clsAt K cn) dx fs)) H2 ((s1.trans s2).trans (Same.new k2.gp)) (k2.frz (Same.none k1.m hx)) (.ins upd_same e1 (dpAll_up (Same.new k2.gp) _ e2))
/-- self.f = e, f a new field -/
theorem q_fld {f : Str} {x dx : Addr} {fs : List (Str × V)} {M0 : Hp} (c : Cls K C) (n : NoAttr K C f) (he : Ev te σ G (upd M0 x (.ins C dx fs)) (upd M0 x (.ins C dx fs)) (DD K d)) (ho : Ev ta σ G (upd M0 x (.ins C dx fs)) (upd M0 x (.ins C dx fs)) (OW x)) (hk : fs.map (·.1) = ns) (hl : fldIx ns f = none) (hz : ns.length < 1000) (ok : Ok G (upd M0 x (.ins C dx fs)) H)
    (k : ∀ v G' H', Same G G' → Ok G' (upd M0 x (.ins C dx (fs ++ [(f, v)]))) H' → Dq K G' v d → u D σ H') : tSeq (sFld K ta te f) u D σ H :=
  he G H (Same.refl _) ok _ fun v G1 H1 s1 k1 hv => ho G1 H1 s1 k1 _ fun y G2 H2 s2 k2 hy => by
    cases hy
    subst hk
    refine ⟨x, C, dx, fs, rfl, k2.m _ _ upd_same, c, n, by rw [List.length_map] at hz; exact hz, ?_⟩
    rw [(fldIx_none hl).2 v]
    have := k2.chg (p := x) (u := .ins C dx fs) (.ins C dx (fs ++ [(f, v)])) upd_same
    rw [upd_upd] at this
    exact k v G2 _ (s1.trans s2) this (dp_up s2 _ hv)
/-- isinstance(x, C), C the class of x -/
abbrev CLX (C : Addr) : VP := fun v _ => v = .ref C
end
/-! ### a def with one default -/
structure FunT (K : PySem.W.Frag) (x qual : Str) (st : Stmt) (E f : Addr) (fd : FuncData) : Prop where
  ex : FunD K x qual (defArgs st) (defBody st) (defScope st) [.ref E] [] f fd
theorem funT_mk {K : PySem.W.Frag} {x qual : Str} {st : Stmt} {f T E : Addr} {oc cT : Value} {od an dT : Option Addr} {osl slT : Array (Option Value)} {kV doc pm cdv ct : Value} {nT : Nat} (l : K.lookup f = some ⟨oc, od, .func (PySem.W.fnOf x qual (defArgs st) (defBody st) (defScope st) (.ref T) kV doc pm an cdv ct), osl⟩)
    (lT : K.lookup T = some ⟨cT, dT, .seq #[.ref E] nT, slT⟩) (c : PySem.W.codeIn K cdv qual = true) (k : PySem.W.keepIn K (.ref f) = true) : FunT K x qual st E f (PySem.W.fnOf x qual (defArgs st) (defBody st) (defScope st) (.ref T) kV doc pm an cdv ct) :=
  ⟨⟨⟨oc, od, _, kV, doc, pm, an, cdv, ct, osl, rfl, l, c, .inr ⟨by simp, T, _, [.ref E], nT, rfl, lT, rfl, .cons rfl .nil⟩, .inl rfl⟩, k⟩⟩
end Kx

end

section
set_option maxHeartbeats 2000000
namespace HT
open PySem PySem.SeqAt PyProof.Rows
section
variable {prog : Program} {w : World} {A : Around} {E : Value → Shared → Prop} {s : Shared}
theorem adjust_rev (n : Nat) : Builtin.Slice.sliceAdjust none none (-1) (n : Int) = ((n : Int) - 1, -1) := by
  unfold Builtin.Slice.sliceAdjust
  rfl
theorem places_rev (n : Nat) : Builtin.Slice.slicePlaces ((n : Int) - 1) (-1) (-1) = n := by
  unfold Builtin.Slice.slicePlaces
  have h1 : ¬ ((-1 : Int) > 0) := by omega
  simp only [h1, if_false]
  split
  · simp only [Int.neg_neg, Int.ediv_one]
    omega
  · omega
theorem sliceApplied_rev {sl : Addr} {vs : Value} {n : Nat} {Q : Int × Int × Nat → Shared → Prop} (hs : s.heap.IsSliceOf sl .none .none vs) (ps : IsPart vs (some (-1)))
    (h : Q ((n : Int) - 1, -1, n) s) : wpAny (model prog w) A (Builtin.Slice.sliceApplied (.ref sl) (pure (n : Int))) Q E s := by
  obtain ⟨os, hos, hcs, hds⟩ := id hs
  unfold Builtin.Slice.sliceApplied Builtin.Slice.sliceFields
  refine wpAny_bind (wpAny_bind (wpAny_field hos hds (x := .none) rfl (wpAny_bind (wpAny_field hos hds (x := .none) rfl (wpAny_bind (wpAny_field hos hds (x := vs) rfl (wpAny_pure ?_)))))))
  refine wpAny_bind (slicePart_ ps ?_)
  show wpAny _ _ (if ((-1 : Int) == 0) = true then _ else _) _ _ s
  rw [if_neg (by decide)]
  refine wpAny_bind (slicePart_none (wpAny_bind (slicePart_none (wpAny_bind (wpAny_pure ?_)))))
  show wpAny _ _ (match Builtin.Slice.sliceAdjust none none (-1) (n : Int) with | (lo, hi) => pure (lo, (-1 : Int), Builtin.Slice.slicePlaces lo hi (-1))) _ _ s
  rw [adjust_rev n]
  show wpAny _ _ (pure ((n : Int) - 1, (-1 : Int), Builtin.Slice.slicePlaces ((n : Int) - 1) (-1) (-1))) _ _ s
  rw [places_rev]
  exact wpAny_pure h
theorem pick_rev (xs : Array Value) : ((List.range xs.size).filterMap fun (m : Nat) => xs[(((xs.size : Int) - 1) + (m : Int) * (-1)).toNat]?).toArray = xs.toList.reverse.toArray := by
  have e : ((List.range xs.size).filterMap fun (m : Nat) => xs[(((xs.size : Int) - 1) + (m : Int) * (-1)).toNat]?) = ((List.range xs.size).map fun k => xs.size - 1 - k).filterMap (xs[·]?) := by
    rw [List.filterMap_map]
    have : ∀ l : List Nat, (∀ m ∈ l, m < xs.size) → (l.filterMap fun (m : Nat) => xs[(((xs.size : Int) - 1) + (m : Int) * (-1)).toNat]?) = l.filterMap ((xs[·]?) ∘ fun k => xs.size - 1 - k) := by
      intro l hl
      induction l with
      | nil => rfl
      | cons m l ih =>
        have e1 : (((xs.size : Int) - 1) + (m : Int) * (-1)).toNat = xs.size - 1 - m := by
          have := hl m List.mem_cons_self
          omega
        have ih := ih fun x hx => hl x (List.mem_cons_of_mem _ hx)
        rw [List.filterMap_cons, List.filterMap_cons, ih, e1]
        rfl
    exact this _ fun m hm => List.mem_range.mp hm
  rw [e, PySem.W.krv_range, List.filterMap_reverse, PySem.W.krv_all]
theorem getItem_tuple_rev {t sl : Addr} {items : Array Value} {vs : Value} {Q : Value → Shared → Prop} (ht : IsTup s.heap t items) (hs : s.heap.IsSliceOf sl .none .none vs) (ps : IsPart vs (some (-1)))
    (h : Q (.ref s.heap.objs.size) { s with heap := s.heap.push { cls := .type "tuple", data := .seq items.toList.reverse.toArray } })
    (hsz : items.size ≤ sizeLine) : wpAny (model prog w) A (getItem (.ref t) (.ref sl)) Q E s := by
  have htake : sizeOk (.seq items.toList.reverse.toArray) := by
    show items.toList.reverse.toArray.size ≤ sizeLine
    simpa using hsz
  obtain ⟨os, hos, hcs, hds⟩ := id hs
  have hTs : s.TypeIs (.ref sl) "slice" := ⟨os, hos, hcs⟩
  unfold getItem
  try with_reducible refine wpAny_holding ?_
  first | refine wpAny_bind (wpAny_pure ?_) | skip
  refine wpAny_bind (wpAny_sequenceKey ht.typeIs (by decide) ?_)
  refine wpAny_bind (wpAny_callSpecial?_slot (name := Str.ofString "__getitem__") ht.typeIs PyProof.Rows.slot_tuple_getitem
    (wpAny_call_entry PyProof.Rows.slot_tuple_getitem ht.typeIs entry_tuple_getitem ?_ (args_tuple_getitem _ _)))
  show wpAny _ _ (Builtin.Tuple.tupleItemsOf (.ref t) >>= _) _ _ s
  refine wpAny_bind (tupleItemsOf_ ht ?_)
  refine wpAny_bind (wpAny_typeOf hTs ?_)
  rw [if_pos (by decide)]
  refine wpAny_bind (sliceApplied_rev hs ps ?_)
  have hno : ¬ ((((items.size : Int) - 1) == 0 && (-1 : Int) == 1 && items.size == items.size) = true) := by
    intro q
    rw [Bool.and_eq_true, Bool.and_eq_true] at q
    exact absurd q.1.2 (by decide)
  show wpAny _ _ (if (((items.size : Int) - 1) == 0 && (-1 : Int) == 1 && items.size == items.size) = true then _ else _) _ _ s
  rw [if_neg hno, pick_rev]
  first
    | exact wpAny_bind (m := Builtin.Tuple.tupleExact _) (wpAny_newObj_type (wpAny_pure ⟨_, rfl, wpAny_pure h⟩) htake)
    | exact wpAny_bind (m := Builtin.Tuple.tupleExact _) (wpAny_newObj_type (wpAny_bind (wpAny_pure (wpAny_pure ⟨_, rfl, wpAny_pure h⟩))) htake)
    | exact wpAny_bind (wpAny_bind (m := Builtin.Tuple.tupleExact _) (wpAny_newObj_type (wpAny_pure (wpAny_pure ⟨_, rfl, wpAny_pure h⟩)) htake))
    | exact wpAny_bind (wpAny_bind (m := Builtin.Tuple.tupleExact _) (wpAny_newObj_type (wpAny_pure ⟨_, rfl, wpAny_pure h⟩) htake))
end
end HT
namespace Kx
open PySem L2 PySem.Spec PyProof.Rows
section
variable {X : Cx} {K : PySem.W.Frag}
def tRevT (K : PySem.W.Frag) (te : TE) : TE := fun σ H Q => te σ H fun x H1 => ∃ a xs, x = .ref a ∧ SqT K H1 a xs ∧ ∀ p o, H1 p = none → o.dict = none → Q (.ref p) (upd H1 p (.frz o (.tup xs.reverse)))
theorem pe_revT {e : Expr} {te : TE} {k : Nat} {p1 p2 p3 pos : Pos} (he : PE X e te) (hK : X.K = K := by rfl) : PE X (.Subscript e (.Slice none none (some (.UnaryOp .USub (.Constant (.int 1) k p1) p2)) p3) pos) (tRevT K te) := by
  subst hK
  refine ⟨fun pins s σ H Q I h => ?_⟩
  refine Subscript_ (thn (he.run pins s σ H _ I h) fun v s1 ⟨x, H1, I1, r1, q1⟩ => ?_)
  obtain ⟨a, xs, ex, hx, q⟩ := q1
  subst ex
  cases r1
  have hst : PO X (some (.UnaryOp .USub (.Constant (.int 1) k p1) p2)) (tPart (tUn (rU fun i => .int (-i)) (tC (.int 1)))) := po_some (pe_un un_neg pe_int)
  refine wpAny_Slice (thn (po_none.run pins s1 σ H1 (fun o H2 => o = none ∧ H2 = H1) I1 ⟨rfl, rfl⟩) fun vl s2 ⟨l, H2, I2, pl, el, e2⟩ => ?_)
  subst el e2
  refine thn (po_none.run pins s2 σ H2 (fun o H3 => o = none ∧ H3 = H2) I2 ⟨rfl, rfl⟩) fun vu s3 ⟨u, H3, I3, pu, eu, e3⟩ => ?_
  subst eu e3
  refine thn (hst.run pins s3 σ H3 (fun o H4 => o = some (-1) ∧ H4 = H3) I3 ⟨1, rfl, -1, rfl, rfl, rfl⟩) fun vs s4 ⟨o, H4, I4, ps, eo, e4⟩ => ?_
  subst eo e4
  cases pl
  cases pu
  have I5 : Inv X pins σ H4 { s4 with heap := s4.heap.push { cls := .type "slice", data := .fields #[.none, .none, vs] } } := I4.kept (t' := s4.toks) fun b ob q => Heap.get?_push_of_some _ q
  obtain ⟨its, r, ht, hz⟩ := I5.tuple hx
  have hlen := r.length
  show wpAny (model X.prog X.w) X.A (subscriptTail e (.Slice none none (some (.UnaryOp .USub (.Constant (.int 1) k p1) p2)) p3) (.ref a) (.ref s4.heap.objs.size)) (EP X pins σ Q) X.xe { s4 with heap := s4.heap.push { cls := .type "slice", data := .fields #[.none, .none, vs] } }
  refine tail_any (ops := [.ref a, .ref s4.heap.objs.size]) ht.typeIs (PyProof.Rows.slot_tuple_getitem.lookup) ?_ (by with_unfolding_all rfl)
  refine HT.getItem_tuple_rev ht (Heap.IsSliceOf.new _ _ _ vs) ps ?_ (by rw [List.size_toArray]; omega)
  exact ⟨.ref _, _, I5.laid (t' := s4.toks) (fun b ob q => Heap.get?_push_of_some _ q) (Nat.le_refl _) (frz_ok (by rw [List.length_reverse]; exact hz) r.reverse), rfl, q _ _ (I5.hok.fresh (Nat.le_refl _)) rfl⟩
end
section
variable {β : Type} {K : PySem.W.Frag} {σ σ' : L2.St} {G G' M M1 M2 M3 : Hp} {ta tb te tc : TE} {P P1 P2 : VP} {d : Dat} {ds es : List Dat} {e : β → Dat}
theorem dpAll_rev {G : Hp} : ∀ {ds : List Dat} {vs : List V}, DqAll K G vs ds → DqAll K G vs.reverse ds.reverse
  | _, _, .nil => .nil
  | _, _, .cons a b => by
    rw [List.reverse_cons, List.reverse_cons]
    exact dpAll_app (dpAll_rev b) (.cons a .nil)
theorem ev_revT (h : Ev te σ G M M1 (DD K (.tuple ds))) : Ev (tRevT K te) σ G M M1 (DD K (.tuple ds.reverse)) := fun G0 H s k Q q =>
  h G0 H s k _ fun x G1 H1 s1 k1 hx => by
    obtain ⟨a, vs, rfl, ha, hb⟩ := dp_tuple hx
    exact ⟨a, vs, rfl, sqT_up k1.g ha, newT s1 k1 (dpAll_rev hb) q⟩
theorem ev_revTM {xs : List β} (h : Ev te σ G M M1 (DD K (.tuple (xs.map e)))) : Ev (tRevT K te) σ G M M1 (DD K (.tuple (xs.reverse.map e))) := by
  rw [List.map_reverse]
  exact ev_revT h
end
end Kx

end

section
set_option maxHeartbeats 2000000
namespace PyProof.Rows
open PySem PySem.Spec
section
variable {prog : Program} {w : World} {A : Around} {E : Value → Shared → Prop} {s : Shared}
theorem collect_tup {l : Addr} {vs : List Value} {Q : List Value → Shared → Prop} (hl : IsTup s.heap l vs.toArray)
    (h : Q vs { s with heap := (s.heap.push (seqObj "list" #[] 0)).update s.heap.objs.size (Obj.mapSeq (· ++ vs.toArray)) }) (hsz : vs.length ≤ sizeLine := by size_fits) :
    wpAny (model prog w) A (collect (.ref l)) Q E s := by
  obtain ⟨o, ho, hc, n, hd⟩ := id hl
  unfold collect
  refine wpAny_bind (wpAny_runValue (codeAny_builtin entry_proto_collect' ?_))
  show wpAny _ _ (do again (.builtin "list.__iadd__" ⟨[← newList [], .ref l], []⟩)) _ _ s
  refine wpAny_bind (wpAny_newList (wpAny_pure ⟨Code.quiet_builtin _ (by decide +kernel), codeAny_builtin entry_list_iadd' ?_⟩))
  show wpAny _ _ (Builtin.List.listExtendWith (.ref s.heap.objs.size) (.ref l) (.ref s.heap.objs.size)) _ _ { s with heap := s.heap.push (seqObj "list" #[] 0) }
  unfold Builtin.List.listExtendWith
  have ho' : (s.heap.push (seqObj "list" #[] 0)).get? l = some o := Heap.get?_push_of_some _ ho
  refine wpAny_bind (wpAny_typeOf (T := "tuple") ⟨o, ho', hc⟩ ?_)
  have ht : (Value.type "tuple" == Value.type "tuple") = true := by rfl
  rw [if_pos (by rw [ht]; simp)]
  refine wpAny_bind (listItems_at ho' hd ?_)
  refine wpAny_bind (listItems_at (xs := #[]) (n := 0) (Heap.get?_push_size _ rfl) rfl ?_)
  rw [if_neg (by simp)]
  refine wpAny_bind (listUpdate_at (xs := #[]) (n := 0) (Heap.get?_push_size _ rfl) rfl ?_ (Nat.zero_le _) (by show (#[] ++ vs.toArray).size ≤ sizeLine + 1; simp only [Array.size_append, List.size_toArray, List.length_nil]; omega))
  refine wpAny_pure ?_
  show wpAny (model prog w) A (do
      let o ← load s.heap.objs.size
      match o.data with
      | .seq xs _ => pure xs.toList
      | _ => unsupported "internal:collect") Q E { s with heap := (s.heap.push (seqObj "list" #[] 0)).update s.heap.objs.size (Obj.mapSeq (· ++ vs.toArray)) }
  refine wpAny_bind (wpAny_load (get?_update_seq (Heap.get?_push_size _ rfl) _) ?_)
  show wpAny _ _ (pure ((#[] : Array Value) ++ vs.toArray).toList) Q E _
  rw [show ((#[] : Array Value) ++ vs.toArray).toList = vs by simp]
  exact wpAny_pure h
theorem sortedKT {κ : KeyKind} (hO : κ.OneLt) {l : Addr} {vs : List Value} {Q : Value → Shared → Prop} (hl : IsTup s.heap l vs.toArray) (h0 : KeysOf κ (pairsOf vs)) (hkk : ∀ v₁ v₂ rest, vs = v₁ :: v₂ :: rest → keyKind' (v₁ :: v₂ :: rest).toArray = pure oneType') (h64 : vs.length < 64)
    (h : ∀ st' : SortSt, (arrOf st').Perm (pairsOf vs) → SortedToK κ (arrOf st') (pairsOf vs).size → Q (.ref (s.heap.objs.size + 1)) { s with heap := sortedAll s.heap vs ((arrOf st').map (·.2)) }) :
    wpAny (model prog w) A (call (.builtin "sorted") [.ref l]) Q E s := by
  refine Calls.call_function_entry kind_sorted plain_sorted entry_sorted (args_sorted1 _) ?_
  unfold Builtin.«sorted»
  refine wpAny_bind (m := checkCount "sorted" 1 1 _) (wpAny_pure ?_)
  refine wpAny_bind (collect_tup hl ?_)
  refine wpAny_bind (wpAny_newList ?_)
  have hsz : ((s.heap.push (seqObj "list" #[] 0)).update s.heap.objs.size (Obj.mapSeq (· ++ vs.toArray))).objs.size = s.heap.objs.size + 1 := by
    rw [Heap.size_update, size_push']
  have hoL : (((s.heap.push (seqObj "list" #[] 0)).update s.heap.objs.size (Obj.mapSeq (· ++ vs.toArray))).push (seqObj "list" vs.toArray 0)).get? (s.heap.objs.size + 1) = some (seqObj "list" vs.toArray 0) := by
    rw [← hsz]; exact Heap.get?_push_size _ rfl
  show wpAny _ _ _ _ _ { s with heap := ((s.heap.push (seqObj "list" #[] 0)).update s.heap.objs.size (Obj.mapSeq (· ++ vs.toArray))).push (seqObj "list" vs.toArray 0) }
  rw [hsz]
  refine wpAny_bind (wpAny_holding (wpAny_call_entry slot_list_sort ⟨_, hoL, rfl⟩ entry_list_sort (list_sort_treeK hO hoL h0 hkk h64 fun st' a1 a2 => ⟨_, rfl, ?_⟩) (args_list_sort _)))
  exact wpAny_pure ⟨_, rfl, h st' a1 a2⟩
theorem sorted_strsT {l : Addr} {vs : List Value} {ss : List Str} {Q : Value → Shared → Prop} (hl : IsTup s.heap l vs.toArray) (hS : StrsAre vs ss) (h64 : vs.length < 64)
    (h : ∀ (out : Array Value) (ss' : List Str), StrsAre out.toList ss' → ss'.Perm ss → sortedS ss' = true → Q (.ref (s.heap.objs.size + 1)) { s with heap := sortedAll s.heap vs out }) :
    wpAny (model prog w) A (call (.builtin "sorted") [.ref l]) Q E s := by
  refine sortedKT strKind_oneLt hl hS.keysOf (fun v₁ v₂ rest e => keyKind_strs (by rw [← e]; exact hS)) h64 fun st' hp hs => ?_
  obtain ⟨ss', h1, h2, h3⟩ := sorted_out_str hS hp hs
  exact h _ ss' h1 h2 h3
end
end PyProof.Rows
namespace Kx
open PySem L2 PySem.Spec
section
variable {X : Cx} {K : PySem.W.Frag}
def rSortedST (K : PySem.W.Frag) : List V → Hp → VK → Prop := fun vs H Q => ∃ (a : Addr) (xs : List Str), vs = [V.ref a] ∧ SqT K H a (xs.map V.str) ∧ xs.length < 64 ∧
  ∀ (ys : List Str) (p : Addr), ys.Perm xs → PyProof.Rows.sortedS ys = true → H p = none → Q (.ref p) (upd H p (.lst (ys.map V.str)))
theorem cr_sortedST (hK : X.K = K := by rfl) : CallR X (.builtin "sorted") (rSortedST K) := by
  subst hK
  intro pins s σ H vs us Q I r h
  obtain ⟨a, xs, rfl, hs, h64, q⟩ := h
  obtain ⟨its, rv, hl, _⟩ := I.tuple hs
  rw [Vals.ref1 r]
  have hlen0 := rv.length
  rw [List.length_map] at hlen0
  refine PyProof.Rows.sorted_strsT hl rv.strs (by rw [← hlen0]; exact h64) fun out ys h1 h2 h3 => ?_
  obtain ⟨ep, he'⟩ := PyProof.Rows.sortedAll_at s.heap its out
  have hlen : (ys.map V.str).length ≤ sizeLine := by rw [List.length_map, h2.length_eq]; exact small64 h64
  exact ⟨.ref _, upd H (s.heap.objs.size + 1) (.lst (ys.map V.str)), I.laid (t' := s.toks) (fun _ _ => PyProof.Rows.sortedAll_old) (Nat.le_succ _) ⟨hlen, out.toList, ep, vals_of_strs h1, he'⟩, rfl, q ys _ h2 h3 (I.hok.fresh (Nat.le_succ _))⟩
/-! order of data -/
def rLeD (K : PySem.W.Frag) : R2 := fun x y H Q => ∃ d e, Dp K H x d ∧ Dp K H y e ∧ PySem.W.alike d e = true ∧ d ≠ .none ∧ min d.depth e.depth ≤ 64 ∧ Q (.bl (!PySem.W.dataLt e d)) H
theorem op_leD (hu : X.A.units + 64 < cLine) (hK : X.K = K := by rfl) : OpR X (compareOp .LtE) (rLeD K) := by
  subst hK
  intro pins s σ H x y v u Q I rx ry h
  obtain ⟨d, e, hd, he, al, hn, hm, q⟩ := h
  obtain ⟨as, r1⟩ := Dp.reads I d x v hd rx
  obtain ⟨bs, r2⟩ := Dp.reads I e y u he ry
  exact PySem.W.le_data r1 r2 al hn (by omega) ⟨.bl _, H, I, rfl, q⟩
end
section
variable {β : Type} {K : PySem.W.Frag} {σ σ' : L2.St} {G G' M M1 M2 M3 : Hp} {ta tb te tc : TE} {P P1 P2 : VP} {d : Dat} {ds es : List Dat} {e : β → Dat}
theorem el_sortedST {xs ys : List Str} (h : sortS xs = some ys) (ha : EvA (tCons ta tNil) σ G M M1 (conP (DD K (.tuple (xs.map Dat.str))) nilP)) : EvL K (tCB (rSortedST K) (tCons ta tNil)) σ G M M1 (ys.map Dat.str) := el_cb ha fun vs G0 H s k hx Q q => by
  obtain ⟨v, rfl, hv⟩ := one_of (R := nilP) hx
  obtain ⟨a, ws, rfl, h1, h2⟩ := dp_tuple hv
  obtain ⟨_, h3, h4⟩ := bs h
  cases h4
  have so := strs_sok h2
  rw [dpAll_strs h2] at h1
  refine ⟨a, xs, rfl, sqT_up k.g h1, grd_of h3, fun zs p pz sz hp => ?_⟩
  have e := srt_is pz sz
  subst e
  exact newL (Same.refl _) k (dqAll_strs fun x hx => so x ((srt_perm xs).mem_iff.mp hx)) q p hp
/-- pairs of texts in their order -/
def ltP (a b : Str × Str) : Bool := if a.1 = b.1 then sLt a.2 b.2 else sLt a.1 b.1
theorem lex_str (a b : Str) : PyProof.Rows.lexLt PyProof.Rows.itemOrd [Sum.inr a.cps.toList] [Sum.inr b.cps.toList] = sLt a b := by
  have := PySem.W.dataLt_str a b
  unfold PySem.W.dataLt at this
  simp only [PySem.W.keyToks] at this
  exact this
theorem dataLt_pair (a b : Str × Str) : PySem.W.dataLt (.tuple [.str a.1, .str a.2]) (.tuple [.str b.1, .str b.2]) = ltP a b := by
  rw [PySem.W.dataLt_tuple]
  simp only [PySem.W.keyToksAll, PySem.W.keyToks, List.cons_append, List.nil_append]
  rw [PyProof.Rows.lex_self]
  unfold ltP
  by_cases h1 : a.1 = b.1
  · rw [if_pos h1, h1, PyProof.Rows.lex_self, PyProof.Rows.lex_self]
    by_cases h2 : a.2 = b.2
    · rw [h2, PyProof.Rows.lex_self, PyProof.Rows.lex_self, sLt_irr]
      rfl
    · rw [PySem.W.lex_atom (fun z => h2 (str_ext (Sum.inr.inj z))), lex_str]
  · rw [if_neg h1, PySem.W.lex_atom (fun z => h1 (str_ext (Sum.inr.inj z))), lex_str]
theorem ev_leP {a b : Str × Str} (ha : Ev ta σ G M M1 (DD K (.tuple [.str a.1, .str a.2]))) (hb : Ev tb σ G M1 M2 (DD K (.tuple [.str b.1, .str b.2]))) : Ev (tOp (rLeD K) ta tb) σ G M M2 (DD K (.bool (!ltP b a))) := ev_op mo_dd ha hb fun x y G0 H s k hx hy Q q => by
  have e : ∀ c : Str × Str, toPy (.tuple [.str c.1, .str c.2]) = .tuple [.str c.1, .str c.2] := fun c => by rw [toPy_tuple]; simp [toPy]
  have p : ∀ c : Str × Str, pur (.tuple [.str c.1, .str c.2]) = true := fun c => by simp [pur, purs]
  have h1 := dq_dp _ (p a) (dp_up k.g _ hx)
  have h2 := dq_dp _ (p b) (dp_up k.g _ hy)
  rw [e] at h1 h2
  refine ⟨_, _, h1, h2, by simp [PySem.W.alike, PySem.W.alikeAll], by simp, by simp [PyData.depth, PyData.depthAll], ?_⟩
  rw [dataLt_pair]
  exact q _ G0 H (Same.refl _) k (.bl _)
end
end Kx

end

section
set_option maxHeartbeats 2000000
namespace Kx
open PySem L2
section
variable {K : PySem.W.Frag} {σ σ' : St} {G G' M M1 M2 M3 : Hp} {ta tb te tc : TE} {P P1 P2 : VP} {d : Dat} {ds es : List Dat} {C : Addr} {cn : Str} {ns : List Str}
theorem mo_clx : Mo (CLX C) := fun _ _ _ _ h => h
theorem ev_clx : Ev (tC (.ref C)) σ G M M (CLX C) := fun G0 H _ k Q q => q _ G0 H (Same.refl _) k rfl
/-- isinstance(x, C), x an instance of a class of one's own -/
theorem ev_isiX {C' : Addr} {b : Bool} (c : ClsOk K (clsAt K cn)) (hb : PySem.W.kitOne K (.ref (clsAt K cn)) (.ref C') = some b) (ha : EvA (tCons ta (tCons tb tNil)) σ G M M1 (conP (DD K (.ins cn ns ds)) (conP (CLX C') nilP))) : Ev (tCB (rIsi K) (tCons ta (tCons tb tNil))) σ G M M1 (DD K (.bool b)) := ev_cb ha fun xs G0 H s k hx Q q => by
  obtain ⟨v, w, rfl, hv, hw⟩ := two_of hx
  cases hw
  exact ⟨v, _, _, _, b, rfl, .own C', tyx_of k.g (fun C1 n1 x1 e => by cases e; exact c) (fun _ _ e => by cases e) hv, hb, q _ G0 H (Same.refl _) k (.bl _)⟩
/-! ### comprehensions with two fors -/
def lc2O {α β γ : Type} (f : α → Option (List γ)) (h : α → γ → Option β) (xs : List α) : Option (List β) := do
  let rs ← mapO (fun x => (f x).bind fun zs => mapO (h x) zs) xs
  grd (rs.flatten.length ≤ 16777216)
  some rs.flatten
theorem mapO_take {α β : Type} {f : α → Option β} {xs : List α} {ys : List β} {i : Nat} (h : mapO f xs = some ys) : mapO f (xs.take i) = some (ys.take i) := by
  induction xs generalizing ys i with
  | nil => cases h; cases i <;> rfl
  | cons x xs ih =>
    unfold mapO at h
    obtain ⟨y, h1, h⟩ := bs h
    obtain ⟨ys', h2, h⟩ := bs h
    cases h
    cases i with
    | zero => rfl
    | succ i =>
      rw [List.take_succ_cons, List.take_succ_cons]
      unfold mapO
      rw [h1, ih h2]
      rfl
theorem el_lc2M {α β γ : Type} {ea : α → Dat} {ec : γ → Dat} {eb : β → Dat} {f : α → Option (List γ)} {h : α → γ → Option β} {xs : List α} {ys : List β} {wi wi1 : TI} {g g1 : TG} {vs vs1 : List Nat} (src : Src K wi σ G M M1 (xs.map ea)) (hf : lc2O f h xs = some ys)
    (hs : ∀ (x : α) (zs : List γ) (Mx G1 : Hp) (v : V), f x = some zs → Same M1 Mx → Same G G1 → Dq K G1 v (ea x) → Tg g v (wipe σ vs) G1 fun σ2 => wipe σ2 vs = wipe σ vs ∧ Src K wi1 σ2 G1 Mx Mx (zs.map ec) ∧
      ∀ (c : γ) (y : β) (Mx' G2 : Hp) (v2 : V), h x c = some y → Same M1 Mx' → Same G1 G2 → Dq K G2 v2 (ec c) → Tg g1 v2 (wipe σ2 vs1) G2 fun σ3 => wipe σ3 vs1 = wipe σ2 vs1 ∧ Ev te σ3 G2 Mx' Mx' (DD K (eb y))) :
    EvL K (tLc2 wi g tYes wi1 g1 tYes te vs vs1) σ G M M1 (ys.map eb) := by
  intro G0 H s k Q q
  obtain ⟨rs, h1, h2⟩ := bs hf
  obtain ⟨_, h3, h4⟩ := bs h2
  cases h4
  have hz := szl (grd_of h3)
  have hl := mapO_len h1
  refine src G0 H s k _ fun J G1 H1 s1 k1 w => ?_
  obtain ⟨Y, Gd, w, hGd, hY⟩ := w
  intro D hD
  have mD : M1 D = none := Same.none k1.m hD
  rw [List.length_map] at w
  let Pv : Nat → Hp → Prop := fun i H => ∃ G2 acc, Same G1 G2 ∧ Ok G2 (upd M1 D (.lst acc)) H ∧ DqAll K G2 acc ((rs.take i).flatten.map eb)
  refine ⟨fun i m H => m = xs.length - i ∧ i ≤ xs.length ∧ Pv i H, ⟨xs.length, by simp, Nat.zero_le _, G1, [], Same.refl _, k1.newM _ hD, .nil⟩, ?_⟩
  rintro i m H2 ⟨rfl, hi, G2, acc, s2, k2, hacc⟩
  have qg := hGd H2 (s2.trans k2.g)
  by_cases hlt : i < xs.length
  · refine .inr ⟨w.goes i H2 hlt qg, Pv (i + 1), fun H' p' => ⟨xs.length - (i + 1), by omega, rfl, hlt, p'⟩, fun x H3 y => ?_⟩
    have y := w.yields i H2 x H3 hlt qg y
    obtain ⟨a, ha⟩ : ∃ a, xs[i]? = some a := ⟨xs[i], List.getElem?_eq_getElem hlt⟩
    obtain ⟨r, hr⟩ : ∃ r, rs[i]? = some r := ⟨rs[i]'(by omega), List.getElem?_eq_getElem (by omega)⟩
    obtain ⟨G3, s3, k3, hx⟩ := hY i (ea a) H2 x H3 G2 _ (by rw [List.getElem?_map, ha]; rfl) s2 k2 y
    have e0 : (f a).bind (fun zs => mapO (h a) zs) = some r := mapO_get (f := fun x => (f x).bind fun zs => mapO (h x) zs) h1 ha hr
    obtain ⟨zs, e1, e2⟩ := bs e0
    have hl2 := mapO_len e2
    have htk : (rs.take (i + 1)).flatten = (rs.take i).flatten ++ r := by
      rw [List.take_add_one, hr, List.flatten_append]
      simp
    have hfl : (rs.take i).flatten.length + r.length ≤ rs.flatten.length := by
      have : rs.flatten = (rs.take (i + 1)).flatten ++ (rs.drop (i + 1)).flatten := by rw [← List.flatten_append, List.take_append_drop]
      rw [this, htk, List.length_append, List.length_append]
      omega
    refine hs a zs (upd M1 D (.lst acc)) G3 x e1 (Same.new mD) (((s.trans s1).trans s2).trans s3) hx H3 _ k3.g ?_
    rintro σ2 ⟨hw, sr, hin⟩
    refine ⟨hw, ?_⟩
    simp only [tYes, if_true]
    refine sr G3 H3 (Same.refl _) k3 _ fun J1 G4 H4 s4 k4 w1 => ?_
    obtain ⟨Y1, Gd1, w1, hGd1, hY1⟩ := w1
    rw [List.length_map] at w1
    let Pv1 : Nat → Hp → Prop := fun j H => ∃ G5 acc1, Same G4 G5 ∧ Ok G5 (upd M1 D (.lst acc1)) H ∧ DqAll K G5 acc1 (((rs.take i).flatten ++ r.take j).map eb)
    refine ⟨fun j m H => m = zs.length - j ∧ j ≤ zs.length ∧ Pv1 j H, ⟨zs.length, by simp, Nat.zero_le _, G4, acc, Same.refl _, k4, by rw [List.take_zero, List.append_nil]; exact dpAll_up (s3.trans s4) _ hacc⟩, ?_⟩
    rintro j m H5 ⟨rfl, hj, G5, acc1, s5, k5, hacc1⟩
    have qg1 := hGd1 H5 (s5.trans k5.g)
    by_cases hlt1 : j < zs.length
    · refine .inr ⟨w1.goes j H5 hlt1 qg1, Pv1 (j + 1), fun H' p' => ⟨zs.length - (j + 1), by omega, rfl, hlt1, p'⟩, fun x1 H6 y1 => ?_⟩
      have y1 := w1.yields j H5 x1 H6 hlt1 qg1 y1
      obtain ⟨c, hc⟩ : ∃ c, zs[j]? = some c := ⟨zs[j], List.getElem?_eq_getElem hlt1⟩
      obtain ⟨b, hb⟩ : ∃ b, r[j]? = some b := ⟨r[j]'(by omega), List.getElem?_eq_getElem (by omega)⟩
      obtain ⟨G6, s6, k6, hx1⟩ := hY1 j (ec c) H5 x1 H6 G5 _ (by rw [List.getElem?_map, hc]; rfl) s5 k5 y1
      refine hin c b (upd M1 D (.lst acc1)) G6 x1 (mapO_get e2 hc hb) (Same.new mD) ((s4.trans s5).trans s6) hx1 H6 _ k6.g ?_
      rintro σ3 ⟨hw3, ev⟩
      refine ⟨hw3, ?_⟩
      refine ev G6 H6 (Same.refl _) k6 _ fun z G7 H7 s7 k7 hz7 => ?_
      have hlen : acc1.length < sizeLine := by
        rw [dpAll_len hacc1, List.length_map, List.length_append, List.length_take]
        rw [sizeLine_eq] at hz ⊢
        omega
      refine ⟨acc1, k7.m _ _ upd_same, hlen, G7, acc1 ++ [z], (s5.trans s6).trans s7, ?_, ?_⟩
      · have := k7.chg (p := D) (u := .lst acc1) (.lst (acc1 ++ [z])) upd_same
        rw [upd_upd] at this
        exact this
      · rw [List.take_add_one, hb, ← List.append_assoc, List.map_append (l₁ := (rs.take i).flatten ++ r.take j)]
        exact dpAll_app (dpAll_up (s6.trans s7) _ hacc1) (.cons hz7 .nil)
    · have e : j = zs.length := by omega
      subst e
      refine .inl ⟨w1.stops H5 qg1, G5, acc1, ((s2.trans s3).trans s4).trans s5, k5, ?_⟩
      rw [htk]
      rw [← hl2, List.take_length] at hacc1
      exact hacc1
  · have e : i = xs.length := by omega
    subst e
    refine .inl ⟨w.stops H2 qg, ?_⟩
    rw [← hl, List.take_length] at hacc
    exact q D acc G2 H2 (s1.trans s2) k2 mD hacc
end
end Kx

end

section
set_option maxHeartbeats 2000000
namespace Kx
open PySem L2
/-- a text's signs -/
def signs (z : Str) : List Str := z.cps.toList.map fun c => ⟨#[c]⟩
theorem signs_map {z : Str} : (z.cps.toList.map fun c => Dat.str ⟨#[c]⟩) = (signs z).map Dat.str := by
  unfold signs
  rw [List.map_map]
  rfl
section
variable {X : Cx} {K : PySem.W.Frag}
theorem pe_fldK {e : Expr} {ta : TE} {f : Str} {pos : Pos} (he : PE X e ta) (hb : attributeBase e f X.env (eval e X.env) = eval e X.env := by rfl) (h : X.K = K := by rfl) : PE X (.Attribute e f pos) (tFld K ta f) := h ▸ pe_fld he hb
theorem cl_dictTK (hcalm : X.calm = true) (h : X.K = K := by rfl) : CallR X (.type "dict") (rDictT K) := h ▸ cl_dictT hcalm
theorem cl_dictHK (hu : X.A.units + 64 < cLine) (hcalm : X.calm = true) (h : X.K = K := by rfl) : CallR X (.type "dict") (rDictH K) := h ▸ cl_dictH (by omega) hcalm
end
section
variable {β : Type} {K : PySem.W.Frag} {σ σ' : St} {G G' M M1 M2 M3 : Hp} {ta tb te tc : TE} {P P1 P2 : VP} {d : Dat} {ds es : List Dat} {D : Ends} {H : Hp} {u : TS} {e : β → Dat}
theorem ex_K {tr : TA} {R : Addr → List (Key × V) → List V → Hp → Hp → Prop} {xs : List (Str × β)} (ha : EvD K ta σ G M M1 e xs) (hr : ∀ p ws, M1 p = none → EvX tr σ G (upd M1 p (.dK ws)) (R p ws)) :
    EvX (tCons ta tr) σ G M fun vs G' M' => ∃ p ws r, vs = .ref p :: r ∧ M1 p = none ∧ KOk K G' e ws xs ∧ R p ws r G' M' := fun G0 H s k Q q =>
  ha G0 H s k _ fun p ws G1 H1 s1 k1 hp hd => hr p ws hp G1 H1 (s.trans s1) k1 _ fun xs G2 M2 H2 s2 k2 hy => q (.ref p :: xs) G2 M2 H2 (s1.trans s2) k2 ⟨p, ws, xs, rfl, hp, hd.up s2, hy⟩
/-- what is one's own stands still from here on -/
theorem k_frz {M0 : Hp} {p : Addr} {o : HO} (ok : Ok G M H) (hp : M p = some o) (h0 : M0 p = none) (hB : Same M0 M) (k : ∀ G', Same G G' → G' p = some o → Ok G' M0 H → u D σ H) : u D σ H :=
  k (upd G p o) (Same.new (ok.d _ _ hp)) upd_same (ok.giveL hp h0 hB)
end
end Kx

end

section
set_option maxHeartbeats 2000000
namespace Kx
open PySem L2
/-- all places are told: the default fills nothing -/
theorem FunT.binds3 {K : PySem.W.Frag} {x qual : Str} {st : Stmt} {E0 f : Addr} {fd : FuncData} {ps : List Str} (F : FunT K x qual st E0 f fd)
    (h : ∀ (T : Addr) (kV doc pm : Value) (an : Option Addr) (cdv ct : Value) (us its : List Value), us.length = ps.length → its.length = 1 →
      ∃ k, bindArgs (PySem.W.fnOf x qual (defArgs st) (defBody st) (defScope st) (.ref T) kV doc pm an cdv ct) ⟨us, []⟩ = seqItems? (.ref T) >>= k ∧ k (some its.toArray) = pure (ps.zip us)) : Binds K fd ps [] := by
  obtain ⟨ds, r, b⟩ := F.ex.binds1 (ps := ps) ps.length 1 (by simp) (by simp) fun T kV doc pm an cdv ct us its hl hi => by
    obtain ⟨k, h1, h2⟩ := h T kV doc pm an cdv ct us its hl hi
    refine ⟨k, h1, ?_⟩
    have : its.drop 1 = [] := by
      rw [List.drop_eq_nil_iff]
      have := hi
      simp at this
      omega
    rw [this, List.append_nil]
    exact h2
  cases r
  exact b
theorem kit_self {K : PySem.W.Frag} {t : Value} : PySem.W.kitOne K t t = some true := by
  unfold PySem.W.kitOne
  simp
end Kx

end

section
set_option maxHeartbeats 2000000
namespace Kx
open PySem L2
section
variable {β : Type} {K : PySem.W.Frag} {σ σ' : St} {G G' M M1 M2 M3 : Hp} {ta tb te tc tk1 tv1 tk2 tv2 : TE} {P P1 P2 : VP} {d : Dat} {ds es : List Dat} {D : Ends} {H : Hp} {u : TS} {e : β → Dat}
/-- {k1: v1, k2: v2} by texts -/
theorem ev_disp2 {k1 k2 : Str} {b1 b2 : β} (h1 : ∀ Mx, Same M Mx → Ev tk1 σ G Mx Mx (DD K (.str k1))) (h2 : ∀ Mx, Same M Mx → Ev tv1 σ G Mx Mx (DD K (e b1))) (h3 : ∀ Mx, Same M Mx → Ev tk2 σ G Mx Mx (DD K (.str k2))) (h4 : ∀ Mx, Same M Mx → Ev tv2 σ G Mx Mx (DD K (e b2))) :
    Ev (tDisp [(tk1, tv1), (tk2, tv2)]) σ G M M (DD K (eDS e (mergeA [] [(k1, b1), (k2, b2)]))) := fun G0 H s k Q q p hp => by
  have mp : M p = none := Same.none k.m hp
  have sM : Same M (upd M p (.dK [])) := Same.new mp
  have k0 := k.newM (.dK []) hp
  refine h1 _ sM G0 _ s k0 _ fun x1 G1 H1 s1 ok1 hx1 => h2 _ sM G1 H1 (s.trans s1) ok1 _ fun y1 G2 H2 s2 ok2 hy1 => h3 _ sM G2 H2 ((s.trans s1).trans s2) ok2 _ fun x2 G3 H3 s3 ok3 hx2 => h4 _ sM G3 H3 (((s.trans s1).trans s2).trans s3) ok3 _ fun y2 G4 H4 s4 ok4 hy2 => ?_
  obtain ⟨rfl, o1⟩ := dq_str hx1
  obtain ⟨rfl, o2⟩ := dq_str hx2
  refine ⟨ok4.m _ _ upd_same, [(kS k1, y1), (kS k2, y2)], rfl, by simp, ?_⟩
  have r : KRel K G4 kS e [(kS k1, y1), (kS k2, y2)] [(k1, b1), (k2, b2)] := .cons (dp_up (s3.trans s4) _ hy1) (.cons hy2 .nil)
  have r2 := KRel.mergeS r .nil
  have okk := ok4.chg (p := p) (u := .dK []) (.dK (mergeK [] [(kS k1, y1), (kS k2, y2)])) upd_same
  rw [upd_upd] at okk
  have sn : Same G4 (upd G4 p (.dK (mergeK [] [(kS k1, y1), (kS k2, y2)]))) := Same.new okk.gp
  refine q _ _ _ ((((s1.trans s2).trans s3).trans s4).trans sn) (okk.frz mp) (eDS_of upd_same (r2.up sn) (mergeA_keys [(k1, b1), (k2, b2)] [] (fun x hx => (nomatch hx)) fun x hx => ?_))
  rcases List.mem_cons.mp hx with rfl | hx
  · exact o1
  · rw [List.mem_singleton.mp hx]; exact o2
end
end Kx

end

section
set_option maxHeartbeats 2000000
namespace Kx
open PySem L2
section
variable {β : Type} {K : PySem.W.Frag} {σ σ' : St} {G G' M M1 M2 M3 : Hp} {ta tb te tc tk tv : TE} {P P1 P2 : VP} {d : Dat} {ds es : List Dat} {D : Ends} {H : Hp} {u : TS} {e : β → Dat}
/-! ### a dict of one's own by pairs of texts -/
def KOkP (K : PySem.W.Frag) (G : Hp) (e : β → Dat) (kvs : List (List Key × V)) (xs : List ((Str × Str) × β)) : Prop := KRel K G kP e kvs xs ∧ ∀ x ∈ xs, okP x.1
theorem KOkP.up {kvs : List (List Key × V)} {xs : List ((Str × Str) × β)} (s : Same G G') (h : KOkP K G e kvs xs) : KOkP K G' e kvs xs := ⟨h.1.up s, h.2⟩
theorem KOkP.nil : KOkP K G e [] [] := ⟨.nil, fun x hx => (nomatch hx)⟩
def EvP (K : PySem.W.Frag) (te : TE) (σ : St) (G M M' : Hp) (e : β → Dat) (xs : List ((Str × Str) × β)) : Prop :=
  ∀ G0 H, Same G G0 → Ok G0 M H → ∀ Q : VK, (∀ p kvs G' H', Same G0 G' → Ok G' (upd M' p (.dT kvs)) H' → M' p = none → KOkP K G' e kvs xs → Q (.ref p) H') → te σ H Q
theorem EvP.ev {xs : List ((Str × Str) × β)} (h : EvP K te σ G M M1 e xs) : Ev te σ G M M1 (DD K (eDP e xs)) := fun G0 H s k Q q =>
  h G0 H s k Q fun p kvs G' H' s' k' hp hd => q _ (upd G' p (.dT kvs)) H' (s'.trans (Same.new k'.gp)) (k'.frz hp) (eDP_of upd_same (hd.1.up (Same.new k'.gp)) hd.2)
theorem ep_new : EvP K tDNewT σ G M M e [] := fun G0 H s k Q q p hp => q p [] G0 _ (Same.refl _) (k.newM _ hp) (Same.none k.m hp) KOkP.nil
theorem okP_of {v : V} {k : Str × Str} (h : Dq K G v (.rtup [.str k.1, .str k.2])) : okP k := by
  cases h with
  | rtup _ z =>
    cases z with
    | cons z1 z2 =>
      cases z2 with
      | cons z2 _ => exact ⟨(dq_str z1).2, (dq_str z2).2⟩
theorem ev_dget2OP {xs : List ((Str × Str) × β)} {k : Str × Str} {z : β} {p : Addr} {kvs : List (List Key × V)} (hp0 : M1 p = some (.dT kvs)) (hp : M3 p = some (.dT kvs)) (hd : KOkP K G e kvs xs) (ho : Ev ta σ G M M1 (OW p)) (hk : Ev tb σ G M1 M2 (DD K (.rtup [.str k.1, .str k.2]))) (hz : Ev tc σ G M2 M3 (DD K (e z))) : Ev (tDGet2 ta tb tc) σ G M M3 (DD K (e (getD' xs k z))) := fun G0 H s kk Q q =>
  ho G0 H s kk _ fun x G1 H1 s1 k1 hx => by
    cases hx
    refine ⟨p, rfl, .inr ⟨kvs, .inl (k1.m _ _ hp0)⟩, hk G1 H1 (s.trans s1) k1 _ fun y G2 H2 s2 k2 hy => hz G2 H2 ((s.trans s1).trans s2) k2 _ fun w G3 H3 s3 k3 hw => ?_⟩
    obtain ⟨b, rfl, hb⟩ := key_pair hy
    have s13 := s2.trans s3
    refine ⟨_, .inr ⟨kvs, kP k, b, .inl (k3.m _ _ hp), rfl, (s3.trans k3.g) _ _ hb, rfl⟩, q _ G3 H3 (s1.trans s13) k3 ?_⟩
    unfold getD'
    rcases hd.1.get kP_inj k with ⟨z1, z2⟩ | ⟨b', v, e1, e2, e3⟩
    · rw [z1, z2]; exact hw
    · rw [e1, e2]; exact dp_up ((s.trans s1).trans s13) _ e3
theorem ev_dgetOP {xs : List ((Str × Str) × β)} {k : Str × Str} {b : β} {p : Addr} {kvs : List (List Key × V)} (h : getA xs k = some b) (hp : M2 p = some (.dT kvs)) (hd : KOkP K G e kvs xs) (ho : Ev ta σ G M M1 (OW p)) (hk : Ev tb σ G M1 M2 (DD K (.rtup [.str k.1, .str k.2]))) : Ev (tDGet ta tb) σ G M M2 (DD K (e b)) := fun G0 H s kk Q q =>
  ho G0 H s kk _ fun x G1 H1 s1 k1 hx => hk G1 H1 (s.trans s1) k1 _ fun y G2 H2 s2 k2 hy => by
    cases hx
    obtain ⟨c, rfl, hc⟩ := key_pair hy
    rcases hd.1.get kP_inj k with ⟨z, _⟩ | ⟨b', v, e1, e2, e3⟩
    · rw [z] at h; cases h
    · rw [h] at e1; cases e1
      exact ⟨p, v, rfl, .inr ⟨kvs, kP k, c, .inl (k2.m _ _ hp), rfl, k2.g _ _ hc, e2.symm⟩, q v G2 H2 (s1.trans s2) k2 (dp_up ((s.trans s1).trans s2) _ e3)⟩
theorem q_setP {i : Nat} {σ' : V → St} {xs : List ((Str × Str) × β)} (he : EvP K te σ G M M1 e xs) (ok : Ok G M H) (hσ : ∀ v, σ.set i (some v) = σ' v) (k : ∀ p kvs G' H', Same G G' → Ok G' (upd M1 p (.dT kvs)) H' → M1 p = none → KOkP K G' e kvs xs → u D (σ' (.ref p)) H') : tSeq (tAsg te (gName i)) u D σ H :=
  he G H (Same.refl _) ok _ fun p kvs G1 H1 s1 k1 hp hv => by
    show u D (σ.set i (some (.ref p))) H1
    rw [hσ]
    exact k p kvs G1 H1 s1 k1 hp hv
/-- d[(a, b)] = v -/
theorem q_dputP {p : Addr} {kvs : List (List Key × V)} {xs ys : List ((Str × Str) × β)} {k : Str × Str} {b : β} (hy : dputO xs k b = some ys) (hv : Ev te σ G M M1 (DD K (e b))) (ho : Ev ta σ G M1 M1 (OW p)) (hk : Ev tb σ G M1 M2 (DD K (.rtup [.str k.1, .str k.2]))) (hp : M2 p = some (.dT kvs)) (hd : KOkP K G e kvs xs) (ok : Ok G M H)
    (kk : ∀ kvs' G' H', Same G G' → Ok G' (upd M2 p (.dT kvs')) H' → KOkP K G' e kvs' ys → u D σ H') : tSeq (sDPut ta tb te) u D σ H :=
  hv G H (Same.refl _) ok _ fun v G1 H1 s1 k1 hw => ho G1 H1 s1 k1 _ fun x G2 H2 s2 k2 hx => hk G2 H2 (s1.trans s2) k2 _ fun y G3 H3 s3 k3 hyk => by
    obtain ⟨_, h1, h2⟩ := bs hy
    cases h2
    cases hx
    have sk := okP_of hyk
    obtain ⟨c, rfl, hc⟩ := key_pair hyk
    have s03 := (s1.trans s2).trans s3
    refine ⟨p, _, rfl, DPut.t (k := kP k) (k3.m _ _ hp) (k3.g _ _ hc) (by rw [hd.1.len, sizeLine_eq]; exact grd_of h1), ?_⟩
    exact kk _ G3 _ s03 (k3.chg _ hp) ⟨(hd.1.up s03).put kP_inj k (dp_up (s2.trans s3) _ hw), putA_keys hd.2 sk⟩
theorem ex_P {tr : TA} {R : Addr → List (List Key × V) → List V → Hp → Hp → Prop} {xs : List ((Str × Str) × β)} (ha : EvP K ta σ G M M1 e xs) (hr : ∀ p ws, M1 p = none → EvX tr σ G (upd M1 p (.dT ws)) (R p ws)) :
    EvX (tCons ta tr) σ G M fun vs G' M' => ∃ p ws r, vs = .ref p :: r ∧ M1 p = none ∧ KOkP K G' e ws xs ∧ R p ws r G' M' := fun G0 H s k Q q =>
  ha G0 H s k _ fun p ws G1 H1 s1 k1 hp hd => hr p ws hp G1 H1 (s.trans s1) k1 _ fun xs G2 M2 H2 s2 k2 hy => q (.ref p :: xs) G2 M2 H2 (s1.trans s2) k2 ⟨p, ws, xs, rfl, hp, hd.up s2, hy⟩
end
end Kx

end

section
set_option maxHeartbeats 2000000
namespace Kx
open PySem L2
/-! ### a dict is locked for a statement -/
structure Sw (G G' : Hp) : Prop where
  lst : ∀ a xs, G a = some (.lst xs) → G' a = some (.lst xs)
  tup : ∀ a xs, G a = some (.tup xs) → G' a = some (.tup xs)
  ftup : ∀ a o xs, G a = some (.frz o (.tup xs)) → G' a = some (.frz o (.tup xs))
  ins : ∀ a C dx fs, G a = some (.ins C dx fs) → G' a = some (.ins C dx fs)
  dK : ∀ a kvs, Rd G a (.dK kvs) → Rd G' a (.dK kvs)
  dT : ∀ a kvs, Rd G a (.dT kvs) → Rd G' a (.dT kvs)
section
variable {K : PySem.W.Frag} {G G' : Hp}
mutual
theorem dq_sw (s : Sw G G') : ∀ (d : Dat) {v : V}, Dq K G v d → Dq K G' v d
  | .none, _, h => by cases h; exact .non
  | .bool b, _, h => by cases h; exact .bl b
  | .int i, _, h => by cases h; exact .int i
  | .str x, _, h => by cases h with | str h => exact .str h
  | .list ds, _, h => by
    cases h with
    | lst a b => exact .lst (s.lst _ _ a) (dqAll_sw s ds b)
  | .tuple ds, _, h => by
    cases h with
    | tup a b =>
      refine .tup ?_ (dqAll_sw s ds b)
      rcases a with ⟨o, a, hd⟩ | a
      · exact .inl ⟨o, s.ftup _ _ _ a, hd⟩
      · exact .inr a
  | .rtup ds, _, h => by
    cases h with
    | rtup a b => exact .rtup (s.tup _ _ a) (dqAll_sw s ds b)
  | .dK ks ds, _, h => by
    cases h with
    | dK a b c d => exact .dK (s.dK _ _ a) b c (dqAll_sw s ds d)
  | .dT ks ds, _, h => by
    cases h with
    | dT a b c d => exact .dT (s.dT _ _ a) b c (dqAll_sw s ds d)
  | .ins C ns ds, _, h => by
    cases h with
    | ins a b c => exact .ins (s.ins _ _ _ _ a) b (dqAll_sw s ds c)
theorem dqAll_sw (s : Sw G G') : ∀ (ds : List Dat) {vs : List V}, DqAll K G vs ds → DqAll K G' vs ds
  | [], _, h => by cases h; exact .nil
  | d :: ds, _, h => by
    cases h with
    | cons a b => exact .cons (dq_sw s d a) (dqAll_sw s ds b)
end
end
def isDO (u : HO) : Prop := (∃ kvs, u = .dK kvs) ∨ ∃ kvs, u = .dT kvs
theorem sw_lock {G : Hp} {d : Addr} {u : HO} {o : Obj} (hu : isDO u) (h : G d = some u) : Sw G (upd G d (.frz o u)) := by
  have ne : ∀ {a w}, G a = some w → w ≠ u → a ≠ d := fun e n z => by subst z; rw [h] at e; exact n (Option.some.inj e).symm
  have keep : ∀ {a w}, G a = some w → w ≠ u → (upd G d (.frz o u)) a = some w := fun e n => by rw [upd_ne (ne e n)]; exact e
  refine ⟨fun a xs e => keep e ?_, fun a xs e => keep e ?_, fun a o xs e => keep e ?_, fun a C dx fs e => keep e ?_, fun a kvs e => ?_, fun a kvs e => ?_⟩
  · rcases hu with ⟨_, rfl⟩ | ⟨_, rfl⟩ <;> exact fun z => nomatch z
  · rcases hu with ⟨_, rfl⟩ | ⟨_, rfl⟩ <;> exact fun z => nomatch z
  · rcases hu with ⟨_, rfl⟩ | ⟨_, rfl⟩ <;> exact fun z => nomatch z
  · rcases hu with ⟨_, rfl⟩ | ⟨_, rfl⟩ <;> exact fun z => nomatch z
  · rcases e with e | ⟨o', e⟩
    · by_cases q : a = d
      · subst q
        rw [h] at e
        cases e
        exact .inr ⟨o, upd_same⟩
      · exact .inl (by rw [upd_ne q]; exact e)
    · exact .inr ⟨o', keep e (by rcases hu with ⟨_, rfl⟩ | ⟨_, rfl⟩ <;> exact fun z => nomatch z)⟩
  · rcases e with e | ⟨o', e⟩
    · by_cases q : a = d
      · subst q
        rw [h] at e
        cases e
        exact .inr ⟨o, upd_same⟩
      · exact .inl (by rw [upd_ne q]; exact e)
    · exact .inr ⟨o', keep e (by rcases hu with ⟨_, rfl⟩ | ⟨_, rfl⟩ <;> exact fun z => nomatch z)⟩
theorem sw_unlock {G : Hp} {d : Addr} {u : HO} {o : Obj} (hu : isDO u) (h : G d = some (.frz o u)) : Sw G (upd G d u) := by
  have ne : ∀ {a w}, G a = some w → w ≠ .frz o u → a ≠ d := fun e n z => by subst z; rw [h] at e; exact n (Option.some.inj e).symm
  have keep : ∀ {a w}, G a = some w → w ≠ .frz o u → (upd G d u) a = some w := fun e n => by rw [upd_ne (ne e n)]; exact e
  refine ⟨fun a xs e => keep e (fun z => nomatch z), fun a xs e => keep e (fun z => nomatch z), fun a o' xs e => keep e ?_, fun a C dx fs e => keep e (fun z => nomatch z), fun a kvs e => ?_, fun a kvs e => ?_⟩
  · rcases hu with ⟨_, rfl⟩ | ⟨_, rfl⟩ <;> (intro z; cases z)
  · rcases e with e | ⟨o', e⟩
    · exact .inl (keep e (fun z => nomatch z))
    · by_cases q : a = d
      · subst q
        rw [h] at e
        cases e
        exact .inl upd_same
      · exact .inr ⟨o', by rw [upd_ne q]; exact e⟩
  · rcases e with e | ⟨o', e⟩
    · exact .inl (keep e (fun z => nomatch z))
    · by_cases q : a = d
      · subst q
        rw [h] at e
        cases e
        exact .inl upd_same
      · exact .inr ⟨o', by rw [upd_ne q]; exact e⟩
section
variable {σ : St} {G M H : Hp} {D : Ends} {u : TS} {t : TS}
/-- the statement t with the dict at d locked -/
theorem q_lock {d : Addr} {u0 : HO} (hG : G d = some u0) (hu : isDO u0) (ok : Ok G M H)
    (k : ∀ (od : Obj) (D' : Ends), (∀ σ' G' M' H', Same (upd G d (.frz od u0)) G' → Ok G' M' H' → (∀ G2, Sw G' G2 → Same G G2 → Ok G2 M' (upd H' d u0) → u D σ' (upd H' d u0)) → D'.nx σ' H') →
      (∀ v G' M' H', Same (upd G d (.frz od u0)) G' → Ok G' M' H' → (∀ G2, Sw G' G2 → Same G G2 → Ok G2 M' (upd H' d u0) → D.rt v (upd H' d u0)) → D'.rt v H') →
      Sw G (upd G d (.frz od u0)) → Ok (upd G d (.frz od u0)) M (upd H d (.frz od u0)) → t D' σ (upd H d (.frz od u0))) : tSeq (tLock t) u D σ H := by
  have hM : M d = none := by
    cases e : M d with
    | none => rfl
    | some w => have := ok.d d w e; rw [hG] at this; cases this
  refine ⟨d, u0, ok.g _ _ hG, by rcases hu with ⟨_, rfl⟩ | ⟨_, rfl⟩ <;> exact trivial, fun od => ?_⟩
  have back : ∀ {G' M' H' : Hp}, Same (upd G d (.frz od u0)) G' → Ok G' M' H' → H' d = some (.frz od u0) ∧ Sw G' (upd G' d u0) ∧ Same G (upd G' d u0) ∧ Ok (upd G' d u0) M' (upd H' d u0) := fun {G' M' H'} s o => by
    have gd : G' d = some (.frz od u0) := s d _ upd_same
    refine ⟨o.g _ _ gd, sw_unlock hu gd, fun a w e => ?_, fun a w e => ?_, fun a w e => ?_, fun a w e => ?_, o.mu⟩
    · by_cases q : a = d
      · subst q; rw [upd_same]; rw [hG] at e; exact e
      · rw [upd_ne q]; exact s a w (by rw [upd_ne q]; exact e)
    · by_cases q : a = d
      · subst q; rw [upd_same] at e ⊢; exact e
      · rw [upd_ne q] at e ⊢; exact o.g a w e
    · have q : a ≠ d := fun z => by subst z; have := o.d a w e; rw [gd] at this; cases this
      rw [upd_ne q]; exact o.m a w e
    · have q : a ≠ d := fun z => by subst z; have := o.d a w e; rw [gd] at this; cases this
      rw [upd_ne q]; exact o.d a w e
  refine k od _ (fun σ' G' M' H' s o kk => ?_) (fun v G' M' H' s o kk => ?_) (sw_lock hu hG) ?_
  · obtain ⟨b1, b2, b3, b4⟩ := back s o
    exact ⟨b1, kk _ b2 b3 b4⟩
  · obtain ⟨b1, b2, b3, b4⟩ := back s o
    exact ⟨b1, kk _ b2 b3 b4⟩
  · refine ⟨fun a w e => ?_, fun a w e => ?_, fun a w e => ?_, ok.mu⟩
    · by_cases q : a = d
      · subst q; rw [upd_same] at e ⊢; exact e
      · rw [upd_ne q] at e ⊢; exact ok.g a w e
    · have q : a ≠ d := fun z => by subst z; rw [hM] at e; cases e
      rw [upd_ne q]; exact ok.m a w e
    · have q : a ≠ d := fun z => by subst z; rw [hM] at e; cases e
      rw [upd_ne q]; exact ok.d a w e
end
end Kx

end

section
set_option maxHeartbeats 2000000
namespace Kx
open PySem L2 PySem.Spec PyProof.Rows
/-! ### for (k, v) in d.items(), d a locked dict by tuples -/
section
variable {X : Cx} {pins : List (Addr × Obj)} {σ : L2.St} {H : Hp} {s : Shared} {d : Addr} {o : Obj}
theorem frzT2 {kvs : List (List Key × V)} (I : Inv X pins σ H s) (h : H d = some (.frz o (.dT kvs))) :
    (d == sysModules) = false ∧ s.heap.get? d = some o ∧ o.ExactDict ∧ ∃ (es : Array DictEntry) (ep : Nat), o.data = .dict es ep ∧ es.size = kvs.length ∧
      ∀ (i : Nat) (k : List Key) (v : V), kvs[i]? = some (k, v) → ∃ (en : DictEntry) (q : Addr), es[i]? = some en ∧ en.key = .ref q ∧ H q = some (.tup (k.map kV)) ∧ RelV v en.val := by
  obtain ⟨hd, z, hs, xs, pr, o', es, ep, ho, hx, hdt, he, _⟩ := I.hok d _ h
  rw [hd] at ho
  cases ho
  refine ⟨hs, hd, hx, es, ep, hdt, ?_, fun i k v e => ?_⟩
  · have l1 : es.size = xs.length := size_of_entries he
    have l2 : kvs.length = xs.length := Paired.length pr
    omega
  · obtain ⟨b, hb, e1, e2, e3⟩ := paired_get pr e
    have q := entry_at he i
    rw [hb] at q
    exact ⟨_, b.2.1, q, rfl, e2, e3⟩
end
def Itit (d : Addr) (o : Obj) (kvs : List (List Key × V)) : It :=
  ⟨fun i H => H d = some (.frz o (.dT kvs)) ∧ i < kvs.length, fun i H x H' => ∃ T k v q, kvs[i]? = some (k, v) ∧ x = .ref T ∧ H T = none ∧ H q = some (.tup (k.map kV)) ∧ H' = upd H T (.tup [.ref q, v]), fun i H => H d = some (.frz o (.dT kvs)) ∧ kvs.length ≤ i⟩
section
variable {P : Program} {w : World} {K : PySem.W.Frag} {tg : Expr} {d : Addr} {o : Obj} {es : Array DictEntry} {ep : Nat}
theorem turn_itemsT {kvs : List (List Key × V)} {elts : List Expr} {kk : Nat} {tpos : Pos} (it : Addr) (hod : o.data = .dict es ep) :
    Turn P w K (.Tuple elts kk tpos) (Itit d o kvs) [it] it (fun i h => ∃ ok ov, IsItemIter h it d i kvs.length ep ok ov) where
  mem := by simp
  obj := fun i h st b hb => by
    have e : b = it := by simpa using hb
    subst e
    obtain ⟨ok, ov, e⟩ := st
    exact ⟨_, e, fun v z => nomatch z⟩
  keep := fun i h h' st k => let ⟨ok, ov, e⟩ := st; ⟨ok, ov, k it (by simp) _ e⟩
  item := by
    intro X hP hw hK hc i pins s σ H E I hf st hg
    subst hP hw hK
    obtain ⟨hd, hi⟩ := hg
    obtain ⟨hs, hgd, hx, es', ep', hdt, hsz, hen⟩ := frzT2 I hd
    obtain ⟨rfl, rfl⟩ := dict_ep hod hdt
    obtain ⟨⟨k, v⟩, hkv⟩ : ∃ p, kvs[i]? = some p := ⟨kvs[i], List.getElem?_eq_getElem hi⟩
    obtain ⟨en, q, he1, he2, he3, he4⟩ := hen i k v hkv
    obtain ⟨ok, ov, he⟩ := st
    have hlt : it < s.heap.objs.size := Heap.lt_size he
    have hie : i < es'.size := by omega
    have een : es'[i] = en := by
      rw [Array.getElem?_eq_getElem hie] at he1
      exact Option.some.inj he1
    rw [← hsz] at he
    refine wpAny_pyNext_items_item_raw he ⟨o, hgd, hx, hdt⟩ hie fun h' ho hT hz hk => ?_
    refine ⟨_, rfl, wpAny_letOwnedTupleGo_items (s := { s with heap := h' }) ho fun h'' he' sb => ?_⟩
    have hT2 : h''.get? s.heap.objs.size = some { cls := .type "tuple", data := .seq #[es'[i].key, es'[i].val] } := (sb.2 _ (Nat.ne_of_gt hlt)).trans hT
    rw [een, he2] at hT2
    have new : ObjOk X.prog X.w (upd H s.heap.objs.size (.tup [.ref q, v])) h'' s.heap.objs.size (.tup [.ref q, v]) :=
      ⟨by show 2 ≤ sizeLine; decide, [.ref q, en.val], .cons rfl (.cons he4 .nil), ⟨_, hT2, rfl, _, rfl⟩⟩
    have I1 : Inv X pins σ (upd H s.heap.objs.size (.tup [.ref q, v])) { s with heap := h'' } :=
      I.turnedNew (t' := s.toks) (ch := [it]) (fun b ob hb e => (sb.2 b (by simpa using hb)).trans (hk b ob (by simpa using hb) e)) hf (Nat.le_refl _) new
    refine ⟨.ref s.heap.objs.size, _, I1, rfl, ⟨_, k, v, q, hkv, rfl, I.hok.fresh (Nat.le_refl _), he3, rfl⟩, ⟨es'[i].key, es'[i].val, ?_⟩, fun b hb => ?_⟩
    · rw [← hsz]; exact he'
    · have e : b = it := by simpa using hb
      rw [e, upd_ne (Nat.ne_of_lt hlt)]
      exact (hf it (by simp)).1
  done := by
    intro X hP hw hK hc i pins s σ H E I hf st hg
    subst hP hw hK
    obtain ⟨hd, hi⟩ := hg
    obtain ⟨f0, f1, f2, f3, f4, f5⟩ := hf it (by simp)
    obtain ⟨hs, hgd, hx, es', ep', hdt, hsz, hen⟩ := frzT2 I hd
    obtain ⟨rfl, rfl⟩ := dict_ep hod hdt
    obtain ⟨ok, ov, he⟩ := st
    rw [← hsz] at he
    exact wpAny_pyNext_items_end_raw (I.ok.hd hc) he ⟨o, hgd, hx, hdt⟩ (by omega) fun h' eb => ⟨rfl, I.turned (t' := s.toks) (fun b ob hb e => eb b ob hb e) f0 f1 f3 f4 f5⟩
  self := fun A i s Q E st h => let ⟨_, _, e⟩ := st; PySem.W.kcp_self e h
end
def iItemsT (td : TE) : TI := fun σ H R => td σ H fun x H1 => ∃ d o kvs, x = .ref d ∧ H1 d = some (.frz o (.dT kvs)) ∧ R (Itit d o kvs) H1
section
variable {X : Cx} {e : Expr} {td : TE} {apos cpos : Pos}
theorem pi_itemsT {elts : List Expr} {kk : Nat} {tpos : Pos} (he : PE X e td) (hbase : attributeBase e "items" X.env (eval e X.env) = eval e X.env := by rfl) (hline : (apos.endLine == cpos.line) = true := by rfl) :
    PI X (.Tuple elts kk tpos) (.Call (.Attribute e "items" apos) [] [] cpos) (iItemsT td) := by
  refine ⟨fun pins s σ H R I h => ?_⟩
  refine wpAny_Call_method (T := "dict") (id := "dict.items") hbase rfl hline PySem.F.plainAttrs_dict PySem.F.slot_dict_items PySem.F.type_dict_items (thn (he.run pins s σ H _ I h) fun u s1 ⟨x, H1, I1, rx, d, o, kvs, ex, hd, q⟩ => ?_)
  subst ex
  obtain rfl : u = Value.ref d := rx
  obtain ⟨hs, hgd, hx, es, ep, hdt, hsz, hen⟩ := frzT2 I1 hd
  have hr : s1.heap.DictRaw d es ep := ⟨o, hgd, hx, hdt⟩
  refine ⟨hr.typeIs, fun b q => by cases q; exact ⟨o, hgd, hx.2.1⟩, ?_⟩
  have I2 : Inv X pins σ H1 { s1 with heap := s1.heap.push { cls := .type "dict_items", data := .fields #[.ref d] } } := I1.kept (t' := s1.toks) fun b ob q => Heap.get?_push_of_some _ q
  have fin : wpAny (model X.prog X.w) X.A (pyIter (.ref s1.heap.objs.size)) (PIE X pins σ (.Tuple elts kk tpos) R) X.xe { s1 with heap := s1.heap.push { cls := .type "dict_items", data := .fields #[.ref d] } } := by
    refine wpAny_pyIter_items_raw (d := d) ⟨_, Heap.get?_push_size _ rfl, rfl, rfl⟩ (hr.at fun ob q => Heap.get?_push_of_some _ q) (pi_one (tk := s1.toks) I2 _ (turn_itemsT _ hdt) ⟨.none, .none, ?_⟩ q)
    rw [← hsz]
    exact Heap.get?_push_size _ rfl
  show wpAny _ _ (callWith cpos (.builtin "dict.items") [.ref d] [] []) _ X.xe s1
  exact method_meetsIn PySem.F.slot_dict_items PySem.F.entry_dict_items rfl (PySem.evalArgs_none ⟨rfl, hr.typeIs, PySem.F.args_dict_items_1 _, _, meets_dict_items_raw d hs, ⟨es, ep, hr⟩, fin⟩)
end
end Kx

end

section
set_option maxHeartbeats 2000000
namespace Kx
open PySem L2
section
variable {β : Type} {K : PySem.W.Frag} {σ σ' : St} {G G' M M1 M2 M3 : Hp} {ta tb te tc tk tv : TE} {e : β → Dat}
theorem KRel.at' {α κ : Type} {f : α → κ} {kvs : List (κ × V)} {xs : List (α × β)} (h : KRel K G f e kvs xs) : ∀ {i : Nat} {x : α × β} {p : κ × V}, xs[i]? = some x → kvs[i]? = some p → p.1 = f x.1 ∧ Dq K G p.2 (e x.2) := by
  induction h with
  | nil => intro i x p hx; simp at hx
  | @cons k v b kvs xs a _ ih =>
    intro i x p hx hp
    cases i with
    | zero =>
      simp at hx hp
      subst hx; subst hp
      exact ⟨rfl, a⟩
    | succ i => exact ih (by simpa using hx) (by simpa using hp)
theorem walk_itemsT {d : Addr} {o : Obj} {kvs : List (List Key × V)} : Walk (Itit d o kvs) kvs.length (fun H => H d = some (.frz o (.dT kvs))) (fun i H x H' => ∃ T k v q, kvs[i]? = some (k, v) ∧ x = .ref T ∧ H T = none ∧ H q = some (.tup (k.map kV)) ∧ H' = upd H T (.tup [.ref q, v])) :=
  ⟨fun _ _ hi q => ⟨q, hi⟩, fun _ q => ⟨q, Nat.le_refl _⟩, fun _ _ _ _ _ _ y => y⟩
/-- the items of a locked dict by pairs of texts -/
theorem src_itemsT {d : Addr} {o : Obj} {kvs : List (List Key × V)} {xs : List ((Str × Str) × β)} (hd : G d = some (.frz o (.dT kvs))) (r : KRel K G kP e kvs xs) (ok : ∀ x ∈ xs, okP x.1) (he : Ev te σ G M M1 (OW d)) : Src K (iItemsT te) σ G M M1 (xs.map (eR2 (eR2 Dat.str Dat.str) e)) := fun G0 H s k R q =>
  he G0 H s k _ fun x G1 H1 s1 k1 hx => by
    cases hx
    have s01 := s.trans s1
    refine ⟨d, o, kvs, rfl, k1.g _ _ (s01 _ _ hd), q _ G1 H1 s1 k1 ?_⟩
    refine ⟨_, _, (show (xs.map (eR2 (eR2 Dat.str Dat.str) e)).length = kvs.length by rw [List.length_map, r.len]) ▸ walk_itemsT, fun H2 s2 => s2 _ _ (s01 _ _ hd), fun i x H2 v H3 G2 M2 hi s2 k2 y => ?_⟩
    obtain ⟨T, ks, w, q, hk, rfl, hT, hq, rfl⟩ := y
    rw [List.getElem?_map] at hi
    obtain ⟨y, hy, rfl⟩ := Option.map_eq_some_iff.mp hi
    obtain ⟨e1, e2⟩ := r.at' hy hk
    have ek : ks = kP y.1 := e1
    subst ek
    -- the key's tuple stands still
    have hMq : M2 q = none := by
      cases e : M2 q with
      | none => rfl
      | some w' =>
        have h1 := k2.m _ _ e
        rw [hq] at h1
        cases h1
        exact (k2.mu _ _ e).elim
    have nq : q ≠ T := ne_of_none hq hT
    have okq := ok y (List.mem_of_getElem? hy)
    have kq : Ok (upd G2 q (.tup ((kP y.1).map kV))) M2 H2 := by
      refine ⟨fun a u e => ?_, k2.m, fun a u e => ?_, k2.mu⟩
      · by_cases ha : a = q
        · subst ha; rw [upd_same] at e; rw [hq]; exact e
        · rw [upd_ne ha] at e; exact k2.g a u e
      · have ha : a ≠ q := fun z => by subst z; rw [hMq] at e; cases e
        rw [upd_ne ha]; exact k2.d a u e
    have s23 : Same G2 (upd G2 q (.tup ((kP y.1).map kV))) := fun a u e => by
      by_cases ha : a = q
      · subst ha
        rw [upd_same]
        have := k2.g _ _ e
        rw [hq] at this
        exact this
      · rw [upd_ne ha]; exact e
    have gT : (upd G2 q (.tup ((kP y.1).map kV))) T = none := Same.none kq.g hT
    have s34 : Same (upd G2 q (.tup ((kP y.1).map kV))) (upd (upd G2 q (.tup ((kP y.1).map kV))) T (.tup [.ref q, w])) := Same.new gT
    refine ⟨_, s23.trans s34, kq.newG _ hT, .rtup upd_same (.cons ?_ (.cons (dp_up ((s01.trans s2).trans (s23.trans s34)) _ e2) .nil))⟩
    exact .rtup (xs := [.str y.1.1, .str y.1.2]) (by rw [upd_ne nq, upd_same]; rfl) (.cons (.str okq.1) (.cons (.str okq.2) .nil))
end
end Kx

end

section
set_option maxHeartbeats 2000000
namespace Kx
open PySem L2 PySem.Spec PyProof.Rows

/-! ### promises where no repr is under way: repr of data can be told -/
/-- as FnOk, asked only where no guard is known to be under way -/
structure FnOkG (P : Program) (w : World) (K : PySem.W.Frag) (mg : Str → Option Value) (base : Heap) (CX : CXT) (k : Nat) (f : Addr) (fd : FuncData) (ps : List Str) (sp : Sp) : Prop where
  len : ∀ vs H Q E, sp vs H Q E → vs.length = ps.length
  run : ∀ (A : Around) (out : List Env) (s : Shared) (H : Hp) (ar : Args) (us : List Value) (vs : List V) (Q : VK) (E : XK), A.guards = some [] → Room k A → Env0 P w K mg base A out s H → BindsTo s fd ar (ps.zip us) → Vals vs us →
    sp vs H Q E → codeAny (model P w) A (.call (.ref f) ar) (CR CX out P w H s Q E) s
section
variable {P : Program} {w : World} {K : PySem.W.Frag} {mg : Str → Option Value} {base : Heap} {CX : CXT} {k : Nat} {f : Addr} {fd : FuncData} {ps : List Str} {sp : Sp}
theorem fnG (F : FnOk P w K mg base CX k f fd ps sp) : FnOkG P w K mg base CX k f fd ps sp := ⟨F.len, fun A out s H ar us vs Q E _ => F.run A out s H ar us vs Q E⟩
/-- the rule for a def of the text, its body with the guards known -/
theorem okG {x qual : Str} {st : Stmt} {N : List Str} (F : Fun K x qual st f fd) (S : FnScope N ps (defScope st)) (len : ∀ vs H Q E, sp vs H Q E → vs.length = ps.length)
    (hb : ∀ (cdv : Value) (A : Around) (out : List Env) (s : Shared) (H : Hp) (vs : List V) (Q : VK) (E : XK), Room k (A.deeper (envOfC qual (defScope st) s.heap.objs.size f cdv)) → (A.deeper (envOfC qual (defScope st) s.heap.objs.size f cdv)).guards = some [] → sp vs H Q E →
      ∃ t, PSs (cxOf CX0 P w K mg base N qual (defScope st) f cdv A out s H E).nox (defBody st) t ∧ t { nx := fun _ H' => Q .non H', rt := Q } (start N vs) H) : FnOkG P w K mg base CX0 (k + 1) f fd ps sp := by
  obtain ⟨oc, od, kV, doc, pm, an, cdv, ct, osl, rfl, lk, hcd⟩ := F.ex
  refine ⟨len, fun A out s H ar us vs Q E hgd hr en hbt rel hsp => ?_⟩
  have old : ∀ b o, base.get? b = some o → s.heap.get? b = some o := fun b o e => (en.bs b o e).1
  have kin : K.In s.heap := en.mod.kin.keeps old
  obtain ⟨t, ht, hq⟩ := hb cdv A out s H vs Q E (hr.deeper _) (by show A.guards = some []; exact hgd) hsp
  refine codeAny_call_function hr.depth (kin _ _ lk) rfl S.co S.gen rfl (PySem.W.codeRec_of kin hcd) (hbt _ _ _ _ (wpAny_newFunctionEnv_cells S.kind (fun ⟨n, v⟩ hy => ?_) fun env he s1 x => ?_))
  · rcases S.par n (List.of_mem_zip hy).1 with c | c
    · exact .inl c
    · exact .inr ⟨c, PySem.W.cellsFrom_some _ _ _ (.inl c)⟩
  · subst he
    refine ⟨(en.mod.nolimit.keeps old).keeps x.toInCall.keep, codeAny_func ?_⟩
    refine wpAny_mono (ht.nox.run [] s1 (start N vs) H _ (inv_start S hr.hd en (len _ _ _ _ hsp) rel x) hq) (fun fl s' hs => ?_) fun _ _ hs => hs
    cases fl with
    | ret u => exact (fun ⟨v, _, H', J, rv, q⟩ => ⟨v, H', J.os, J.bare, J.base, J.hok, rv, q⟩) hs
    | next => exact (fun ⟨_, H', J, q⟩ => ⟨V.non, H', J.os, J.bare, J.base, J.hok, rfl, q⟩) hs
    | brk => exact (fun ⟨_, _, _, q⟩ => q.elim) hs
    | cont => exact (fun ⟨_, _, _, q⟩ => q.elim) hs
end
section
variable {X : Cx} {CX : CXT} {k : Nat} {f : Addr} {fd : FuncData} {ps : List Str} {sp : Sp} {dvs : List V} {ds : List Value} {E : XK} {x : Str} {p pos : Pos} {e : Expr} {es : List Expr} {t : TA}
theorem pe_callG (F : FnOkG X.prog X.w X.K X.mg X.base CX k f fd ps sp) (hgd : X.A.guards = some []) (hr : Room k X.A) (hg : Gl X x) (hm : X.mg x = some (.ref f)) (hk : PySem.W.keepIn X.K (.ref f) = true) (hb : Binds X.K fd ps ds) (hd : Vals dvs ds) (hx : Passes CX X E)
    (ha : PA X (e :: es) t) (hdb : (x == ("__debug__" : Str)) = false := by decide) (he : starEach (e :: es) X.env = (false, eval e X.env) :: starEach es X.env := by rfl) (hpl : (backTo pos (starEach es X.env)).any (·.1) = false := by rfl) :
    PE X (.Call (.Name x p) (e :: es) [] pos) (tCall sp dvs E t) := by
  refine ⟨fun pins s σ H Q I h => wpAny_Call_Name_kw (ld_glob I hg hm ?_ hdb)⟩
  refine PySem.W.callWith_K (h₀ := X.base) I.ok.mod.kin hk (thn (ha.run pos pins s σ H _ I h) fun us s1 ⟨vs, H1, J, r, q⟩ => ⟨J.kIn, ?_⟩) he hpl
  have rr : Vals (vs ++ dvs) (us ++ ds) := r.append hd
  refine wpAny_call (codeAny_mono (F.run X.A X.stack s1 H1 ⟨us, []⟩ (us ++ ds) (vs ++ dvs) Q E hgd hr J.env0 (hb s1 us J.kIn (by rw [← rr.length]; exact F.len _ _ _ _ q)) rr q) fun rs s' hq => ?_)
  cases rs with
  | error e => exact hx pins σ H1 s1 e s' J hq
  | ok fl =>
    cases fl with
    | ret u => exact J.after hq
    | next => exact hq.elim
    | brk => exact hq.elim
    | cont => exact hq.elim
end
end Kx

end

section
set_option maxHeartbeats 2000000
namespace Kx
open PySem L2 PySem.Spec PyProof.Rows

/-! ### repr of data -/
/-- the signs of a text are signs -/
def sgn (x : Str) : Prop := ∀ c ∈ x.cps.toList, c < 0x110000
theorem sgn_sok {x : Str} : sgn x ↔ sok x = true := by
  unfold sgn sok PyData.strOk
  rw [Array.all_eq_true']
  simp
theorem sgn_app {x y : Str} (h : sgn x) (h2 : sgn y) : sgn (x ++ y) := fun c hc => by
  have e : (x ++ y).cps.toList = x.cps.toList ++ y.cps.toList := by
    show (x.cps ++ y.cps).toList = _
    simp
  rw [e] at hc
  rcases List.mem_append.mp hc with h' | h'
  · exact h c h'
  · exact h2 c h'
theorem sgn_ofString (s : String) : sgn (Str.ofString s) := fun c hc => by
  rw [Str.ofString_eq_toList] at hc
  obtain ⟨ch, _, rfl⟩ := List.mem_map.mp (by simpa using hc)
  have := ch.valid
  unfold UInt32.isValidChar Nat.isValidChar at this
  show ch.val.toNat < _
  omega
theorem sgn_hex (n : Nat) : ∀ c ∈ (Nat.toDigits 16 n).map Char.toNat, c < 0x110000 := fun c hc => by
  obtain ⟨ch, _, rfl⟩ := List.mem_map.mp hc
  have := ch.valid
  unfold UInt32.isValidChar Nat.isValidChar at this
  show ch.val.toNat < _
  omega
theorem sgn_char {q c : Nat} (hc : c < 0x110000) : ∀ x ∈ Builtin.Str.reprChar q c, x < 0x110000 := by
  have hx : ∀ (n : Nat), ∀ x ∈ List.replicate n 48 ++ (Nat.toDigits 16 c).map Char.toNat, x < 0x110000 := fun n x hx => by
    rcases List.mem_append.mp hx with h | h
    · rw [(List.mem_replicate.mp h).2]; decide
    · exact sgn_hex c x h
  unfold Builtin.Str.reprChar
  dsimp only
  intro x h
  repeat' split at h
  all_goals first
    | (simp at h; rcases h with h | h <;> omega)
    | (simp at h; omega)
    | (rcases List.mem_append.mp h with h | h
       · (simp at h; rcases h with h | h <;> omega)
       · exact hx _ x h)
theorem sgn_repr {x : Str} (h : sgn x) : sgn (reprText x) := by
  have hq : reprQuote x < 0x110000 := by unfold reprQuote; split <;> decide
  have key : ∀ (l : List Nat) (acc : Array Nat), (∀ c ∈ l, c < 0x110000) → (∀ c ∈ acc.toList, c < 0x110000) → ∀ c ∈ (l.foldl (fun out c => out ++ (Builtin.Str.reprChar (reprQuote x) c).toArray) acc).toList, c < 0x110000 := by
    intro l
    induction l with
    | nil => intro acc _ h2; exact h2
    | cons d l ih =>
      intro acc h1 h2
      refine ih _ (fun c hc => h1 c (List.mem_cons_of_mem _ hc)) fun c hc => ?_
      rw [Array.toList_append] at hc
      rcases List.mem_append.mp hc with h' | h'
      · exact h2 c h'
      · exact sgn_char (h1 d List.mem_cons_self) c h'
  intro c hc
  unfold reprText at hc
  rw [← Array.foldl_toList] at hc
  rw [Array.toList_push] at hc
  rcases List.mem_append.mp hc with h' | h'
  · exact key _ _ h (fun c hc => by simp at hc; omega) c h'
  · simp at h'; omega
theorem sgn_join {sep : Str} (hs : sgn sep) : ∀ ts : List Str, (∀ t ∈ ts, sgn t) → sgn (Str.join sep ts)
  | [], _ => by
    unfold Str.join
    intro c hc
    simp [Str.empty] at hc
  | [x], h => by
    unfold Str.join
    exact h x List.mem_cons_self
  | x :: y :: r, h => by
    unfold Str.join
    exact sgn_app (sgn_app (h x List.mem_cons_self) hs) (sgn_join hs (y :: r) fun t ht => h t (List.mem_cons_of_mem _ ht))
mutual
theorem sgn_shown : ∀ d : PyData, d.canLay0 = true → sgn d.shown
  | .none, _ => by unfold PyData.shown; exact sgn_ofString _
  | .bool b, _ => by unfold PyData.shown; split <;> exact sgn_ofString _
  | .int i, _ => by unfold PyData.shown; exact sgn_ofString _
  | .str x, h => by
    rw [PyData.shown_str]
    exact sgn_repr (sgn_sok.mpr (by simpa [PyData.canLay0] using h))
  | .list xs, h => by
    rw [PyData.shown_list]
    exact sgn_app (sgn_app (sgn_ofString _) (sgn_join (sgn_ofString _) _ (sgn_shownAll xs (by simpa [PyData.canLay0] using h)))) (sgn_ofString _)
  | .tuple xs, h => by
    rw [PyData.shown_tuple]
    exact sgn_app (sgn_app (sgn_ofString _) (sgn_join (sgn_ofString _) _ (sgn_shownAll xs (by simpa [PyData.canLay0] using h)))) (sgn_ofString _)
  | .dict kvs, h => by simp [PyData.canLay0] at h
theorem sgn_shownAll : ∀ ds : List PyData, PyData.canLayAll0 ds = true → ∀ t ∈ PyData.shownAll ds, sgn t
  | [], _ => by unfold PyData.shownAll; intro t ht; cases ht
  | d :: ds, h => by
    have h2 : d.canLay0 = true ∧ PyData.canLayAll0 ds = true := by simpa [PyData.canLayAll0] using h
    unfold PyData.shownAll
    intro t ht
    rcases List.mem_cons.mp ht with rfl | ht
    · exact sgn_shown d h2.1
    · exact sgn_shownAll ds h2.2 t ht
end
/-- what can be shown here -/
def repOk (d : PyData) : Bool := decide (d.weight ≤ 100000) && d.intsShort 40 && d.showable && decide (d.depth ≤ 50)
def reprO (d : PyData) : Option Str := if repOk d then some d.shown else none
theorem reprO_of {d : PyData} {x : Str} (h : reprO d = some x) : repOk d = true ∧ x = d.shown := by
  unfold reprO at h
  split at h
  · next e => cases h; exact ⟨e, rfl⟩
  · cases h
theorem rep_fits {d : PyData} (h : repOk d = true) (hl : d.canLay0 = true) : d.shown.length ≤ sizeLine := by
  simp [repOk] at h
  have h2 := PyData.shown_le 40 (by decide) d (PyData.leavesShort_of_canLay0 40 d hl h.1.1.2)
  have h3 := h.1.1.1
  rw [sizeLine_eq]
  omega
def rRepr (K : PySem.W.Frag) : List V → Hp → VK → Prop := fun xs H Q => ∃ (a : Addr) (d : PyData), xs = [.ref a] ∧ Dp K H (.ref a) d ∧ d.canLay0 = true ∧ repOk d = true ∧ Q (.str d.shown) H
theorem cl_repr {X : Cx} {K : PySem.W.Frag} (hg : X.A.guards = some []) (hu : X.A.units + 64 < cLine) (hK : X.K = K) : CallR X (.builtin "repr") (rRepr K) := by
  subst hK
  intro pins s σ H xs us Q I r h
  obtain ⟨a, d, rfl, hd, hl, hk, q⟩ := h
  cases r with
  | cons r1 r2 =>
    cases r2
    obtain ⟨as, hr⟩ := Dp.reads I d _ _ hd r1
    obtain rfl := r1
    have h1 := rep_fits hk hl
    simp [repOk] at hk
    exact repr_of_reads' hr hk.1.2 (PyData.noDict_hsm (PyData.hasDict_of_canLay _ hl)) hg (by have := hk.2; omega) (fun _ _ e => e) (fun h' u tk kp => ⟨.str _, H, I.kept kp, ⟨_, rfl⟩, q⟩) h1
section
variable {K : PySem.W.Frag} {σ : L2.St} {G M M1 : Hp} {ta : TE} {d : Dat}
def seqB : Dat → Bool
  | .list _ => true
  | .tuple _ => true
  | .rtup _ => true
  | _ => false
theorem seq_ref {v : V} (hs : seqB d = true) (h : Dq K G v d) : ∃ a, v = .ref a := by
  cases h <;> first | exact ⟨_, rfl⟩ | (simp [seqB] at hs)
theorem ev_repr {x : Str} (p : pur d = true) (hs : seqB d = true) (hx : reprO (toPy d) = some x) (ha : EvA (tCons ta tNil) σ G M M1 (conP (DD K d) nilP)) : Ev (tCB (rRepr K) (tCons ta tNil)) σ G M M1 (DD K (.str x)) := fun G0 H s k Q q =>
  ha G0 H s k _ fun vs G1 H1 s1 k1 hv => by
    obtain ⟨v, ws, rfl, hv, rfl⟩ := hv
    obtain ⟨a, rfl⟩ := seq_ref hs hv
    obtain ⟨h1, rfl⟩ := reprO_of hx
    have hl := dq_lay d p hv
    exact ⟨a, toPy d, rfl, dq_dp d p (dp_up k1.g d hv), hl, h1, q _ G1 H1 s1 k1 (.str (sgn_sok.mp (sgn_shown _ hl)))⟩
end

/-! ### the law's end, from a promise that asks for no guards -/
/-- the abstract heap in which nothing stands but the script -/
theorem caller_run {P : Program} {w : World} {K : PySem.W.Frag} {mg mb : Str → Option Value} {CX : CXT} {k : Nat} {fa a : Addr} {fd : FuncData} {x : Str} {sp : Sp} {s1 : Shared} {H : Hp} {o : Obj} {its : Array Value} {n0 : Nat}
    (kx : K.In s1.heap) (gl : s1.heap.Ns mainGlobals mg) (bl : s1.heap.Ns builtinsNs mb) (bb : ∀ x : Str, x ≠ "__name__" → mb x = bootBuiltins x) (lim : s1.heap.NoLimit) (gn : s1.gens = #[]) (ha : s1.heap.get? a = some o) (hod : o.data = .seq its n0)
    (hr : Room k callerA) (F : ∀ base : Heap, K.In base → base.Ns mainGlobals mg → FnOkG P w K mg base CX k fa fd [x] sp) (bd : ∀ (s : Shared) (u : Value), BindsTo s fd ⟨[u], []⟩ [(x, u)])
    (ok : HOk P w H s1.heap) (onl : ∀ b, H b ≠ none → b = a) (own : H a ≠ none → K.lookup a = none) (q : sp [.ref a] H (fun v _ => v = .bl true) fun _ _ _ => False) :
    codeAny (model P w) callerA (.call (.ref fa) ⟨[.ref a], []⟩) (CR CX [] P w H s1 (fun v _ => v = .bl true) fun _ _ _ => False) s1 := by
  have hid : ∀ {b : Addr} {u : Obj}, s1.heap.get? b = some u → H b = none → (hidT s1.heap H).get? b = some u := fun e n => hidT_get e n
  have free : ∀ b, (H b ≠ none → False) → H b = none := fun b h => by
    cases e : H b with
    | none => rfl
    | some u => exact (h (by rw [e]; exact Option.some_ne_none u)).elim
  have dict : ∀ {b : Addr} {u : Obj} {es : Array DictEntry} {m : Nat}, s1.heap.get? b = some u → u.data = .dict es m → H b = none := fun {b u es m} e d => free b fun z => by
    have := onl b z
    subst this
    rw [ha] at e
    cases e
    rw [hod] at d
    cases d
  have ns : ∀ {b : Addr} {m : Str → Option Value}, s1.heap.Ns b m → (hidT s1.heap H).Ns b m := fun ⟨u, es, m, e, d, r⟩ => ⟨u, es, m, hid e (dict e d), d, r⟩
  have kb : K.In (hidT s1.heap H) := fun b u e => hid (kx b u e) (free b fun z => by
    have := onl b z
    subst this
    rw [own z] at e
    cases e)
  obtain ⟨mc, l1, l2⟩ := lim
  exact (F _ kb (ns gl)).run callerA [] s1 H ⟨[.ref a], []⟩ [.ref a] [.ref a] _ _ rfl hr
    ⟨rfl, ⟨kb, ns gl, ⟨mb, ns bl, bb⟩, ⟨mc, ns l1, l2⟩⟩, fun b u e => of_hidT e, Nat.le_of_eq (hidT_size _ _), trivial, fun b hb => absurd (show b ∈ ([] : List Addr) from hb) (by simp), ok, .of_eq gn⟩ (bd s1 (.ref a)) (.cons rfl .nil) q
theorem walk_ofG {l : PySem.W.OpenLaw} {n k : Nat} {q : Program} {loose : List Str} {XP : (Str → Option Value) → Heap → Prop} {YP : World → Heap → Prop} {d : DefRec} {K : Params → PySem.W.Frag} {sp : PySem.W.Frag → Sp} {x : Str}
    (hn : l.most = some n) (hn2 : n ≤ sizeLine) (hdf : d.params.defaults = []) (hr : Room k callerA) (hY : ∀ (w : World) (h : Heap), YP w h → (K w.params).In h)
    (F : ∀ (w : World) (mg : Str → Option Value) (fa : Addr) (h : Heap), (K w.params).In h → h.Ns mainGlobals mg → mg d.name = some (.ref fa) →
      ∃ fd : FuncData, (∀ (s : Shared) (u : Value), BindsTo s fd ⟨[u], []⟩ [(x, u)]) ∧ ∀ base : Heap, (K w.params).In base → base.Ns mainGlobals mg → FnOkG l.prog w (K w.params) mg base CX0 k fa fd [x] (sp (K w.params)))
    (hsp : ∀ (K : PySem.W.Frag) (H : Hp) (a : Addr) (ns : List Int), ns.length ≤ n → SqL K H a (ns.map V.int) → sp K [.ref a] H (fun v _ => v = .bl true) fun _ _ _ => False) :
    PySem.W.WalkO q loose XP YP l.row.toRowW d [] (fun f vs => PySem.call f vs) := by
  refine Att.attach_call hn hdf fun w s0 s1 mg mb fa o pm cd doc a vs ns G Y ho hd hcd hmg hobj hints hlen hg => ?_
  have kx := hY w _ Y
  obtain ⟨fd, hb, hF⟩ := F w mg fa _ kx G.T.g hmg
  have lv : vs.length = ns.length := hints.length
  have lz : ns.length ≤ sizeLine := Nat.le_trans hlen hn2
  have fin : ∀ H : Hp, HOk l.prog w H s1.heap → (∀ b, H b ≠ none → b = a) → (H a ≠ none → (K w.params).lookup a = none) → SqL (K w.params) H a (ns.map V.int) → (∀ b, H b ≠ none → H b = some (.frz { cls := .type "list", data := .seq vs.toArray } (.lst (ns.map V.int)))) →
      codeAny (model l.prog w) callerA (.call (.ref fa) ⟨[.ref a], []⟩) (fun r s' => r = .ok (.ret (.bool true)) ∧ OldK s1.heap s'.heap ∧ s'.os = s1.os ∧ AllBare s'.gens) s1 := by
    intro H ok onl own hS hf
    refine codeAny_mono (caller_run kx G.T.g G.T.b G.T.builtins G.T.nolimit hg hobj rfl hr hF hb ok onl own (hsp _ H a ns hlen hS)) fun r s' h => ?_
    rcases r with e | fl
    · exact h.elim
    · cases fl with
      | next => exact h.elim
      | brk => exact h.elim
      | cont => exact h.elim
      | ret u =>
        obtain ⟨v, H2, os, bare, un, ok2, rv, rfl⟩ := h
        have eu : u = Value.bool true := rv
        refine ⟨by rw [eu], OldK.of_keep fun b ob e => ?_, os, bare⟩
        by_cases hz : H b = none
        · exact un.keep b ob e hz (fun z => absurd (show b ∈ ([] : List Addr) from z) (by simp)) (by simp)
        · have z1 := hf b hz
          have z2 := (ok2 b _ (un.frzs b _ _ z1)).1
          have z3 := (ok b _ z1).1
          rw [e] at z3
          cases z3
          exact z2
  by_cases hk : (K w.params).lookup a = none
  · refine fin (fun b => if b = a then some (.frz { cls := .type "list", data := .seq vs.toArray } (.lst (ns.map V.int))) else none) (fun b u z => ?_) (fun b z => ?_) (fun _ => hk) (.inl (.inr ⟨_, if_pos rfl⟩)) fun b z => ?_
    · by_cases hb : b = a
      · subst hb
        have z2 := (if_pos rfl).symm.trans z
        cases z2
        exact ⟨hobj, by rw [List.length_map]; exact lz, vs, _, vals_ints hints, hobj⟩
      · have z2 := (if_neg hb).symm.trans z
        cases z2
    · by_cases hb : b = a
      · exact hb
      · exact absurd (if_neg hb) z
    · by_cases hb : b = a
      · exact if_pos hb
      · exact absurd (if_neg hb) z
  · obtain ⟨u, hu⟩ := Option.ne_none_iff_exists'.mp hk
    have e := kx a u hu
    rw [hobj] at e
    cases e
    exact fin (fun _ => none) (fun b u z => absurd z (by simp)) (fun b z => absurd rfl z) (fun z => absurd rfl z) (.inr ⟨_, vs.toArray, _, hu, rfl, rfl, rfl, by rw [List.size_toArray, lv]; exact lz, by simpa using vals_ints hints⟩) fun b z => absurd rfl z
end Kx

end

section
set_option maxHeartbeats 2000000
namespace Kx
open PySem L2

/-! ### the default of a def, an empty tuple of the text's own -/
theorem FunT.bindsE {K : PySem.W.Frag} {x qual : Str} {st : Stmt} {E0 f : Addr} {fd : FuncData} {ps : List Str} (n : Nat) (hn : n + 1 = ps.length) (F : FunT K x qual st E0 f fd)
    (h : ∀ (T : Addr) (kV doc pm : Value) (an : Option Addr) (cdv ct : Value) (us its : List Value), us.length = n → its.length = 1 →
      ∃ k, bindArgs (PySem.W.fnOf x qual (defArgs st) (defBody st) (defScope st) (.ref T) kV doc pm an cdv ct) ⟨us, []⟩ = seqItems? (.ref T) >>= k ∧ k (some its.toArray) = pure (ps.zip (us ++ its))) : Binds K fd ps [.ref E0] := by
  obtain ⟨ds, r, b⟩ := F.ex.binds1 (ps := ps) n 0 (by simp) (by simpa using hn) fun T kV doc pm an cdv ct us its hl hi => h T kV doc pm an cdv ct us its hl hi
  cases r with
  | cons r1 r2 =>
    cases r2
    cases r1
    exact b
theorem valsE {E0 : Addr} : Vals [.ref E0] [.ref E0] := .cons rfl .nil
/-- an empty tuple of the text's own -/
def NilT (K : PySem.W.Frag) (E0 : Addr) : Prop := ∃ (o : Obj) (n : Nat), K.lookup E0 = some o ∧ o.cls = .type "tuple" ∧ o.dict = none ∧ o.data = .seq #[] n
theorem nilT_dd {K : PySem.W.Frag} {E0 : Addr} {G : Hp} {α : Type} {e : α → Dat} (h : NilT K E0) : Dq K G (.ref E0) (eT e ([] : List α)) := by
  obtain ⟨o, n, h1, h2, h3, h4⟩ := h
  exact .tup (.inr ⟨o, #[], n, h1, h2, h3, h4, by simp, .nil⟩) .nil
section
variable {K : PySem.W.Frag} {C : Addr} {cn : Str} {ns : List Str} {σ : St} {G M M1 : Hp}
theorem ev_makeE {α ρ : Type} {fl : ρ → List Dat} {args : α → List V → Hp → Prop} {m : α → Option ρ} {E : XK} {t : TA} {a : α} {r : ρ} {dv : List V} {Ps : List V → Hp → Prop} (hm : m a = some r) (hE : ∀ vs G, Ps vs G → args a (vs ++ dv) G) (ha : EvA t σ G M M1 Ps) : Ev (tMake (clsAt K cn) (spI K (clsAt K cn) ns fl args m) dv E t) σ G M M1 (DD K (.ins cn ns (fl r))) := fun G0 H s k Q q =>
  ha G0 H s k _ fun vs G1 H1 s1 k1 hv x dx hx hdx hne => by
    have h2 : Ok G1 M1 (upd H1 dx (.own x)) := ⟨k1.g.trans (Same.new hdx), k1.m.trans (Same.new hdx), k1.d, k1.mu⟩
    have hx2 : (upd H1 dx (.own x)) x = none := by rw [upd_ne (fun z => hne z.symm)]; exact hx
    refine ⟨G1, M1, x, dx, vs ++ dv, a, r, rfl, h2.newM _ hx2, Same.none k1.m hx, hE vs G1 hv, hm, fun fs G2 H2 s2 k2 e1 e2 => ⟨rfl, ?_⟩⟩
    exact q _ (upd G2 x (.ins (clsAt K cn) dx fs)) H2 ((s1.trans s2).trans (Same.new k2.gp)) (k2.frz (Same.none k1.m hx)) (.ins upd_same e1 (dpAll_up (Same.new k2.gp) _ e2))
end
/-! ### a list of things of two kinds -/
theorem pur_l1 {d1 : Dat} (h1 : pur d1 = true) : pur (.list [d1]) = true := by
  simp [pur, purs, h1]
theorem pur_l2 {d1 d2 : Dat} (h1 : pur d1 = true) (h2 : pur d2 = true) : pur (.list [d1, d2]) = true := by
  simp [pur, purs, h1, h2]
theorem pur_l3 {d1 d2 d3 : Dat} (h1 : pur d1 = true) (h2 : pur d2 = true) (h3 : pur d3 = true) : pur (.list [d1, d2, d3]) = true := by
  simp [pur, purs, h1, h2, h3]
theorem pur_l4 {d1 d2 d3 d4 : Dat} (h1 : pur d1 = true) (h2 : pur d2 = true) (h3 : pur d3 = true) (h4 : pur d4 = true) : pur (.list [d1, d2, d3, d4]) = true := by
  simp [pur, purs, h1, h2, h3, h4]
end Kx

end

section
set_option maxHeartbeats 2000000
namespace Kx
open PySem L2 PySem.Spec PyProof.Rows
/-! ### a tuple so many times -/
theorem tmul_self (l : Addr) (items : Array Value) (n : Nat) (dd : Option Addr) (sl : Array (Option Value)) (x : Int) (u : Tok) (c0 : (decide (x < -(2 ^ 63)) || decide (x ≥ 2 ^ 63)) = false) (c1 : (items.isEmpty || x == 1) = true) :
    Meets (Builtin.«tuple.__mul__» ⟨[.ref l, .int x u], []⟩) (fun _ R s => s.heap.get? l = some { cls := .type "tuple", dict := dd, data := .seq items n, slots := sl } ∧ R (.ok (.ret (.ref l))) s) :=
  .of_wp fun prog w A R s h => by
    obtain ⟨hp, g, d, tk, os⟩ := s
    obtain ⟨hl, h⟩ := h
    have f1 := AutoSeq1.idx_int
    wp_walk using wpAny_loadPart' hl
    repeat (first
      | (refine wpAny_ite_false (decide_eq_false (by rw [c0]; exact Bool.false_ne_true)) ?_; wp_walk using wpAny_loadPart' hl)
      | (refine wpAny_ite_true (decide_eq_true (by rw [c1])) ?_; wp_walk using wpAny_loadPart' hl))
    exact ⟨_, rfl, h⟩
theorem tmul_zero (l : Addr) (items : Array Value) (n : Nat) (dd : Option Addr) (sl : Array (Option Value)) (u : Tok) (c1 : items.isEmpty = false) :
    Meets (Builtin.«tuple.__mul__» ⟨[.ref l, .int 0 u], []⟩) (fun _ R s => s.heap.get? l = some { cls := .type "tuple", dict := dd, data := .seq items n, slots := sl } ∧
      R (.ok (.ret (Value.ref s.heap.objs.size))) { s with heap := s.heap.push { cls := Value.type "tuple", data := Data.seq #[] }, toks := s.toks }) :=
  .of_wp fun prog w A R s h => by
    obtain ⟨hp, g, d, tk, os⟩ := s
    obtain ⟨hl, h⟩ := h
    have f1 := AutoSeq1.idx_int
    have c2 : (items.isEmpty || (0 : Int) == 1) = false := by rw [c1]; rfl
    wp_walk using wpAny_loadPart' hl
    repeat (first
      | (refine wpAny_ite_false (decide_eq_false (by decide)) ?_; wp_walk using wpAny_loadPart' hl)
      | (refine wpAny_ite_false (decide_eq_false (by rw [c2]; exact Bool.false_ne_true)) ?_; wp_walk using wpAny_loadPart' hl)
      | (refine wpAny_ite_true (decide_eq_true (by rfl)) ?_; wp_walk using wpAny_loadPart' hl))
    exact ⟨_, rfl, h⟩
def rMulT (K : PySem.W.Frag) : R2 := fun x y H Q => ∃ l k xs, x = .ref l ∧ y = .int k ∧ SqT K H l xs ∧ 0 ≤ k ∧ k ≤ 1000 ∧ xs.length ≤ 1000 ∧
  ((xs = [] ∨ k = 1) → Q (.ref l) H) ∧ (xs ≠ [] → k ≠ 1 → ∀ p o, H p = none → o.dict = none → Q (.ref p) (upd H p (.frz o (.tup (List.replicate k.toNat xs).flatten))))
theorem op_mulT {X : Cx} {K : PySem.W.Frag} (hK : X.K = K := by rfl) : OpR X (binaryOp .Mult) (rMulT K) := by
  subst hK
  intro pins s σ H x y v u Q I rx ry h
  obtain ⟨l, k, xs, rfl, rfl, hT, h0, h1, hz, q1, q2⟩ := h
  cases rx
  obtain ⟨t, rfl⟩ := ry
  obtain ⟨its, r, ⟨⟨cls, dd, data, sl⟩, ho, hc, n, hd⟩, hs⟩ := I.tuple hT
  simp only at hc hd
  subst hc hd
  have hle : its.length = xs.length := r.length.symm
  have c0 : (decide (k < -(2 ^ 63)) || decide (k ≥ 2 ^ 63)) = false := by
    rw [decide_eq_false (by omega), decide_eq_false (by omega)] <;> rfl
  have go : ∀ {R' : Value → Shared → Prop}, wpAny (model X.prog X.w) X.A (call (.builtin "tuple.__mul__") [.ref l, .int k t]) R' X.xe s → wpAny (model X.prog X.w) X.A (binaryOp .Mult (.ref l) (.int k t)) R' X.xe s := fun {R'} hq =>
    wpAny_binaryOp_repeat_ref (T := "tuple") (U := "int") (by decide) ⟨_, ho, rfl⟩ (fun s' => typeIs_int s' k t) noFill_tuple_mul F.fills_int_mul F.slot_int_rmul repeat_tuple F.slot_int_index.lookup
      (call_meets F.slot_int_rmul (typeIs_int s k t) F.entry_int_rmul (F.args_int_rmul_2 _ _) (int_rmul_tuple k t l its.toArray n dd sl) ⟨ho, rfl, ⟨_, ho, rfl⟩, hq⟩)
  by_cases hself : xs = [] ∨ k = 1
  · have c1 : (its.toArray.isEmpty || k == 1) = true := by
      rcases hself with e | e
      · have : its = [] := List.eq_nil_of_length_eq_zero (by rw [hle, e]; rfl)
        rw [this]; rfl
      · rw [e]; simp
    exact go (call_meets F.slot_tuple_mul ⟨_, ho, rfl⟩ F.entry_tuple_mul (F.args_tuple_mul_2 _ _) (tmul_self l its.toArray n dd sl k t c0 c1) ⟨ho, .ref l, H, I, rfl, q1 hself⟩)
  · have hne : xs ≠ [] := fun e => hself (.inl e)
    have hk1 : k ≠ 1 := fun e => hself (.inr e)
    have hi : its.toArray.isEmpty = false := by
      cases its with
      | nil => exact absurd (List.eq_nil_of_length_eq_zero hle.symm) hne
      | cons a b => rfl
    have bd : k.toNat * xs.length ≤ 1000 * 1000 := Nat.mul_le_mul (by omega) hz
    have fl : (List.replicate k.toNat xs).flatten.length ≤ sizeLine := by
      rw [PyProof.Rows.lm_len_rep_flat, sizeLine_eq]; omega
    have new : ∀ (h' : Heap) (its' : List Value), h' = s.heap.push { cls := .type "tuple", data := .seq its'.toArray } → Vals (List.replicate k.toNat xs).flatten its' → EP X pins σ Q (.ref s.heap.objs.size) { s with heap := h', toks := s.toks } := fun h' its' e rv => by
      subst e
      exact ⟨.ref s.heap.objs.size, _, I.laid (t' := s.toks) (fun b ob q => Heap.get?_push_of_some _ q) (Nat.le_refl _) (frz_ok fl rv), rfl, q2 hne hk1 _ _ (I.hok.fresh (Nat.le_refl _)) rfl⟩
    by_cases hk0 : k = 0
    · subst hk0
      exact go (call_meets F.slot_tuple_mul ⟨_, ho, rfl⟩ F.entry_tuple_mul (F.args_tuple_mul_2 _ _) (tmul_zero l its.toArray n dd sl t hi) ⟨ho, new _ [] rfl .nil⟩)
    · have c1 : (its.toArray.isEmpty || k == 1) = false := by
        rw [hi, Bool.false_or]
        exact beq_eq_false_iff_ne.mpr hk1
      have c2 : (decide (k ≤ 0) || its.toArray.isEmpty) = false := by
        rw [hi, Bool.or_false]
        exact decide_eq_false (by omega)
      have hsz : its.toArray.size = xs.length := by rw [List.size_toArray, hle]
      have hm : ((its.toArray.size : Nat) : Int) * k ≤ 1000000 := by
        rw [hsz]
        have a1 : ((xs.length : Nat) : Int) * k ≤ 1000 * k := Int.mul_le_mul_of_nonneg_right (by omega) h0
        omega
      have c4 : Builtin.Tuple.tupleTooMany (((its.toArray.size : Nat) : Int) * k) = false := by
        unfold Builtin.Tuple.tupleTooMany
        rw [sizeLine_eq]
        exact decide_eq_false (by omega)
      exact go (call_meets F.slot_tuple_mul ⟨_, ho, rfl⟩ F.entry_tuple_mul (F.args_tuple_mul_2 _ _) (tuple_mulW l its.toArray n dd sl k t c0 c1 c2 (by omega) c4 (by rw [size_rep, List.size_toArray, PyProof.Rows.lm_len_rep_flat, hle, sizeLine_eq]; omega))
        ⟨ho, new _ (List.replicate k.toNat its).flatten (by rw [size_rep]) (r.rep k.toNat)⟩)
section
variable {β : Type} {K : PySem.W.Frag} {σ : L2.St} {G M M1 M2 : Hp} {ta tb : TE} {e : β → Dat}
def mulTO (xs : List β) (n : Int) : Option (List β) := (grd (0 ≤ n ∧ n ≤ 1000 ∧ xs.length ≤ 1000)).bind fun _ => some (List.replicate n.toNat xs).flatten
theorem dqAll_rep {vs : List V} {ds : List Dat} (h : DqAll K G vs ds) : ∀ n : Nat, DqAll K G (List.replicate n vs).flatten (List.replicate n ds).flatten
  | 0 => .nil
  | n + 1 => by
    rw [List.replicate_succ, List.replicate_succ, List.flatten_cons, List.flatten_cons]
    exact dpAll_app h (dqAll_rep h n)
theorem ev_mulT {xs ys : List β} {n : Int} (hy : mulTO xs n = some ys) (ha : Ev ta σ G M M1 (DD K (eT e xs))) (hb : Ev tb σ G M1 M2 (DD K (.int n))) : Ev (tOp (rMulT K) ta tb) σ G M M2 (DD K (eT e ys)) := ev_op mo_dd ha hb fun x y G0 H s k hx hy' Q q => by
  obtain ⟨_, h1, h2⟩ := bs hy
  cases h2
  have g := grd_of h1
  cases hy'
  cases hx with
  | @tup a vs ds ht hd =>
    have hl : vs.length = xs.length := by rw [dpAll_len hd, List.length_map]
    refine ⟨a, n, vs, rfl, rfl, (ht.up k.g).sq, g.1, g.2.1, by omega, fun hs => q _ G0 H (Same.refl _) k ?_, fun _ _ p o hp ho => q _ _ _ (Same.new (Same.none k.g hp)) (k.newG _ hp) ?_⟩
    · have : (List.replicate n.toNat xs).flatten = xs := by
        rcases hs with e | e
        · have : xs = [] := List.eq_nil_of_length_eq_zero (by rw [← hl, e]; rfl)
          rw [this]; simp
        · rw [e]; simp
      rw [this]
      exact .tup ht hd
    · have hm : ((List.replicate n.toNat xs).flatten.map e) = (List.replicate n.toNat (xs.map e)).flatten := by
        rw [List.map_flatten, List.map_replicate]
      show Dq K _ _ (.tuple ((List.replicate n.toNat xs).flatten.map e))
      rw [hm]
      exact .tup (.inl ⟨o, upd_same, ho⟩) (dqAll_rep (dpAll_up (Same.new (Same.none k.g hp)) _ hd) n.toNat)
end
/-! ### what may be changed stands still from here on -/
theorem k_del {G M H : Hp} {p : Addr} {o : HO} {C : Prop} (ok : Ok G M H) (hp : M p = some o) (k : ∀ G' M', Same G G' → G' p = some o → (∀ a, a ≠ p → M' a = M a) → Ok G' M' H → C) : C := by
  have gp : G p = none := ok.d p o hp
  refine k (upd G p o) (fun a => if a = p then none else M a) (Same.new gp) upd_same (fun a ha => if_neg ha) ⟨fun a u e => ?_, fun a u e => ?_, fun a u e => ?_, fun a u e => ?_⟩
  · by_cases ha : a = p
    · subst ha; rw [upd_same] at e; cases e; exact ok.m _ _ hp
    · rw [upd_ne ha] at e; exact ok.g a u e
  · by_cases ha : a = p
    · have z := (if_pos ha).symm.trans e; cases z
    · exact ok.m a u ((if_neg ha).symm.trans e)
  · by_cases ha : a = p
    · have z := (if_pos ha).symm.trans e; cases z
    · rw [upd_ne ha]; exact ok.d a u ((if_neg ha).symm.trans e)
  · by_cases ha : a = p
    · have z := (if_pos ha).symm.trans e; cases z
    · exact ok.mu a u ((if_neg ha).symm.trans e)
theorem sB_del {M0 M M' : Hp} {p : Addr} (hM : ∀ a, a ≠ p → M' a = M a) (h0 : M0 p = none) (hB : Same M0 M) : Same M0 M' := fun a u e => (hM a (ne_of_none e h0)).trans (hB a u e)
theorem hB_del {M0 M M' : Hp} {p s : Addr} (hM : ∀ a, a ≠ p → M' a = M a) (h0 : M0 p = none) (hB : ∀ a u, a ≠ s → M0 a = some u → M a = some u) : ∀ a u, a ≠ s → M0 a = some u → M' a = some u := fun a u h e => (hM a (ne_of_none e h0)).trans (hB a u h e)
end Kx

end

section
set_option maxHeartbeats 2000000
namespace Kx
open PySem L2
/-! ### a dict locked for an expression -/
theorem lock_ok {G M H : Hp} {d : Addr} {u0 : HO} (od : Obj) (hG : G d = some u0) (ok : Ok G M H) : Ok (upd G d (.frz od u0)) M (upd H d (.frz od u0)) := by
  have hM : M d = none := by
    cases e : M d with
    | none => rfl
    | some w => have := ok.d d w e; rw [hG] at this; cases this
  refine ⟨fun a w e => ?_, fun a w e => ?_, fun a w e => ?_, ok.mu⟩
  · by_cases q : a = d
    · subst q; rw [upd_same] at e ⊢; exact e
    · rw [upd_ne q] at e ⊢; exact ok.g a w e
  · have q : a ≠ d := fun z => by subst z; rw [hM] at e; cases e
    rw [upd_ne q]; exact ok.m a w e
  · have q : a ≠ d := fun z => by subst z; rw [hM] at e; cases e
    rw [upd_ne q]; exact ok.d a w e
theorem lock_back {G G' M' H' : Hp} {d : Addr} {u0 : HO} {od : Obj} (hu : isDO u0) (hG : G d = some u0) (s : Same (upd G d (.frz od u0)) G') (o : Ok G' M' H') : H' d = some (.frz od u0) ∧ Sw G' (upd G' d u0) ∧ Same G (upd G' d u0) ∧ Ok (upd G' d u0) M' (upd H' d u0) := by
  have gd : G' d = some (.frz od u0) := s d _ upd_same
  refine ⟨o.g _ _ gd, sw_unlock hu gd, fun a w e => ?_, fun a w e => ?_, fun a w e => ?_, fun a w e => ?_, o.mu⟩
  · by_cases q : a = d
    · subst q; rw [upd_same]; rw [hG] at e; exact e
    · rw [upd_ne q]; exact s a w (by rw [upd_ne q]; exact e)
  · by_cases q : a = d
    · subst q; rw [upd_same] at e ⊢; exact e
    · rw [upd_ne q] at e ⊢; exact o.g a w e
  · have q : a ≠ d := fun z => by subst z; have := o.d a w e; rw [gd] at this; cases this
    rw [upd_ne q]; exact o.m a w e
  · have q : a ≠ d := fun z => by subst z; have := o.d a w e; rw [gd] at this; cases this
    rw [upd_ne q]; exact o.d a w e
section
variable {α β ρ : Type} {K : PySem.W.Frag} {σ σ' : St} {G G' M M1 M2 M3 : Hp} {ta tb te tc tk tv : TE} {P P1 P2 : VP} {d : Dat} {ds es : List Dat} {D : Ends} {H : Hp} {u : TS} {e : β → Dat}
theorem same_lock {G0 : Hp} {a : Addr} {w : HO} (s : Same G G0) : Same (upd G a w) (upd G0 a w) := fun b x h => by
  by_cases q : b = a
  · subst q; rw [upd_same] at h ⊢; exact h
  · rw [upd_ne q] at h ⊢; exact s b x h
theorem el_lock {a : Addr} {u0 : HO} (hG : G a = some u0) (hu : isDO u0) (h : ∀ od, EvL K te σ (upd G a (.frz od u0)) M M1 ds) : EvL K (tLockE te) σ G M M1 ds := fun G0 H s ok Q q => by
  have h0 := s _ _ hG
  refine ⟨a, u0, ok.g _ _ h0, by rcases hu with ⟨_, rfl⟩ | ⟨_, rfl⟩ <;> exact trivial, fun od => ?_⟩
  refine h od _ _ (same_lock s) (lock_ok od h0 ok) _ fun p vs G1 H1 s1 k1 hp hd => ?_
  obtain ⟨b1, b2, b3, b4⟩ := lock_back hu h0 s1 k1
  exact ⟨b1, q p vs _ _ b3 b4 hp (dqAll_sw b2 _ hd)⟩
theorem KRel.sw {α κ : Type} {f : α → κ} {kvs : List (κ × V)} {xs : List (α × β)} (s : Sw G G') (h : KRel K G f e kvs xs) : KRel K G' f e kvs xs := by
  induction h with
  | nil => exact .nil
  | cons a _ ih => exact .cons (dq_sw s _ a) ih
theorem KOkP.sw {kvs : List (List Key × V)} {xs : List ((Str × Str) × β)} (s : Sw G G') (h : KOkP K G e kvs xs) : KOkP K G' e kvs xs := ⟨h.1.sw s, h.2⟩
theorem KOk.sw {kvs : List (Key × V)} {xs : List (Str × β)} (s : Sw G G') (h : KOk K G e kvs xs) : KOk K G' e kvs xs := ⟨h.1.sw s, h.2⟩
/-! ### the promise of a def that changes the dict handed in first -/
def spM (K : PySem.W.Frag) (e : β → Dat) (args : α → List V → Hp → Prop) (m : α → List ((Str × Str) × β) → Option (List ((Str × Str) × β))) : Sp := fun vs H Q _ =>
  ∃ (G M : Hp) (p : Addr) (kvs : List (List Key × V)) (xs ys : List ((Str × Str) × β)) (a : α) (ws : List V), vs = .ref p :: ws ∧ Ok G M H ∧ M p = some (.dT kvs) ∧ KOkP K G e kvs xs ∧ args a ws G ∧ m a xs = some ys ∧
    ∀ kvs' G' H', Same G G' → Ok G' (upd M p (.dT kvs')) H' → KOkP K G' e kvs' ys → Q .non H'
theorem q_callM {args : α → List V → Hp → Prop} {m : α → List ((Str × Str) × β) → Option (List ((Str × Str) × β))} {E : XK} {t : TA} {a : α} {p : Addr} {kvs : List (List Key × V)} {xs ys : List ((Str × Str) × β)} (hm : m a xs = some ys) (hp : M1 p = some (.dT kvs)) (hd : KOkP K G e kvs xs) (ha : EvA t σ G M M1 (conP (OW p) (args a))) (ok : Ok G M H)
    (k : ∀ kvs' G' H', Same G G' → Ok G' (upd M1 p (.dT kvs')) H' → KOkP K G' e kvs' ys → u D σ H') : tSeq (tDrop (tCall (spM K e args m) [] E t)) u D σ H :=
  ha G H (Same.refl _) ok _ fun vs G1 H1 s1 k1 hv => by
    obtain ⟨v, ws, rfl, rfl, hw⟩ := hv
    rw [List.append_nil]
    exact ⟨G1, M1, _, kvs, xs, ys, a, ws, rfl, k1, hp, hd.up s1, hw, hm, fun kvs' G2 H2 s2 k2 hr => k kvs' G2 H2 (s1.trans s2) k2 hr⟩
/-! ### a thing that is a tuple of two -/
def pairD : Dat → Option (Dat × Dat)
  | .tuple [a, b] => some (a, b)
  | _ => none
theorem ev_pairD {d : Dat} {p : Dat × Dat} (h : pairD d = some p) (ha : Ev ta σ G M M1 (DD K d)) : Ev ta σ G M M1 (DD K (eP2 id id p)) := by
  have : d = .tuple [p.1, p.2] := by
    unfold pairD at h
    split at h
    · cases h; rfl
    · cases h
  rw [this] at ha
  exact ha
end
end Kx

end

section
set_option maxHeartbeats 2000000
namespace Kx
open PySem L2
/-! ### zip of three, lists and tuples -/
def Itz3 (K : PySem.W.Frag) (ka kb kc : Bool) (a b c : Addr) : It :=
  ⟨fun i H => ∃ (xs ys zs : List V) (x y w : V), SqB K ka H a xs ∧ SqB K kb H b ys ∧ SqB K kc H c zs ∧ xs[i]? = some x ∧ ys[i]? = some y ∧ zs[i]? = some w,
    fun i H v H' => ∃ T x y w, v = .ref T ∧ H T = none ∧ H' = upd H T (.tup [x, y, w]) ∧ (∀ xs, SqB K ka H a xs → xs[i]? = some x) ∧ (∀ ys, SqB K kb H b ys → ys[i]? = some y) ∧ ∀ zs, SqB K kc H c zs → zs[i]? = some w,
    fun i H => ∃ xs ys zs : List V, SqB K ka H a xs ∧ SqB K kb H b ys ∧ SqB K kc H c zs ∧ min (min xs.length ys.length) zs.length = i⟩
def iZip3 (K : PySem.W.Frag) (ka kb kc : Bool) (ta : TA) : TI := fun σ H R => ta σ H fun vs H1 => ∃ a b c xs ys zs, vs = [.ref a, .ref b, .ref c] ∧ SqB K ka H1 a xs ∧ SqB K kb H1 b ys ∧ SqB K kc H1 c zs ∧ R (Itz3 K ka kb kc a b c) H1
theorem turn_zip3 {P : Program} {w : World} {K : PySem.W.Frag} {ka kb kc : Bool} {elts : List Expr} {kk : Nat} {tpos : Pos} {a b c z TI TO i1 i2 i3 : Addr} (D : ZipSep3 z TI TO i1 i2 i3 [i1, a] [i2, b] [i3, c]) (ha : a ≠ i1) (hb : b ≠ i2) (hc' : c ≠ i3) :
    Turn P w K (.Tuple elts kk tpos) (Itz3 K ka kb kc a b c) [z, TI, TO, i1, i2, i3] z (fun i h => IsZip h z TI TO .none ∧ IsTupOf3 h TI (.ref i1) (.ref i2) (.ref i3) ∧ (∃ x y v, IsTupOf3 h TO x y v) ∧ IterB ka h i1 a i ∧ IterB kb h i2 b i ∧ IterB kc h i3 c i) where
  mem := by simp
  obj := fun i h st c hc => by
    obtain ⟨hz, hTI, ⟨x, y, v, hTO⟩, h1, h2, h3⟩ := st
    have e' : c = z ∨ c = TI ∨ c = TO ∨ c = i1 ∨ c = i2 ∨ c = i3 := by simpa using hc
    rcases e' with q | q | q | q | q | q
    · rw [q]; exact ⟨_, hz, fun v q => nomatch q⟩
    · rw [q]; exact ⟨_, hTI, fun v q => nomatch q⟩
    · rw [q]; exact ⟨_, hTO, fun v q => nomatch q⟩
    · rw [q]; exact h1.obj
    · rw [q]; exact h2.obj
    · rw [q]; exact h3.obj
  keep := fun i h h' st k => by
    obtain ⟨hz, hTI, ⟨x, y, v, hTO⟩, h1, h2, h3⟩ := st
    exact ⟨k z (by simp) _ hz, k TI (by simp) _ hTI, ⟨x, y, v, k TO (by simp) _ hTO⟩, h1.at fun o q => k i1 (by simp) o q, h2.at fun o q => k i2 (by simp) o q, h3.at fun o q => k i3 (by simp) o q⟩
  item := by
    intro X hP hw hK hc i pins s σ H E I hf st hg
    subst hP hw hK
    obtain ⟨hz, hTI, ⟨x0, y0, v0, hTO⟩, h1, h2, h3⟩ := st
    obtain ⟨xs, ys, zs, x, y, v, hqx, hqy, hqz, hx, hy, hv⟩ := hg
    obtain ⟨its, rv, p, _⟩ := seqB_of I hqx
    obtain ⟨its2, rv2, p2, _⟩ := seqB_of I hqy
    obtain ⟨its3, rv3, p3, _⟩ := seqB_of I hqz
    have l1 := rv.length
    have l2 := rv2.length
    have l3 := rv3.length
    have g1 : i < xs.length := (List.getElem?_eq_some_iff.mp hx).1
    have g2 : i < ys.length := (List.getElem?_eq_some_iff.mp hy).1
    have g3 : i < zs.length := (List.getElem?_eq_some_iff.mp hv).1
    have hzl : z < s.heap.objs.size := Heap.lt_size hz
    have hh : X.A.in1.handled = none := I.ok.hd hc
    refine wpAny_pyNext_zipD3_item D (drawsB (A := X.A.in1) ka hh i1 a ha its.toArray) (drawsB (A := X.A.in1) kb hh i2 b hb its2.toArray) (drawsB (A := X.A.in1) kc hh i3 c hc' its3.toArray) hz hTI hTO ⟨h1, p⟩ ⟨h2, p2⟩ ⟨h3, p3⟩ (by simp; omega) (by simp; omega) (by simp; omega) fun u u2 u3 h' tk hu hu2 hu3 z' TO' h1' h2' h3' hT hsz hk => ?_
    have ru : RelV x u := by
      obtain ⟨w, hw, r⟩ := rv.get hx
      have e : its.toArray[i]? = some w := by simpa using hw
      rw [hu] at e
      cases e
      exact r
    have ru2 : RelV y u2 := by
      obtain ⟨w, hw, r⟩ := rv2.get hy
      have e : its2.toArray[i]? = some w := by simpa using hw
      rw [hu2] at e
      cases e
      exact r
    have ru3 : RelV v u3 := by
      obtain ⟨w, hw, r⟩ := rv3.get hv
      have e : its3.toArray[i]? = some w := by simpa using hw
      rw [hu3] at e
      cases e
      exact r
    refine ⟨_, rfl, wpAny_letOwnedTupleGo_zip (s := { s with heap := h', toks := tk }) z' fun h'' z'' sb => ?_⟩
    have hT2 : h''.get? s.heap.objs.size = some { cls := .type "tuple", data := .seq #[u, u2, u3] } := (sb.2 _ (Nat.ne_of_gt hzl)).trans hT
    have new : ObjOk X.prog X.w (upd H s.heap.objs.size (.tup [x, y, v])) h'' s.heap.objs.size (.tup [x, y, v]) :=
      ⟨by show 3 ≤ sizeLine; decide, [u, u2, u3], .cons ru (.cons ru2 (.cons ru3 .nil)), ⟨_, hT2, rfl, _, rfl⟩⟩
    have I1 : Inv X pins σ (upd H s.heap.objs.size (.tup [x, y, v])) { s with heap := h'', toks := tk } :=
      I.turnedNew (t' := tk) (ch := [z, TI, TO, i1, i2, i3]) (fun c o hb q => (sb.2 c (fun q' => hb (by simp [q']))).trans (hk c o (fun q' => hb (by simp [q'])) (fun q' => hb (by simp [q'])) (fun q' => hb (by simp [q'])) (fun q' => hb (by simp [q'])) (fun q' => hb (by simp [q'])) q)) hf (Nat.le_refl _) new
    refine ⟨.ref s.heap.objs.size, _, I1, rfl, ⟨_, x, y, v, rfl, I.hok.fresh (Nat.le_refl _), rfl, fun l hl => by rw [sqB_inj I hl hqx]; exact hx, fun l hl => by rw [sqB_inj I hl hqy]; exact hy, fun l hl => by rw [sqB_inj I hl hqz]; exact hv⟩, ⟨z'', ?_, ⟨u, u2, u3, ?_⟩, ?_, ?_, ?_⟩, fun c hcm => ?_⟩
    · exact (sb.2 _ D.TIz).trans (hk _ _ D.TIz D.TITO D.TIi1 D.TIi2 D.TIi3 hTI)
    · exact (sb.2 _ D.TOz).trans TO'
    · exact h1'.1.at fun o q => (sb.2 _ (Ne.symm D.zi1)).trans q
    · exact h2'.1.at fun o q => (sb.2 _ (Ne.symm D.zi2)).trans q
    · exact h3'.1.at fun o q => (sb.2 _ (Ne.symm D.zi3)).trans q
    · have hlt : c < s.heap.objs.size := by
        have e' : c = z ∨ c = TI ∨ c = TO ∨ c = i1 ∨ c = i2 ∨ c = i3 := by simpa using hcm
        rcases e' with q | q | q | q | q | q
        · rw [q]; exact hzl
        · rw [q]; exact Heap.lt_size hTI
        · rw [q]; exact Heap.lt_size hTO
        · rw [q]; obtain ⟨_, e1, _⟩ := h1.obj; exact Heap.lt_size e1
        · rw [q]; obtain ⟨_, e2, _⟩ := h2.obj; exact Heap.lt_size e2
        · rw [q]; obtain ⟨_, e3, _⟩ := h3.obj; exact Heap.lt_size e3
      rw [upd_ne (Nat.ne_of_lt hlt)]
      exact (hf c hcm).1
  done := by
    intro X hP hw hK hc i pins s σ H E I hf st hg
    subst hP hw hK
    obtain ⟨hz, hTI, ⟨x0, y0, v0, hTO⟩, h1, h2, h3⟩ := st
    obtain ⟨xs, ys, zs, hqx, hqy, hqz, hend⟩ := hg
    obtain ⟨its, rv, p, _⟩ := seqB_of I hqx
    obtain ⟨its2, rv2, p2, _⟩ := seqB_of I hqy
    obtain ⟨its3, rv3, p3, _⟩ := seqB_of I hqz
    have l1 := rv.length
    have l2 := rv2.length
    have l3 := rv3.length
    have hh : X.A.in1.handled = none := I.ok.hd hc
    exact wpAny_pyNext_zipD3_end D (drawsB (A := X.A.in1) ka hh i1 a ha its.toArray) (drawsB (A := X.A.in1) kb hh i2 b hb its2.toArray) (drawsB (A := X.A.in1) kc hh i3 c hc' its3.toArray) hz hTI hTO ⟨h1, p⟩ ⟨h2, p2⟩ ⟨h3, p3⟩ (by simp; omega) (by simp; omega) (by simp; omega) (by simp; omega) fun h' tk hk => ⟨rfl, I.turnedL (t' := tk) (ch := [z, TI, TO, i1, i2, i3]) (fun c o hb q =>
      hk c o (fun q' => hb (by simp [q'])) (fun q' => hb (by simp [q'])) (fun q' => hb (by simp [q'])) (fun q' => hb (by simp [q'])) (fun q' => hb (by simp [q'])) q) hf⟩
  self := fun A i s Q E st h => wpAny_pyIter_zip st.1 h
theorem pi_zip3 (ka kb kc : Bool) {X : Cx} {e e2 e3 : Expr} {ta : TA} {p pos tpos : Pos} {elts : List Expr} {kk : Nat} (hg : Gl X "zip") (hm : X.mg "zip" = none) (ha : PA X [e, e2, e3] ta)
    (hs : starEach [e, e2, e3] X.env = (false, eval e X.env) :: starEach [e2, e3] X.env := by rfl) (hpl : (backTo pos (starEach [e2, e3] X.env)).any (·.1) = false := by rfl) :
    PI X (.Tuple elts kk tpos) (.Call (.Name "zip" p) [e, e2, e3] [] pos) (iZip3 X.K ka kb kc ta) := by
  refine ⟨fun pins s σ H R I h => ?_⟩
  refine PyProof.Rows.Call_ (ld_blt I hg hm PyProof.Rows.boot_zip (PyProof.Rows.callWith_type1 (thn (ha.run pos pins s σ H _ I h) fun us s1 ⟨vs, H1, I1, r1, q1⟩ => ?_) hs hpl))
  obtain ⟨a, b, c, xs, ys, zs, ex, hqx, hqy, hqz, q⟩ := q1
  subst ex
  cases r1 with
  | cons r rr =>
    cases rr with
    | cons r' rr =>
      cases rr with
      | cons r'' rr =>
        cases rr
        cases r
        cases r'
        cases r''
        have fresh6 : ∀ c, c ∈ [s1.heap.objs.size + 5, s1.heap.objs.size + 3, s1.heap.objs.size + 4, s1.heap.objs.size, s1.heap.objs.size + 1, s1.heap.objs.size + 2] → FpOk X pins H1 c := fun c hcm => by
          have hle : s1.heap.objs.size ≤ c := by
            simp only [List.mem_cons, List.not_mem_nil, or_false] at hcm
            omega
          exact I1.fpOk hle (I1.hok.fresh hle)
        obtain ⟨its, rv, p1, la⟩ := seqB_of I1 hqx
        obtain ⟨its2, rv2, p2, lb⟩ := seqB_of I1 hqy
        obtain ⟨its3, rv3, p3, lc⟩ := seqB_of I1 hqz
        refine zip_begins3 (begins_B ka a its.toArray) (begins_B kb b its2.toArray) (begins_B kc c its3.toArray) p1 p2 p3 fun h' hz hTI hTO h1 h2 h3 hsz hk => wpAny_pyIter_zip hz ?_
        have I2 : Inv X pins σ H1 { s1 with heap := h' } := I1.kept (t' := s1.toks) hk
        exact ⟨s1.heap.objs.size + 5, [s1.heap.objs.size + 5, s1.heap.objs.size + 3, s1.heap.objs.size + 4, s1.heap.objs.size, s1.heap.objs.size + 1, s1.heap.objs.size + 2], _, _, H1, rfl, I2, turn_zip3 (zip_sep3 (fp1 := [a]) (fp2 := [b]) (fp3 := [c]) (by simpa using la) (by simpa using lb) (by simpa using lc)) (Nat.ne_of_lt la) (Nat.ne_of_lt (Nat.lt_succ_of_lt lb)) (Nat.ne_of_lt (Nat.lt_succ_of_lt (Nat.lt_succ_of_lt lc))), ⟨hz, hTI, ⟨_, _, _, hTO⟩, iterB_new h1, iterB_new h2, iterB_new h3⟩, fresh6, q⟩
section
variable {K : PySem.W.Frag} {σ : St} {G G' M M1 M2 M3 H : Hp} {ta tb te tc : TE} {P P1 P2 : VP} {d e : Dat} {ds es fs : List Dat}
theorem pi_zip3K {X : Cx} (ka kb kc : Bool) {e e2 e3 : Expr} {ta : TA} {p pos tpos : Pos} {elts : List Expr} {kk : Nat} (hg : Gl X "zip") (hm : X.mg "zip" = none) (ha : PA X [e, e2, e3] ta) (h : X.K = K := by rfl)
    (hs : starEach [e, e2, e3] X.env = (false, eval e X.env) :: starEach [e2, e3] X.env := by rfl) (hpl : (backTo pos (starEach [e2, e3] X.env)).any (·.1) = false := by rfl) :
    PI X (.Tuple elts kk tpos) (.Call (.Name "zip" p) [e, e2, e3] [] pos) (iZip3 K ka kb kc ta) := h ▸ pi_zip3 ka kb kc hg hm ha hs hpl
def zip3D (ds es fs : List Dat) : List Dat := List.zipWith (fun a (b : Dat × Dat) => .rtup [a, b.1, b.2]) ds (es.zip fs)
theorem zip3D_get {i : Nat} {d : Dat} (h : (zip3D ds es fs)[i]? = some d) : ∃ p q r, d = .rtup [p, q, r] ∧ ds[i]? = some p ∧ es[i]? = some q ∧ fs[i]? = some r := by
  unfold zip3D at h
  rw [List.getElem?_zipWith] at h
  cases e1 : ds[i]? with
  | none => rw [e1] at h; cases h
  | some p =>
    cases e2 : (es.zip fs)[i]? with
    | none => rw [e1, e2] at h; cases h
    | some q =>
      rw [e1, e2] at h
      cases h
      have := List.getElem?_zip_eq_some.mp e2
      exact ⟨p, q.1, q.2, rfl, rfl, this.1, this.2⟩
theorem src_zip3 {ka kb kc : Bool} {ta : TA} (h : EvA ta σ G M M1 (conP (DD K (seqD ka ds)) (conP (DD K (seqD kb es)) (conP (DD K (seqD kc fs)) nilP)))) : Src K (iZip3 K ka kb kc ta) σ G M M1 (zip3D ds es fs) := fun G0 H s k R q =>
  h G0 H s k _ fun vs G1 H1 s1 k1 hv => by
    obtain ⟨v, _, rfl, hv1, w, _, rfl, hw1, x, _, rfl, hx1, rfl⟩ := hv
    obtain ⟨a, vs, rfl, h1, h2⟩ := sqB_of hv1
    obtain ⟨b, ws, rfl, h3, h4⟩ := sqB_of hw1
    obtain ⟨c, xs, rfl, h5, h6⟩ := sqB_of hx1
    refine ⟨a, b, c, vs, ws, xs, rfl, h1 _ k1.g, h3 _ k1.g, h5 _ k1.g, q _ G1 H1 s1 k1 ?_⟩
    have l2 := dpAll_len h2
    have l4 := dpAll_len h4
    have l6 := dpAll_len h6
    have hl : (zip3D ds es fs).length = min (min vs.length ws.length) xs.length := by
      unfold zip3D
      rw [List.length_zipWith, List.length_zip]
      omega
    have w : Walk (Itz3 K ka kb kc a b c) (min (min vs.length ws.length) xs.length) (fun H => SqB K ka H a vs ∧ SqB K kb H b ws ∧ SqB K kc H c xs) (fun i H v H' => ∃ T x y w, v = .ref T ∧ H T = none ∧ H' = upd H T (.tup [x, y, w]) ∧ vs[i]? = some x ∧ ws[i]? = some y ∧ xs[i]? = some w) := by
      refine ⟨fun i _ hi q => ?_, fun _ q => ⟨vs, ws, xs, q.1, q.2.1, q.2.2, rfl⟩, fun i H v H' _ q y => ?_⟩
      · have h1 : i < vs.length := by omega
        have h2 : i < ws.length := by omega
        have h3 : i < xs.length := by omega
        exact ⟨vs, ws, xs, vs[i], ws[i], xs[i], q.1, q.2.1, q.2.2, by simp [h1], by simp [h2], by simp [h3]⟩
      · obtain ⟨T, x, y, w, e1, e2, e3, e4, e5, e6⟩ := y
        exact ⟨T, x, y, w, e1, e2, e3, e4 _ q.1, e5 _ q.2.1, e6 _ q.2.2⟩
    refine ⟨_, _, hl ▸ w, fun H s => ⟨h1 _ s, h3 _ s, h5 _ s⟩, fun i d H x H' G2 M2 hi s2 k2 y => ?_⟩
    · obtain ⟨T, x, y, w, rfl, hT, rfl, hx, hy, hw⟩ := y
      obtain ⟨p, q, r, rfl, e1, e2, e3⟩ := zip3D_get hi
      have gT := Same.none k2.g hT
      have s3 : Same G2 (upd G2 T (.tup [x, y, w])) := Same.new gT
      exact ⟨upd G2 T (.tup [x, y, w]), s3, k2.newG _ hT, .rtup upd_same (.cons (dp_up (s2.trans s3) _ (dqAll_at h2 hx e1)) (.cons (dp_up (s2.trans s3) _ (dqAll_at h4 hy e2)) (.cons (dp_up (s2.trans s3) _ (dqAll_at h6 hw e3)) .nil)))⟩
abbrev eR3 {α β γ : Type} (e1 : α → Dat) (e2 : β → Dat) (e3 : γ → Dat) (p : α × β × γ) : Dat := .rtup [e1 p.1, e2 p.2.1, e3 p.2.2]
theorem zip3D_map {α β γ : Type} {ea : α → Dat} {eb : β → Dat} {ec : γ → Dat} : ∀ {xs : List α} {ys : List β} {zs : List γ}, zip3D (xs.map ea) (ys.map eb) (zs.map ec) = (xs.zip (ys.zip zs)).map (eR3 ea eb ec)
  | [], _, _ => by simp [zip3D]
  | _ :: _, [], _ => by simp [zip3D]
  | _ :: _, _ :: _, [] => by simp [zip3D]
  | x :: xs, y :: ys, z :: zs => by
    have := zip3D_map (ea := ea) (eb := eb) (ec := ec) (xs := xs) (ys := ys) (zs := zs)
    unfold zip3D at this ⊢
    simp only [List.map_cons, List.zip_cons_cons, List.zipWith_cons_cons, this]
theorem tg_r3 {g1 g2 g3 : TG} {v : V} {F : St → Prop} {d1 d2 d3 : Dat} (hv : Dq K G v (.rtup [d1, d2, d3])) (h : ∀ v1 v2 v3, Dq K G v1 d1 → Dq K G v2 d2 → Dq K G v3 d3 → Tg g1 v1 σ G fun σ1 => Tg g2 v2 σ1 G fun σ2 => Tg g3 v3 σ2 G F) : Tg (gTup K 3 (gCons g1 (gCons g2 (gCons g3 gNil)))) v σ G F :=
  tg_rtup hv rfl fun vs hs => by
    cases hs with
    | cons a b =>
      cases b with
      | cons b c =>
        cases c with
        | cons c d =>
          cases d
          exact tgs_cons fun H Q s q => h _ _ _ a b c H Q s fun σ1 h1 => q σ1 (tgs_cons fun H' Q' s' q' => h1 H' Q' s' fun σ2 h2 => q' σ2 (tgs_cons fun H'' Q'' s'' q'' => h2 H'' Q'' s'' fun σ3 h3 => q'' σ3 (tgs_nil h3)))
theorem gr3 {g1 g2 g3 : TG} {v : V} {Q : St → Hp → Prop} {d1 d2 d3 : Dat} (hv : Dq K G v (.rtup [d1, d2, d3])) (s : Same G H) (h : ∀ v1 v2 v3, Dq K G v1 d1 → Dq K G v2 d2 → Dq K G v3 d3 → g1 v1 σ H fun σ1 H1 => g2 v2 σ1 H1 fun σ2 H2 => g3 v3 σ2 H2 Q) : gTup K 3 (gCons g1 (gCons g2 (gCons g3 gNil))) v σ H Q := by
  obtain ⟨a, vs, rfl, h1, h2⟩ := dp_rtup hv
  cases h2 with
  | cons a1 b1 =>
    cases b1 with
    | cons a2 b2 =>
      cases b2 with
      | cons a3 b3 =>
        cases b3
        refine ⟨a, _, rfl, (.inl (.inl (s _ _ h1))), rfl, _, _, rfl, ?_⟩
        rw [gTwo_eq]
        exact h _ _ _ a1 a2 a3
end
end Kx

end

section
set_option maxHeartbeats 2000000
namespace Kx
open PySem L2
section
variable {β : Type} {K : PySem.W.Frag} {σ : L2.St} {G M M1 M2 : Hp} {ta tb : TE} {e : β → Dat}
/-! ### a list so many times -/
def mulLO (xs : List β) (n : Int) : Option (List β) := (grd (-(2 ^ 63) ≤ n ∧ n < 2 ^ 63 ∧ xs.length * n.toNat ≤ 16777216)).bind fun _ => some (List.replicate n.toNat xs).flatten
theorem el_mulL {xs ys : List β} {n : Int} (hy : mulLO xs n = some ys) (ha : Ev ta σ G M M1 (DD K (eL e xs))) (hb : Ev tb σ G M1 M2 (DD K (.int n))) : EvL K (tOp rRep ta tb) σ G M M2 (ys.map e) := el_op mo_dd ha hb fun x y G0 H s k hx hy' Q q => by
  obtain ⟨_, h1, h2⟩ := bs hy
  cases h2
  have g := grd_of h1
  cases hy'
  cases hx with
  | @lst a vs ds ht hd =>
    have hl : vs.length = xs.length := by rw [dpAll_len hd, List.length_map]
    refine ⟨a, n, vs, rfl, rfl, k.g _ _ ht, g.1, g.2.1, by rw [hl, sizeLine_eq]; exact g.2.2, ?_⟩
    have hm : ((List.replicate n.toNat xs).flatten.map e) = (List.replicate n.toNat (xs.map e)).flatten := by
      rw [List.map_flatten, List.map_replicate]
    rw [hm] at q
    exact newL (Same.refl _) k (dqAll_rep hd n.toNat) q
end
end Kx

end

section
set_option maxHeartbeats 2000000
namespace Kx
open PySem L2
section
variable {β : Type} {K : PySem.W.Frag} {σ : L2.St} {G M M1 M2 : Hp} {ta tb : TE} {e : β → Dat} {ds es : List Dat}
theorem ev_catP (ha : Ev ta σ G M M1 (DD K (.tuple ds))) (hb : Ev tb σ G M1 M2 (DD K (.tuple es))) (hl : ds.length + es.length ≤ sizeLine := by simp [sizeLine_eq]) : Ev (tOp (rCatF K) ta tb) σ G M M2 (DD K (.tuple (ds ++ es))) := ev_catT hl ha hb
end
end Kx

end

section
set_option maxHeartbeats 2000000
namespace Kx
open PySem L2 PySem.Spec PyProof.Rows
/-! ### zip of 4: next -/
abbrev Tup4 (h : Heap) (T : Addr) (a1 a2 a3 a4 : Value) : Prop := h.get? T = some { cls := .type "tuple", data := .seq #[a1, a2, a3, a4] }
structure Sep4 (z TI TO i1 i2 i3 i4 : Addr) (fp1 fp2 fp3 fp4 : List Addr) : Prop where
  iz : TI ≠ z
  oz : TO ≠ z
  io : TI ≠ TO
  ii1 : TI ≠ i1
  m1 : i1 ∈ fp1
  z1 : z ∉ fp1
  o1 : TO ∉ fp1
  ii2 : TI ≠ i2
  m2 : i2 ∈ fp2
  z2 : z ∉ fp2
  o2 : TO ∉ fp2
  ii3 : TI ≠ i3
  m3 : i3 ∈ fp3
  z3 : z ∉ fp3
  o3 : TO ∉ fp3
  ii4 : TI ≠ i4
  m4 : i4 ∈ fp4
  z4 : z ∉ fp4
  o4 : TO ∉ fp4
  s1_2 : i1 ∉ fp2
  s1_3 : i1 ∉ fp3
  s1_4 : i1 ∉ fp4
  s2_1 : i2 ∉ fp1
  s2_3 : i2 ∉ fp3
  s2_4 : i2 ∉ fp4
  s3_1 : i3 ∉ fp1
  s3_2 : i3 ∉ fp2
  s3_4 : i3 ∉ fp4
  s4_1 : i4 ∉ fp1
  s4_2 : i4 ∉ fp2
  s4_3 : i4 ∉ fp3
section
variable {prog : Program} {w : World} {A : Around} {E : Value → Shared → Prop} {s : Shared} {z TI TO i1 i2 i3 i4 : Addr} {fp1 fp2 fp3 fp4 : List Addr} {n1 n2 n3 n4 k : Nat} {P1 P2 P3 P4 : Nat → Value → Prop} {S1 S2 S3 S4 : Nat → Heap → Prop} {a1 a2 a3 a4 : Value}
theorem Sep4.zi1 (D : Sep4 z TI TO i1 i2 i3 i4 fp1 fp2 fp3 fp4) : z ≠ i1 := fun e => D.z1 (e ▸ D.m1)
theorem Sep4.oi1 (D : Sep4 z TI TO i1 i2 i3 i4 fp1 fp2 fp3 fp4) : TO ≠ i1 := fun e => D.o1 (e ▸ D.m1)
theorem Sep4.zi2 (D : Sep4 z TI TO i1 i2 i3 i4 fp1 fp2 fp3 fp4) : z ≠ i2 := fun e => D.z2 (e ▸ D.m2)
theorem Sep4.oi2 (D : Sep4 z TI TO i1 i2 i3 i4 fp1 fp2 fp3 fp4) : TO ≠ i2 := fun e => D.o2 (e ▸ D.m2)
theorem Sep4.zi3 (D : Sep4 z TI TO i1 i2 i3 i4 fp1 fp2 fp3 fp4) : z ≠ i3 := fun e => D.z3 (e ▸ D.m3)
theorem Sep4.oi3 (D : Sep4 z TI TO i1 i2 i3 i4 fp1 fp2 fp3 fp4) : TO ≠ i3 := fun e => D.o3 (e ▸ D.m3)
theorem Sep4.zi4 (D : Sep4 z TI TO i1 i2 i3 i4 fp1 fp2 fp3 fp4) : z ≠ i4 := fun e => D.z4 (e ▸ D.m4)
theorem Sep4.oi4 (D : Sep4 z TI TO i1 i2 i3 i4 fp1 fp2 fp3 fp4) : TO ≠ i4 := fun e => D.o4 (e ▸ D.m4)
theorem upd_Tup4 {T : Addr} {x : Value} {c : Nat} {Q : Unit → Shared → Prop} (hT : Tup4 s.heap T a1 a2 a3 a4)
    (h : ∀ g, g.get? T = some { cls := .type "tuple", data := .seq ((#[a1, a2, a3, a4] : Array Value).setIfInBounds c x) } → Heap.SameBut T s.heap g → Q () { s with heap := g }) :
    wpAny (model prog w) A (updateSeq T (·.setIfInBounds c x)) Q E s := by
  refine wpAny_updateSeq hT rfl (h _ ?_ (Heap.SameBut.update ..))
  rw [Heap.get?_update_self _ hT rfl]
  simp [Obj.mapSeq]
theorem zip4_item {Q : Value → Shared → Prop} (W : Sep4 z TI TO i1 i2 i3 i4 fp1 fp2 fp3 fp4) (D1 : Draws prog w A i1 fp1 n1 P1 S1) (D2 : Draws prog w A i2 fp2 n2 P2 S2) (D3 : Draws prog w A i3 fp3 n3 P3 S3) (D4 : Draws prog w A i4 fp4 n4 P4 S4)
    (hz : IsZip s.heap z TI TO .none) (hI : Tup4 s.heap TI (.ref i1) (.ref i2) (.ref i3) (.ref i4)) (hO : Tup4 s.heap TO a1 a2 a3 a4) (q1 : S1 k s.heap) (q2 : S2 k s.heap) (q3 : S3 k s.heap) (q4 : S4 k s.heap) (l1 : k < n1) (l2 : k < n2) (l3 : k < n3) (l4 : k < n4)
    (hQ : ∀ x1 x2 x3 x4 g tk, P1 k x1 → P2 k x2 → P3 k x3 → P4 k x4 → IsZip g z TI TO (rawInt s.heap.objs.size) → Tup4 g TO x1 x2 x3 x4 → S1 (k + 1) g → S2 (k + 1) g → S3 (k + 1) g → S4 (k + 1) g → Tup4 g s.heap.objs.size x1 x2 x3 x4 → g.objs.size = s.heap.objs.size + 1 → (∀ c o, c ≠ z → c ≠ TO → c ≠ i1 → c ≠ i2 → c ≠ i3 → c ≠ i4 → s.heap.get? c = some o → g.get? c = some o) → Q (.ref s.heap.objs.size) { s with heap := g, toks := tk }) :
    wpAny (model prog w) A (Builtin.«zip.__next__» ⟨[.ref z], []⟩) (fun f s1 => ∃ v, f = .done (.ret v) ∧ Q v s1) E s := by
  obtain ⟨hp, gl, dn, t0, ou⟩ := s
  show wpAny _ _ (field (.ref z) 2 >>= _) _ _ _
  refine wpAny_bind (wpAny_field hz rfl (x := .bool false) rfl (show _ from ?_))
  show wpAny _ _ (field (.ref z) 3 >>= _) _ _ _
  refine wpAny_bind (wpAny_field hz rfl (x := .ref TI) rfl (show _ from ?_))
  refine wpAny_bind (wpAny_seqItems hI rfl ?_)
  show wpAny _ _ (Builtin.SmallTypes.ownedTupleIsFree (.ref z) >>= _) _ _ _
  refine wpAny_bind ?_
  (unfold Builtin.SmallTypes.ownedTupleIsFree; skip)
  refine wpAny_bind (wpAny_field hz rfl (x := .none) rfl (wpAny_pure (show _ from ?_)))
  simp only [if_true]
  refine wpAny_bind (wpAny_rule ?_)
  refine wpAny_bind (wpAny_field hz rfl (x := .ref TO) rfl (show _ from ?_))
  refine wpAny_bind (wpAny_setField_rec hz (by simp) fun g0 hz0 b0 => ?_)
  replace hz0 : IsZip g0 z TI TO .ellipsis := hz0
  replace b0 : Heap.SameBut z hp g0 := b0
  refine wpAny_bind ?_
  simp only [List.forIn_cons, List.forIn_nil, List.zipIdx_cons, List.zipIdx_nil]
  refine wpAny_bind (wpAny_bind (wpAny_onRaise ?_))
  show wpAny _ _ (Builtin.SmallTypes.nextOf (.ref i1) >>= _) _ _ ⟨g0, gl, dn, t0, ou⟩
  refine wpAny_bind (D1.item k _ _ _ l1 (D1.over q1 b0 W.z1) fun x1 p1 t1 h1 v1 e1 => wpAny_pure ?_)
  replace e1 : Heap.SameBut i1 g0 p1 := e1
  have U1 : Tup4 p1 TO a1 a2 a3 a4 := e1.extBut _ _ W.oi1 (b0.extBut _ _ W.oz hO)
  refine wpAny_bind (wpAny_seqItems (s := ⟨p1, gl, dn, t1, ou⟩) U1 rfl ?_)
  refine wpAny_bind (upd_Tup4 (s := ⟨p1, gl, dn, t1, ou⟩) U1 fun g1 T1 b1 => ?_)
  replace T1 : Tup4 g1 TO x1 a2 a3 a4 := T1
  replace b1 : Heap.SameBut TO p1 g1 := b1
  refine wpAny_bind (wpAny_letGo (wpAny_pure ?_))
  refine wpAny_bind (wpAny_bind (wpAny_onRaise ?_))
  show wpAny _ _ (Builtin.SmallTypes.nextOf (.ref i2) >>= _) _ _ ⟨g1, gl, dn, t1, ou⟩
  refine wpAny_bind (D2.item k _ _ _ l2 (D2.over (D2.over (D2.over q2 b0 W.z2) e1 W.s1_2) b1 W.o2) fun x2 p2 t2 h2 v2 e2 => wpAny_pure ?_)
  replace e2 : Heap.SameBut i2 g1 p2 := e2
  have U2 : Tup4 p2 TO x1 a2 a3 a4 := e2.extBut _ _ W.oi2 (T1)
  refine wpAny_bind (wpAny_seqItems (s := ⟨p2, gl, dn, t2, ou⟩) U2 rfl ?_)
  refine wpAny_bind (upd_Tup4 (s := ⟨p2, gl, dn, t2, ou⟩) U2 fun g2 T2 b2 => ?_)
  replace T2 : Tup4 g2 TO x1 x2 a3 a4 := T2
  replace b2 : Heap.SameBut TO p2 g2 := b2
  refine wpAny_bind (wpAny_letGo (wpAny_pure ?_))
  refine wpAny_bind (wpAny_bind (wpAny_onRaise ?_))
  show wpAny _ _ (Builtin.SmallTypes.nextOf (.ref i3) >>= _) _ _ ⟨g2, gl, dn, t2, ou⟩
  refine wpAny_bind (D3.item k _ _ _ l3 (D3.over (D3.over (D3.over (D3.over (D3.over q3 b0 W.z3) e1 W.s1_3) b1 W.o3) e2 W.s2_3) b2 W.o3) fun x3 p3 t3 h3 v3 e3 => wpAny_pure ?_)
  replace e3 : Heap.SameBut i3 g2 p3 := e3
  have U3 : Tup4 p3 TO x1 x2 a3 a4 := e3.extBut _ _ W.oi3 (T2)
  refine wpAny_bind (wpAny_seqItems (s := ⟨p3, gl, dn, t3, ou⟩) U3 rfl ?_)
  refine wpAny_bind (upd_Tup4 (s := ⟨p3, gl, dn, t3, ou⟩) U3 fun g3 T3 b3 => ?_)
  replace T3 : Tup4 g3 TO x1 x2 x3 a4 := T3
  replace b3 : Heap.SameBut TO p3 g3 := b3
  refine wpAny_bind (wpAny_letGo (wpAny_pure ?_))
  refine wpAny_bind (wpAny_bind (wpAny_onRaise ?_))
  show wpAny _ _ (Builtin.SmallTypes.nextOf (.ref i4) >>= _) _ _ ⟨g3, gl, dn, t3, ou⟩
  refine wpAny_bind (D4.item k _ _ _ l4 (D4.over (D4.over (D4.over (D4.over (D4.over (D4.over (D4.over q4 b0 W.z4) e1 W.s1_4) b1 W.o4) e2 W.s2_4) b2 W.o4) e3 W.s3_4) b3 W.o4) fun x4 p4 t4 h4 v4 e4 => wpAny_pure ?_)
  replace e4 : Heap.SameBut i4 g3 p4 := e4
  have U4 : Tup4 p4 TO x1 x2 x3 a4 := e4.extBut _ _ W.oi4 (T3)
  refine wpAny_bind (wpAny_seqItems (s := ⟨p4, gl, dn, t4, ou⟩) U4 rfl ?_)
  refine wpAny_bind (upd_Tup4 (s := ⟨p4, gl, dn, t4, ou⟩) U4 fun g4 T4 b4 => ?_)
  replace T4 : Tup4 g4 TO x1 x2 x3 x4 := T4
  replace b4 : Heap.SameBut TO p4 g4 := b4
  refine wpAny_bind (wpAny_letGo (wpAny_pure (wpAny_pure ?_)))
  refine wpAny_bind (wpAny_seqItems (s := ⟨g4, gl, dn, t4, ou⟩) T4 rfl ?_)
  refine wpAny_bind (wpAny_newTuple (show _ from ?_))
  have sz : g4.objs.size = hp.objs.size := by rw [b4.1, e4.1, b3.1, e3.1, b2.1, e2.1, b1.1, e1.1, b0.1]
  have zz : IsZip g4 z TI TO .ellipsis := (b4.extBut _ _ W.oz.symm (e4.extBut _ _ W.zi4 (b3.extBut _ _ W.oz.symm (e3.extBut _ _ W.zi3 (b2.extBut _ _ W.oz.symm (e2.extBut _ _ W.zi2 (b1.extBut _ _ W.oz.symm (e1.extBut _ _ W.zi1 hz0))))))))
  have kk : ∀ c o, c ≠ z → c ≠ TO → c ≠ i1 → c ≠ i2 → c ≠ i3 → c ≠ i4 → hp.get? c = some o → g4.get? c = some o := fun c o cz cT c1 c2 c3 c4 e => (b4.extBut _ _ cT (e4.extBut _ _ c4 (b3.extBut _ _ cT (e3.extBut _ _ c3 (b2.extBut _ _ cT (e2.extBut _ _ c2 (b1.extBut _ _ cT (e1.extBut _ _ c1 (b0.extBut _ _ cz e)))))))))
  have w1 : S1 (k + 1) g4 := (D1.over (D1.over (D1.over (D1.over (D1.over (D1.over (D1.over v1 b1 W.o1) e2 W.s2_1) b2 W.o1) e3 W.s3_1) b3 W.o1) e4 W.s4_1) b4 W.o1)
  have w2 : S2 (k + 1) g4 := (D2.over (D2.over (D2.over (D2.over (D2.over v2 b2 W.o2) e3 W.s3_2) b3 W.o2) e4 W.s4_2) b4 W.o2)
  have w3 : S3 (k + 1) g4 := (D3.over (D3.over (D3.over v3 b3 W.o3) e4 W.s4_3) b4 W.o3)
  have w4 : S4 (k + 1) g4 := (D4.over v4 b4 W.o4)
  have zl : z < g4.objs.size := Heap.lt_size zz
  show wpAny _ _ (Builtin.SmallTypes.ownedTupleHandOut (.ref z) (.ref g4.objs.size) >>= _) _ _ ⟨g4.push { cls := .type "tuple", data := .seq #[x1, x2, x3, x4] }, gl, dn, t4, ou⟩
  refine wpAny_bind ?_
  (unfold Builtin.SmallTypes.ownedTupleHandOut; skip)
  have z6 : IsZip (g4.push { cls := .type "tuple", data := .seq #[x1, x2, x3, x4] }) z TI TO .ellipsis := Heap.get?_push_of_some _ zz
  refine wpAny_bind (wpAny_setField_rec z6 (by simp) fun h7 z7 b7 => ?_)
  replace z7 : IsZip h7 z TI TO (rawInt g4.objs.size) := z7
  refine wpAny_setField_rec z7 (by simp) fun h8 z8 b8 => ?_
  replace z8 : IsZip h8 z TI TO (rawInt g4.objs.size) := z8
  replace b7 : Heap.SameBut z (g4.push { cls := .type "tuple", data := .seq #[x1, x2, x3, x4] }) h7 := b7
  replace b8 : Heap.SameBut z h7 h8 := b8
  have up : ∀ c o, c ≠ z → g4.get? c = some o → h8.get? c = some o := fun c o c1 e => b8.extBut _ _ c1 (b7.extBut _ _ c1 (Heap.get?_push_of_some _ e))
  have T8 : Tup4 h8 g4.objs.size x1 x2 x3 x4 := b8.extBut _ _ (Nat.ne_of_gt zl) (b7.extBut _ _ (Nat.ne_of_gt zl) (Heap.get?_push_size _ rfl))
  have s8 : h8.objs.size = g4.objs.size + 1 := by rw [b8.1, b7.1, Heap.size_push]
  rw [sz] at z8 T8 s8
  refine wpAny_pure ⟨_, rfl, ?_⟩
  show Q (.ref g4.objs.size) ⟨h8, gl, dn, t4, ou⟩
  rw [sz]
  exact hQ x1 x2 x3 x4 h8 t4 h1 h2 h3 h4 z8 (up _ _ W.oz T4) (D1.frame _ _ _ w1 fun b hb o e => up b o (fun q => W.z1 (q ▸ hb)) e) (D2.frame _ _ _ w2 fun b hb o e => up b o (fun q => W.z2 (q ▸ hb)) e) (D3.frame _ _ _ w3 fun b hb o e => up b o (fun q => W.z3 (q ▸ hb)) e) (D4.frame _ _ _ w4 fun b hb o e => up b o (fun q => W.z4 (q ▸ hb)) e) T8 s8 fun c o cz cT c1 c2 c3 c4 e => up c o cz (kk c o cz cT c1 c2 c3 c4 e)
theorem zip4_end {Q : PySem.Fin → Shared → Prop} (W : Sep4 z TI TO i1 i2 i3 i4 fp1 fp2 fp3 fp4) (D1 : Draws prog w A i1 fp1 n1 P1 S1) (D2 : Draws prog w A i2 fp2 n2 P2 S2) (D3 : Draws prog w A i3 fp3 n3 P3 S3) (D4 : Draws prog w A i4 fp4 n4 P4 S4)
    (hz : IsZip s.heap z TI TO .none) (hI : Tup4 s.heap TI (.ref i1) (.ref i2) (.ref i3) (.ref i4)) (hO : Tup4 s.heap TO a1 a2 a3 a4) (q1 : S1 k s.heap) (q2 : S2 k s.heap) (q3 : S3 k s.heap) (q4 : S4 k s.heap) (l1 : k ≤ n1) (l2 : k ≤ n2) (l3 : k ≤ n3) (l4 : k ≤ n4) (hend : k = n1 ∨ k = n2 ∨ k = n3 ∨ k = n4)
    (hE : ∀ g tk e, (∀ c o, c ≠ z → c ≠ TO → c ≠ i1 → c ≠ i2 → c ≠ i3 → c ≠ i4 → s.heap.get? c = some o → g.get? c = some o) → (∃ o, g.get? e = some o ∧ o.cls = .type "StopIteration") → E (.ref e) { s with heap := g, toks := tk }) :
    wpAny (model prog w) A (Builtin.«zip.__next__» ⟨[.ref z], []⟩) Q E s := by
  obtain ⟨hp, gl, dn, t0, ou⟩ := s
  show wpAny _ _ (field (.ref z) 2 >>= _) _ _ _
  refine wpAny_bind (wpAny_field hz rfl (x := .bool false) rfl (show _ from ?_))
  show wpAny _ _ (field (.ref z) 3 >>= _) _ _ _
  refine wpAny_bind (wpAny_field hz rfl (x := .ref TI) rfl (show _ from ?_))
  refine wpAny_bind (wpAny_seqItems hI rfl ?_)
  show wpAny _ _ (Builtin.SmallTypes.ownedTupleIsFree (.ref z) >>= _) _ _ _
  refine wpAny_bind ?_
  (unfold Builtin.SmallTypes.ownedTupleIsFree; skip)
  refine wpAny_bind (wpAny_field hz rfl (x := .none) rfl (wpAny_pure (show _ from ?_)))
  simp only [if_true]
  refine wpAny_bind (wpAny_rule ?_)
  refine wpAny_bind (wpAny_field hz rfl (x := .ref TO) rfl (show _ from ?_))
  refine wpAny_bind (wpAny_setField_rec hz (by simp) fun g0 hz0 b0 => ?_)
  replace hz0 : IsZip g0 z TI TO .ellipsis := hz0
  replace b0 : Heap.SameBut z hp g0 := b0
  refine wpAny_bind ?_
  simp only [List.forIn_cons, List.forIn_nil, List.zipIdx_cons, List.zipIdx_nil]
  refine wpAny_bind (wpAny_bind (wpAny_onRaise ?_))
  show wpAny _ _ (Builtin.SmallTypes.nextOf (.ref i1) >>= _) _ _ ⟨g0, gl, dn, t0, ou⟩
  by_cases l1' : k < n1
  · refine wpAny_bind (D1.item k _ _ _ l1' (D1.over q1 b0 W.z1) fun x1 p1 t1 h1 v1 e1 => wpAny_pure ?_)
    replace e1 : Heap.SameBut i1 g0 p1 := e1
    have U1 : Tup4 p1 TO a1 a2 a3 a4 := e1.extBut _ _ W.oi1 (b0.extBut _ _ W.oz hO)
    refine wpAny_bind (wpAny_seqItems (s := ⟨p1, gl, dn, t1, ou⟩) U1 rfl ?_)
    refine wpAny_bind (upd_Tup4 (s := ⟨p1, gl, dn, t1, ou⟩) U1 fun g1 T1 b1 => ?_)
    replace T1 : Tup4 g1 TO x1 a2 a3 a4 := T1
    replace b1 : Heap.SameBut TO p1 g1 := b1
    refine wpAny_bind (wpAny_letGo (wpAny_pure ?_))
    refine wpAny_bind (wpAny_bind (wpAny_onRaise ?_))
    show wpAny _ _ (Builtin.SmallTypes.nextOf (.ref i2) >>= _) _ _ ⟨g1, gl, dn, t1, ou⟩
    by_cases l2' : k < n2
    · refine wpAny_bind (D2.item k _ _ _ l2' (D2.over (D2.over (D2.over q2 b0 W.z2) e1 W.s1_2) b1 W.o2) fun x2 p2 t2 h2 v2 e2 => wpAny_pure ?_)
      replace e2 : Heap.SameBut i2 g1 p2 := e2
      have U2 : Tup4 p2 TO x1 a2 a3 a4 := e2.extBut _ _ W.oi2 (T1)
      refine wpAny_bind (wpAny_seqItems (s := ⟨p2, gl, dn, t2, ou⟩) U2 rfl ?_)
      refine wpAny_bind (upd_Tup4 (s := ⟨p2, gl, dn, t2, ou⟩) U2 fun g2 T2 b2 => ?_)
      replace T2 : Tup4 g2 TO x1 x2 a3 a4 := T2
      replace b2 : Heap.SameBut TO p2 g2 := b2
      refine wpAny_bind (wpAny_letGo (wpAny_pure ?_))
      refine wpAny_bind (wpAny_bind (wpAny_onRaise ?_))
      show wpAny _ _ (Builtin.SmallTypes.nextOf (.ref i3) >>= _) _ _ ⟨g2, gl, dn, t2, ou⟩
      by_cases l3' : k < n3
      · refine wpAny_bind (D3.item k _ _ _ l3' (D3.over (D3.over (D3.over (D3.over (D3.over q3 b0 W.z3) e1 W.s1_3) b1 W.o3) e2 W.s2_3) b2 W.o3) fun x3 p3 t3 h3 v3 e3 => wpAny_pure ?_)
        replace e3 : Heap.SameBut i3 g2 p3 := e3
        have U3 : Tup4 p3 TO x1 x2 a3 a4 := e3.extBut _ _ W.oi3 (T2)
        refine wpAny_bind (wpAny_seqItems (s := ⟨p3, gl, dn, t3, ou⟩) U3 rfl ?_)
        refine wpAny_bind (upd_Tup4 (s := ⟨p3, gl, dn, t3, ou⟩) U3 fun g3 T3 b3 => ?_)
        replace T3 : Tup4 g3 TO x1 x2 x3 a4 := T3
        replace b3 : Heap.SameBut TO p3 g3 := b3
        refine wpAny_bind (wpAny_letGo (wpAny_pure ?_))
        refine wpAny_bind (wpAny_bind (wpAny_onRaise ?_))
        show wpAny _ _ (Builtin.SmallTypes.nextOf (.ref i4) >>= _) _ _ ⟨g3, gl, dn, t3, ou⟩
        have y4 : k = n4 := by omega
        refine wpAny_bind (D4.done ⟨g3, gl, dn, t3, ou⟩ _ _ (by rw [← y4]; exact (D4.over (D4.over (D4.over (D4.over (D4.over (D4.over (D4.over q4 b0 W.z4) e1 W.s1_4) b1 W.o4) e2 W.s2_4) b2 W.o4) e3 W.s3_4) b3 W.o4)) fun q e hq he => ?_)
        replace hq : Heap.ExtBut i4 g3 q := hq
        obtain ⟨oe, ge, ce⟩ := he
        replace ge : q.get? e = some oe := ge
        have zq : IsZip q z TI TO .ellipsis := hq _ _ W.zi4 (b3.extBut _ _ W.oz.symm (e3.extBut _ _ W.zi3 (b2.extBut _ _ W.oz.symm (e2.extBut _ _ W.zi2 (b1.extBut _ _ W.oz.symm (e1.extBut _ _ W.zi1 hz0))))))
        have ez : e ≠ z := fun x => by subst x; rw [zq] at ge; cases ge; simp at ce
        refine wpAny_setField_rec (s := ⟨q, gl, dn, t3, ou⟩) zq (by simp) fun q1 _ bq => ?_
        replace bq : Heap.SameBut z q q1 := bq
        exact hE q1 t3 e (fun c o cz cT c1 c2 c3 c4 x => bq.extBut _ _ cz (hq _ _ c4 (b3.extBut _ _ cT (e3.extBut _ _ c3 (b2.extBut _ _ cT (e2.extBut _ _ c2 (b1.extBut _ _ cT (e1.extBut _ _ c1 (b0.extBut _ _ cz x))))))))) ⟨oe, bq.extBut _ _ ez ge, ce⟩
      · have y3 : k = n3 := by omega
        refine wpAny_bind (D3.done ⟨g2, gl, dn, t2, ou⟩ _ _ (by rw [← y3]; exact (D3.over (D3.over (D3.over (D3.over (D3.over q3 b0 W.z3) e1 W.s1_3) b1 W.o3) e2 W.s2_3) b2 W.o3)) fun q e hq he => ?_)
        replace hq : Heap.ExtBut i3 g2 q := hq
        obtain ⟨oe, ge, ce⟩ := he
        replace ge : q.get? e = some oe := ge
        have zq : IsZip q z TI TO .ellipsis := hq _ _ W.zi3 (b2.extBut _ _ W.oz.symm (e2.extBut _ _ W.zi2 (b1.extBut _ _ W.oz.symm (e1.extBut _ _ W.zi1 hz0))))
        have ez : e ≠ z := fun x => by subst x; rw [zq] at ge; cases ge; simp at ce
        refine wpAny_setField_rec (s := ⟨q, gl, dn, t2, ou⟩) zq (by simp) fun q1 _ bq => ?_
        replace bq : Heap.SameBut z q q1 := bq
        exact hE q1 t2 e (fun c o cz cT c1 c2 c3 c4 x => bq.extBut _ _ cz (hq _ _ c3 (b2.extBut _ _ cT (e2.extBut _ _ c2 (b1.extBut _ _ cT (e1.extBut _ _ c1 (b0.extBut _ _ cz x))))))) ⟨oe, bq.extBut _ _ ez ge, ce⟩
    · have y2 : k = n2 := by omega
      refine wpAny_bind (D2.done ⟨g1, gl, dn, t1, ou⟩ _ _ (by rw [← y2]; exact (D2.over (D2.over (D2.over q2 b0 W.z2) e1 W.s1_2) b1 W.o2)) fun q e hq he => ?_)
      replace hq : Heap.ExtBut i2 g1 q := hq
      obtain ⟨oe, ge, ce⟩ := he
      replace ge : q.get? e = some oe := ge
      have zq : IsZip q z TI TO .ellipsis := hq _ _ W.zi2 (b1.extBut _ _ W.oz.symm (e1.extBut _ _ W.zi1 hz0))
      have ez : e ≠ z := fun x => by subst x; rw [zq] at ge; cases ge; simp at ce
      refine wpAny_setField_rec (s := ⟨q, gl, dn, t1, ou⟩) zq (by simp) fun q1 _ bq => ?_
      replace bq : Heap.SameBut z q q1 := bq
      exact hE q1 t1 e (fun c o cz cT c1 c2 c3 c4 x => bq.extBut _ _ cz (hq _ _ c2 (b1.extBut _ _ cT (e1.extBut _ _ c1 (b0.extBut _ _ cz x))))) ⟨oe, bq.extBut _ _ ez ge, ce⟩
  · have y1 : k = n1 := by omega
    refine wpAny_bind (D1.done ⟨g0, gl, dn, t0, ou⟩ _ _ (by rw [← y1]; exact (D1.over q1 b0 W.z1)) fun q e hq he => ?_)
    replace hq : Heap.ExtBut i1 g0 q := hq
    obtain ⟨oe, ge, ce⟩ := he
    replace ge : q.get? e = some oe := ge
    have zq : IsZip q z TI TO .ellipsis := hq _ _ W.zi1 hz0
    have ez : e ≠ z := fun x => by subst x; rw [zq] at ge; cases ge; simp at ce
    refine wpAny_setField_rec (s := ⟨q, gl, dn, t0, ou⟩) zq (by simp) fun q1 _ bq => ?_
    replace bq : Heap.SameBut z q q1 := bq
    exact hE q1 t0 e (fun c o cz cT c1 c2 c3 c4 x => bq.extBut _ _ cz (hq _ _ c1 (b0.extBut _ _ cz x))) ⟨oe, bq.extBut _ _ ez ge, ce⟩
theorem next_zip4_item {Q : Option Value → Shared → Prop} (W : Sep4 z TI TO i1 i2 i3 i4 fp1 fp2 fp3 fp4) (D1 : Draws prog w A.in1 i1 fp1 n1 P1 S1) (D2 : Draws prog w A.in1 i2 fp2 n2 P2 S2) (D3 : Draws prog w A.in1 i3 fp3 n3 P3 S3) (D4 : Draws prog w A.in1 i4 fp4 n4 P4 S4)
    (hz : IsZip s.heap z TI TO .none) (hI : Tup4 s.heap TI (.ref i1) (.ref i2) (.ref i3) (.ref i4)) (hO : Tup4 s.heap TO a1 a2 a3 a4) (q1 : S1 k s.heap) (q2 : S2 k s.heap) (q3 : S3 k s.heap) (q4 : S4 k s.heap) (l1 : k < n1) (l2 : k < n2) (l3 : k < n3) (l4 : k < n4)
    (hQ : ∀ x1 x2 x3 x4 g tk, P1 k x1 → P2 k x2 → P3 k x3 → P4 k x4 → IsZip g z TI TO (rawInt s.heap.objs.size) → Tup4 g TO x1 x2 x3 x4 → S1 (k + 1) g → S2 (k + 1) g → S3 (k + 1) g → S4 (k + 1) g → Tup4 g s.heap.objs.size x1 x2 x3 x4 → g.objs.size = s.heap.objs.size + 1 → (∀ c o, c ≠ z → c ≠ TO → c ≠ i1 → c ≠ i2 → c ≠ i3 → c ≠ i4 → s.heap.get? c = some o → g.get? c = some o) → Q (some (.ref s.heap.objs.size)) { s with heap := g, toks := tk }) : wpAny (model prog w) A (pyNext (.ref z)) Q E s := by
  have hT : s.TypeIs (.ref z) "zip" := ⟨_, hz, rfl⟩
  unfold pyNext
  exact wpAny_bind (wpAny_attempt (wpAny_callSpecial?_slot (name := Str.ofString "__next__") hT F.slot_zip_next (wpAny_call_entry F.slot_zip_next hT F.entry_zip_next (zip4_item W D1 D2 D3 D4 hz hI hO q1 q2 q3 q4 l1 l2 l3 l4 fun x1 x2 x3 x4 g tk y1 y2 y3 y4 u1 u2 w1 w2 w3 w4 u3 u4 u5 => wpAny_pure (hQ x1 x2 x3 x4 g tk y1 y2 y3 y4 u1 u2 w1 w2 w3 w4 u3 u4 u5)) (F.args_zip_next_1 _))))
theorem next_zip4_end {Q : Option Value → Shared → Prop} (W : Sep4 z TI TO i1 i2 i3 i4 fp1 fp2 fp3 fp4) (D1 : Draws prog w A.in1 i1 fp1 n1 P1 S1) (D2 : Draws prog w A.in1 i2 fp2 n2 P2 S2) (D3 : Draws prog w A.in1 i3 fp3 n3 P3 S3) (D4 : Draws prog w A.in1 i4 fp4 n4 P4 S4)
    (hz : IsZip s.heap z TI TO .none) (hI : Tup4 s.heap TI (.ref i1) (.ref i2) (.ref i3) (.ref i4)) (hO : Tup4 s.heap TO a1 a2 a3 a4) (q1 : S1 k s.heap) (q2 : S2 k s.heap) (q3 : S3 k s.heap) (q4 : S4 k s.heap) (l1 : k ≤ n1) (l2 : k ≤ n2) (l3 : k ≤ n3) (l4 : k ≤ n4) (hend : k = n1 ∨ k = n2 ∨ k = n3 ∨ k = n4)
    (hQ : ∀ g tk, (∀ c o, c ≠ z → c ≠ TO → c ≠ i1 → c ≠ i2 → c ≠ i3 → c ≠ i4 → s.heap.get? c = some o → g.get? c = some o) → Q none { s with heap := g, toks := tk }) : wpAny (model prog w) A (pyNext (.ref z)) Q E s := by
  have hT : s.TypeIs (.ref z) "zip" := ⟨_, hz, rfl⟩
  unfold pyNext
  refine wpAny_bind (wpAny_attempt (wpAny_callSpecial?_slot (name := Str.ofString "__next__") hT F.slot_zip_next (wpAny_call_entry F.slot_zip_next hT F.entry_zip_next (zip4_end W D1 D2 D3 D4 hz hI hO q1 q2 q3 q4 l1 l2 l3 l4 hend fun g tk e hk he => ?_) (F.args_zip_next_1 _))))
  obtain ⟨oe, ge, ce⟩ := he
  exact wpAny_bind (wpAny_isInstance (T := "StopIteration") (b := true) ⟨oe, ge, ce⟩ isSubtype_stop (wpAny_pure (hQ _ _ hk)))
end
abbrev zT4 (h : Heap) (o1 o2 o3 o4 : Obj) : Heap := ((((h.push o1).push o2).push o3).push o4).push { cls := .type "tuple", data := .seq #[.ref h.objs.size, .ref (h.push o1).objs.size, .ref ((h.push o1).push o2).objs.size, .ref (((h.push o1).push o2).push o3).objs.size] }
abbrev zO4 (h : Heap) (o1 o2 o3 o4 : Obj) : Heap := (zT4 h o1 o2 o3 o4).push { cls := .type "tuple", data := .seq #[.none, .none, .none, .none] }
abbrev zZ4 (h : Heap) (o1 o2 o3 o4 : Obj) : Heap := (zO4 h o1 o2 o3 o4).push { cls := .type "zip", data := .fields #[.none, .bool false, .bool false, .ref ((((h.push o1).push o2).push o3).push o4).objs.size, .ref (zT4 h o1 o2 o3 o4).objs.size] }
theorem tyZip4 (v1 v2 v3 v4 : Value) : checkTypeCall "zip" ⟨[v1, v2, v3, v4], []⟩ = pure () := by kernel_rfl
theorem newZip4 (v1 v2 v3 v4 : Value) : checkBuiltinCall "zip.__new__" ⟨[.type "zip", v1, v2, v3, v4], []⟩ = pure () := by kernel_rfl
theorem iniZip4 (x v1 v2 v3 v4 : Value) : argsOk "object.__init__" ⟨[x, v1, v2, v3, v4], []⟩ := by unfold argsOk; kernel_rfl
theorem meets_zip4 {v1 v2 v3 v4 : Value} {o1 o2 o3 o4 : Obj} {H1 H2 H3 H4 : Heap → Prop} (B1 : Begins v1 o1 H1) (B2 : Begins v2 o2 H2) (B3 : Begins v3 o3 H3) (B4 : Begins v4 o4 H4) :
    Meets (Builtin.«zip.__new__» ⟨[.type "zip", v1, v2, v3, v4], []⟩) (fun _ R s => (H1 s.heap ∧ H2 s.heap ∧ H3 s.heap ∧ H4 s.heap) ∧ R (.ok (.ret (.ref (zO4 s.heap o1 o2 o3 o4).objs.size))) { s with heap := zZ4 s.heap o1 o2 o3 o4 }) :=
  .of_wp fun prog w A R s hh => by
    obtain ⟨h, gl, dn, tk, ou⟩ := s; obtain ⟨⟨k1, k2, k3, k4⟩, hh⟩ := hh
    have hsub := sub_zip
    have r1 : ∀ {A1 : Around} {E : Value → Shared → Prop} {Q : Value → Shared → Prop}, Q (.ref h.objs.size) ⟨(h.push o1), gl, dn, tk, ou⟩ → wpAny (model prog w) A1 (pyIter v1) Q E ⟨h, gl, dn, tk, ou⟩ := fun q => B1.iter prog w _ _ ⟨h, gl, dn, tk, ou⟩ _ (B1.keeps _ _ k1 fun b o e => e) q
    have r2 : ∀ {A1 : Around} {E : Value → Shared → Prop} {Q : Value → Shared → Prop}, Q (.ref (h.push o1).objs.size) ⟨((h.push o1).push o2), gl, dn, tk, ou⟩ → wpAny (model prog w) A1 (pyIter v2) Q E ⟨(h.push o1), gl, dn, tk, ou⟩ := fun q => B2.iter prog w _ _ ⟨(h.push o1), gl, dn, tk, ou⟩ _ (B2.keeps _ _ k2 fun b o e => (Heap.get?_push_of_some _ e)) q
    have r3 : ∀ {A1 : Around} {E : Value → Shared → Prop} {Q : Value → Shared → Prop}, Q (.ref ((h.push o1).push o2).objs.size) ⟨(((h.push o1).push o2).push o3), gl, dn, tk, ou⟩ → wpAny (model prog w) A1 (pyIter v3) Q E ⟨((h.push o1).push o2), gl, dn, tk, ou⟩ := fun q => B3.iter prog w _ _ ⟨((h.push o1).push o2), gl, dn, tk, ou⟩ _ (B3.keeps _ _ k3 fun b o e => (Heap.get?_push_of_some _ (Heap.get?_push_of_some _ e))) q
    have r4 : ∀ {A1 : Around} {E : Value → Shared → Prop} {Q : Value → Shared → Prop}, Q (.ref (((h.push o1).push o2).push o3).objs.size) ⟨((((h.push o1).push o2).push o3).push o4), gl, dn, tk, ou⟩ → wpAny (model prog w) A1 (pyIter v4) Q E ⟨(((h.push o1).push o2).push o3), gl, dn, tk, ou⟩ := fun q => B4.iter prog w _ _ ⟨(((h.push o1).push o2).push o3), gl, dn, tk, ou⟩ _ (B4.keeps _ _ k4 fun b o e => (Heap.get?_push_of_some _ (Heap.get?_push_of_some _ (Heap.get?_push_of_some _ e)))) q
    wp_walk using r1, r2, r3, r4
    exact ⟨_, rfl, hh⟩
section
variable {prog : Program} {w : World} {A : Around} {E : Value → Shared → Prop} {s : Shared}
theorem begins_zip4 {v1 v2 v3 v4 : Value} {o1 o2 o3 o4 : Obj} {H1 H2 H3 H4 : Heap → Prop} {Q : Value → Shared → Prop} (B1 : Begins v1 o1 H1) (B2 : Begins v2 o2 H2) (B3 : Begins v3 o3 H3) (B4 : Begins v4 o4 H4) (k1 : H1 s.heap) (k2 : H2 s.heap) (k3 : H3 s.heap) (k4 : H4 s.heap)
    (hh : ∀ g, IsZip g (s.heap.objs.size + 6) (s.heap.objs.size + 4) (s.heap.objs.size + 5) .none → Tup4 g (s.heap.objs.size + 4) (.ref s.heap.objs.size) (.ref (s.heap.objs.size + 1)) (.ref (s.heap.objs.size + 2)) (.ref (s.heap.objs.size + 3)) → Tup4 g (s.heap.objs.size + 5) .none .none .none .none → g.get? s.heap.objs.size = some o1 → g.get? (s.heap.objs.size + 1) = some o2 → g.get? (s.heap.objs.size + 2) = some o3 → g.get? (s.heap.objs.size + 3) = some o4 → g.objs.size = s.heap.objs.size + 7 → (∀ c o, s.heap.get? c = some o → g.get? c = some o) → Q (.ref (s.heap.objs.size + 6)) { s with heap := g }) :
    wpAny (model prog w) A (call (.type "zip") [v1, v2, v3, v4]) Q E s := by
  refine callType_new F.called_zip (by decide) (tyZip4 _ _ _ _) (newZip4 _ _ _ _) (fun x => iniZip4 x _ _ _ _) F.entry_zip_new (meets_zip4 B1 B2 B3 B4) ⟨⟨k1, k2, k3, k4⟩, ?_⟩
  have z1 : (s.heap.push o1).objs.size = s.heap.objs.size + 1 := by rw [Heap.size_push]
  have z2 : ((s.heap.push o1).push o2).objs.size = s.heap.objs.size + 2 := by rw [Heap.size_push, z1]
  have z3 : (((s.heap.push o1).push o2).push o3).objs.size = s.heap.objs.size + 3 := by rw [Heap.size_push, z2]
  have z4 : ((((s.heap.push o1).push o2).push o3).push o4).objs.size = s.heap.objs.size + 4 := by rw [Heap.size_push, z3]
  have zT : (zT4 s.heap o1 o2 o3 o4).objs.size = s.heap.objs.size + 5 := by rw [Heap.size_push, z4]
  have zO : (zO4 s.heap o1 o2 o3 o4).objs.size = s.heap.objs.size + 6 := by rw [Heap.size_push, zT]
  have zZ : (zZ4 s.heap o1 o2 o3 o4).objs.size = s.heap.objs.size + 7 := by rw [Heap.size_push, zO]
  have gZ : (zZ4 s.heap o1 o2 o3 o4).get? (zO4 s.heap o1 o2 o3 o4).objs.size = some { cls := .type "zip", data := .fields #[.none, .bool false, .bool false, .ref ((((s.heap.push o1).push o2).push o3).push o4).objs.size, .ref (zT4 s.heap o1 o2 o3 o4).objs.size] } := Heap.get?_push_size _ rfl
  have gO : (zZ4 s.heap o1 o2 o3 o4).get? (zT4 s.heap o1 o2 o3 o4).objs.size = some { cls := .type "tuple", data := .seq #[.none, .none, .none, .none] } := Heap.get?_push_of_some _ (Heap.get?_push_size _ rfl)
  have gT : (zZ4 s.heap o1 o2 o3 o4).get? ((((s.heap.push o1).push o2).push o3).push o4).objs.size = some { cls := .type "tuple", data := .seq #[.ref s.heap.objs.size, .ref (s.heap.push o1).objs.size, .ref ((s.heap.push o1).push o2).objs.size, .ref (((s.heap.push o1).push o2).push o3).objs.size] } := Heap.get?_push_of_some _ (Heap.get?_push_of_some _ (Heap.get?_push_size _ rfl))
  have g1 : (zZ4 s.heap o1 o2 o3 o4).get? s.heap.objs.size = some o1 := (Heap.get?_push_of_some _ (Heap.get?_push_of_some _ (Heap.get?_push_of_some _ (Heap.get?_push_of_some _ (Heap.get?_push_of_some _ (Heap.get?_push_of_some _ (Heap.get?_push_size _ B1.free)))))))
  have g2 : (zZ4 s.heap o1 o2 o3 o4).get? (s.heap.push o1).objs.size = some o2 := (Heap.get?_push_of_some _ (Heap.get?_push_of_some _ (Heap.get?_push_of_some _ (Heap.get?_push_of_some _ (Heap.get?_push_of_some _ (Heap.get?_push_size _ B2.free))))))
  have g3 : (zZ4 s.heap o1 o2 o3 o4).get? ((s.heap.push o1).push o2).objs.size = some o3 := (Heap.get?_push_of_some _ (Heap.get?_push_of_some _ (Heap.get?_push_of_some _ (Heap.get?_push_of_some _ (Heap.get?_push_size _ B3.free)))))
  have g4 : (zZ4 s.heap o1 o2 o3 o4).get? (((s.heap.push o1).push o2).push o3).objs.size = some o4 := (Heap.get?_push_of_some _ (Heap.get?_push_of_some _ (Heap.get?_push_of_some _ (Heap.get?_push_size _ B4.free))))
  rw [zO, zT, z4] at gZ
  rw [zT] at gO
  rw [z4, z3, z2, z1] at gT
  rw [z1] at g2
  rw [z2] at g3
  rw [z3] at g4
  show _ ∧ _
  rw [zO]
  exact ⟨⟨_, gZ, rfl⟩, hh _ gZ gT gO g1 g2 g3 g4 zZ fun c o e => (Heap.get?_push_of_some _ (Heap.get?_push_of_some _ (Heap.get?_push_of_some _ (Heap.get?_push_of_some _ (Heap.get?_push_of_some _ (Heap.get?_push_of_some _ (Heap.get?_push_of_some _ e)))))))⟩
end
theorem sep_new4 {M : Nat} {fp1 fp2 fp3 fp4 : List Addr} (h1 : ∀ b ∈ fp1, b < M) (h2 : ∀ b ∈ fp2, b < M) (h3 : ∀ b ∈ fp3, b < M) (h4 : ∀ b ∈ fp4, b < M) : Sep4 (M + 6) (M + 4) (M + 5) M (M + 1) (M + 2) (M + 3) (M :: fp1) ((M + 1) :: fp2) ((M + 2) :: fp3) ((M + 3) :: fp4) :=
  { iz := show (M + 4 : Nat) ≠ M + 6 by omega,
    oz := show (M + 5 : Nat) ≠ M + 6 by omega,
    io := show (M + 4 : Nat) ≠ M + 5 by omega,
    ii1 := show (M + 4 : Nat) ≠ M by omega,
    m1 := List.mem_cons_self ..,
    z1 := notIn_new (i := 0) h1 (by omega),
    o1 := notIn_new (i := 0) h1 (by omega),
    ii2 := show (M + 4 : Nat) ≠ M + 1 by omega,
    m2 := List.mem_cons_self ..,
    z2 := notIn_new (i := 1) h2 (by omega),
    o2 := notIn_new (i := 1) h2 (by omega),
    ii3 := show (M + 4 : Nat) ≠ M + 2 by omega,
    m3 := List.mem_cons_self ..,
    z3 := notIn_new (i := 2) h3 (by omega),
    o3 := notIn_new (i := 2) h3 (by omega),
    ii4 := show (M + 4 : Nat) ≠ M + 3 by omega,
    m4 := List.mem_cons_self ..,
    z4 := notIn_new (i := 3) h4 (by omega),
    o4 := notIn_new (i := 3) h4 (by omega),
    s1_2 := notIn_new (j := 0) (i := 1) h2 (by omega),
    s1_3 := notIn_new (j := 0) (i := 2) h3 (by omega),
    s1_4 := notIn_new (j := 0) (i := 3) h4 (by omega),
    s2_1 := notIn_new (j := 1) (i := 0) h1 (by omega),
    s2_3 := notIn_new (j := 1) (i := 2) h3 (by omega),
    s2_4 := notIn_new (j := 1) (i := 3) h4 (by omega),
    s3_1 := notIn_new (j := 2) (i := 0) h1 (by omega),
    s3_2 := notIn_new (j := 2) (i := 1) h2 (by omega),
    s3_4 := notIn_new (j := 2) (i := 3) h4 (by omega),
    s4_1 := notIn_new (j := 3) (i := 0) h1 (by omega),
    s4_2 := notIn_new (j := 3) (i := 1) h2 (by omega),
    s4_3 := notIn_new (j := 3) (i := 2) h3 (by omega) }
def Itz4 (K : PySem.W.Frag) (ka kb kc kd : Bool) (a b c d : Addr) : It :=
  ⟨fun i H => ∃ (xs1 xs2 xs3 xs4 : List V) (y1 y2 y3 y4 : V), SqB K ka H a xs1 ∧ SqB K kb H b xs2 ∧ SqB K kc H c xs3 ∧ SqB K kd H d xs4 ∧ xs1[i]? = some y1 ∧ xs2[i]? = some y2 ∧ xs3[i]? = some y3 ∧ xs4[i]? = some y4,
    fun i H v H1 => ∃ T y1 y2 y3 y4, v = .ref T ∧ H T = none ∧ H1 = upd H T (.tup [y1, y2, y3, y4]) ∧ (∀ l, SqB K ka H a l → l[i]? = some y1) ∧ (∀ l, SqB K kb H b l → l[i]? = some y2) ∧ (∀ l, SqB K kc H c l → l[i]? = some y3) ∧ (∀ l, SqB K kd H d l → l[i]? = some y4),
    fun i H => ∃ (xs1 xs2 xs3 xs4 : List V), SqB K ka H a xs1 ∧ SqB K kb H b xs2 ∧ SqB K kc H c xs3 ∧ SqB K kd H d xs4 ∧ min (min (min (xs1.length) xs2.length) xs3.length) xs4.length = i⟩
def iZip4 (K : PySem.W.Frag) (ka kb kc kd : Bool) (ta : TA) : TI := fun σ H R => ta σ H fun vs H1 => ∃ a b c d xs1 xs2 xs3 xs4, vs = [.ref a, .ref b, .ref c, .ref d] ∧ SqB K ka H1 a xs1 ∧ SqB K kb H1 b xs2 ∧ SqB K kc H1 c xs3 ∧ SqB K kd H1 d xs4 ∧ R (Itz4 K ka kb kc kd a b c d) H1
theorem turn_zip4 {P : Program} {w : World} {K : PySem.W.Frag} {ka kb kc kd : Bool} {elts : List Expr} {kk : Nat} {tpos : Pos} {a b c d z TI TO i1 i2 i3 i4 : Addr} (D : Sep4 z TI TO i1 i2 i3 i4 [i1, a] [i2, b] [i3, c] [i4, d]) (n1 : a ≠ i1) (n2 : b ≠ i2) (n3 : c ≠ i3) (n4 : d ≠ i4) :
    Turn P w K (.Tuple elts kk tpos) (Itz4 K ka kb kc kd a b c d) [z, TI, TO, i1, i2, i3, i4] z (fun i h => IsZip h z TI TO .none ∧ Tup4 h TI (.ref i1) (.ref i2) (.ref i3) (.ref i4) ∧ (∃ y1 y2 y3 y4, Tup4 h TO y1 y2 y3 y4) ∧ IterB ka h i1 a i ∧ IterB kb h i2 b i ∧ IterB kc h i3 c i ∧ IterB kd h i4 d i) where
  mem := by simp
  obj := fun i h st c hc => by
    obtain ⟨hz, hTI, ⟨y1, y2, y3, y4, hTO⟩, t1, t2, t3, t4⟩ := st
    have e1 : c = z ∨ c = TI ∨ c = TO ∨ c = i1 ∨ c = i2 ∨ c = i3 ∨ c = i4 := by simpa using hc
    rcases e1 with q | q | q | q | q | q | q
    · rw [q]; exact ⟨_, hz, fun v q => nomatch q⟩
    · rw [q]; exact ⟨_, hTI, fun v q => nomatch q⟩
    · rw [q]; exact ⟨_, hTO, fun v q => nomatch q⟩
    · rw [q]; exact t1.obj
    · rw [q]; exact t2.obj
    · rw [q]; exact t3.obj
    · rw [q]; exact t4.obj
  keep := fun i h h1 st k => by
    obtain ⟨hz, hTI, ⟨y1, y2, y3, y4, hTO⟩, t1, t2, t3, t4⟩ := st
    exact ⟨k z (by simp) _ hz, k TI (by simp) _ hTI, ⟨y1, y2, y3, y4, k TO (by simp) _ hTO⟩, t1.at fun o q => k i1 (by simp) o q, t2.at fun o q => k i2 (by simp) o q, t3.at fun o q => k i3 (by simp) o q, t4.at fun o q => k i4 (by simp) o q⟩
  item := by
    intro X hP hw hK hc i pins s σ H E I hf st hg
    subst hP hw hK
    obtain ⟨hz, hTI, ⟨u01, u02, u03, u04, hTO⟩, t1, t2, t3, t4⟩ := st
    obtain ⟨xs1, xs2, xs3, xs4, y1, y2, y3, y4, hq1, hq2, hq3, hq4, hx1, hx2, hx3, hx4⟩ := hg
    obtain ⟨its1, rv1, p1, _⟩ := seqB_of I hq1
    have ln1 := rv1.length
    have lt1 : i < xs1.length := (List.getElem?_eq_some_iff.mp hx1).1
    obtain ⟨its2, rv2, p2, _⟩ := seqB_of I hq2
    have ln2 := rv2.length
    have lt2 : i < xs2.length := (List.getElem?_eq_some_iff.mp hx2).1
    obtain ⟨its3, rv3, p3, _⟩ := seqB_of I hq3
    have ln3 := rv3.length
    have lt3 : i < xs3.length := (List.getElem?_eq_some_iff.mp hx3).1
    obtain ⟨its4, rv4, p4, _⟩ := seqB_of I hq4
    have ln4 := rv4.length
    have lt4 : i < xs4.length := (List.getElem?_eq_some_iff.mp hx4).1
    have hzl : z < s.heap.objs.size := Heap.lt_size hz
    have hh : X.A.in1.handled = none := I.ok.hd hc
    refine next_zip4_item D (drawsB (A := X.A.in1) ka hh i1 a n1 its1.toArray) (drawsB (A := X.A.in1) kb hh i2 b n2 its2.toArray) (drawsB (A := X.A.in1) kc hh i3 c n3 its3.toArray) (drawsB (A := X.A.in1) kd hh i4 d n4 its4.toArray) hz hTI hTO ⟨t1, p1⟩ ⟨t2, p2⟩ ⟨t3, p3⟩ ⟨t4, p4⟩ (by simp; omega) (by simp; omega) (by simp; omega) (by simp; omega) fun u1 u2 u3 u4 h1 tk hu1 hu2 hu3 hu4 z1 TO1 st1 st2 st3 st4 hT hsz hk => ?_
    have ru1 : RelV y1 u1 := by
      obtain ⟨w, hw, r⟩ := rv1.get hx1
      have e : its1.toArray[i]? = some w := by simpa using hw
      rw [hu1] at e
      cases e
      exact r
    have ru2 : RelV y2 u2 := by
      obtain ⟨w, hw, r⟩ := rv2.get hx2
      have e : its2.toArray[i]? = some w := by simpa using hw
      rw [hu2] at e
      cases e
      exact r
    have ru3 : RelV y3 u3 := by
      obtain ⟨w, hw, r⟩ := rv3.get hx3
      have e : its3.toArray[i]? = some w := by simpa using hw
      rw [hu3] at e
      cases e
      exact r
    have ru4 : RelV y4 u4 := by
      obtain ⟨w, hw, r⟩ := rv4.get hx4
      have e : its4.toArray[i]? = some w := by simpa using hw
      rw [hu4] at e
      cases e
      exact r
    refine ⟨_, rfl, wpAny_letOwnedTupleGo_zip (s := { s with heap := h1, toks := tk }) z1 fun h2 z2 sb => ?_⟩
    have hT2 : h2.get? s.heap.objs.size = some { cls := .type "tuple", data := .seq #[u1, u2, u3, u4] } := (sb.2 _ (Nat.ne_of_gt hzl)).trans hT
    have new : ObjOk X.prog X.w (upd H s.heap.objs.size (.tup [y1, y2, y3, y4])) h2 s.heap.objs.size (.tup [y1, y2, y3, y4]) := ⟨by show 4 ≤ sizeLine; decide, [u1, u2, u3, u4], (.cons ru1 (.cons ru2 (.cons ru3 (.cons ru4 .nil)))), ⟨_, hT2, rfl, _, rfl⟩⟩
    have I1 : Inv X pins σ (upd H s.heap.objs.size (.tup [y1, y2, y3, y4])) { s with heap := h2, toks := tk } := I.turnedNew (t' := tk) (ch := [z, TI, TO, i1, i2, i3, i4]) (fun c o hb q => (sb.2 c (fun q1 => hb (by simp [q1]))).trans (hk c o (fun q1 => hb (by simp [q1])) (fun q1 => hb (by simp [q1])) (fun q1 => hb (by simp [q1])) (fun q1 => hb (by simp [q1])) (fun q1 => hb (by simp [q1])) (fun q1 => hb (by simp [q1])) q)) hf (Nat.le_refl _) new
    refine ⟨.ref s.heap.objs.size, _, I1, rfl, ⟨_, y1, y2, y3, y4, rfl, I.hok.fresh (Nat.le_refl _), rfl, fun l hl => by rw [sqB_inj I hl hq1]; exact hx1, fun l hl => by rw [sqB_inj I hl hq2]; exact hx2, fun l hl => by rw [sqB_inj I hl hq3]; exact hx3, fun l hl => by rw [sqB_inj I hl hq4]; exact hx4⟩, ⟨z2, ?_, ⟨u1, u2, u3, u4, ?_⟩, ?_, ?_, ?_, ?_⟩, fun c hcm => ?_⟩
    · exact (sb.2 _ D.iz).trans (hk _ _ D.iz D.io D.ii1 D.ii2 D.ii3 D.ii4 hTI)
    · exact (sb.2 _ D.oz).trans TO1
    · exact st1.1.at fun o q => (sb.2 _ (Ne.symm D.zi1)).trans q
    · exact st2.1.at fun o q => (sb.2 _ (Ne.symm D.zi2)).trans q
    · exact st3.1.at fun o q => (sb.2 _ (Ne.symm D.zi3)).trans q
    · exact st4.1.at fun o q => (sb.2 _ (Ne.symm D.zi4)).trans q
    · have hlt : c < s.heap.objs.size := by
        have e1 : c = z ∨ c = TI ∨ c = TO ∨ c = i1 ∨ c = i2 ∨ c = i3 ∨ c = i4 := by simpa using hcm
        rcases e1 with q | q | q | q | q | q | q
        · rw [q]; exact hzl
        · rw [q]; exact Heap.lt_size hTI
        · rw [q]; exact Heap.lt_size hTO
        · rw [q]; obtain ⟨_, e1, _⟩ := t1.obj; exact Heap.lt_size e1
        · rw [q]; obtain ⟨_, e1, _⟩ := t2.obj; exact Heap.lt_size e1
        · rw [q]; obtain ⟨_, e1, _⟩ := t3.obj; exact Heap.lt_size e1
        · rw [q]; obtain ⟨_, e1, _⟩ := t4.obj; exact Heap.lt_size e1
      rw [upd_ne (Nat.ne_of_lt hlt)]
      exact (hf c hcm).1
  done := by
    intro X hP hw hK hc i pins s σ H E I hf st hg
    subst hP hw hK
    obtain ⟨hz, hTI, ⟨u01, u02, u03, u04, hTO⟩, t1, t2, t3, t4⟩ := st
    obtain ⟨xs1, xs2, xs3, xs4, hq1, hq2, hq3, hq4, hend⟩ := hg
    obtain ⟨its1, rv1, p1, _⟩ := seqB_of I hq1
    have ln1 := rv1.length
    obtain ⟨its2, rv2, p2, _⟩ := seqB_of I hq2
    have ln2 := rv2.length
    obtain ⟨its3, rv3, p3, _⟩ := seqB_of I hq3
    have ln3 := rv3.length
    obtain ⟨its4, rv4, p4, _⟩ := seqB_of I hq4
    have ln4 := rv4.length
    have hh : X.A.in1.handled = none := I.ok.hd hc
    exact next_zip4_end D (drawsB (A := X.A.in1) ka hh i1 a n1 its1.toArray) (drawsB (A := X.A.in1) kb hh i2 b n2 its2.toArray) (drawsB (A := X.A.in1) kc hh i3 c n3 its3.toArray) (drawsB (A := X.A.in1) kd hh i4 d n4 its4.toArray) hz hTI hTO ⟨t1, p1⟩ ⟨t2, p2⟩ ⟨t3, p3⟩ ⟨t4, p4⟩ (by simp; omega) (by simp; omega) (by simp; omega) (by simp; omega) (by simp; omega) fun h1 tk hk => ⟨rfl, I.turnedL (t' := tk) (ch := [z, TI, TO, i1, i2, i3, i4]) (fun c o hb q => hk c o (fun q1 => hb (by simp [q1])) (fun q1 => hb (by simp [q1])) (fun q1 => hb (by simp [q1])) (fun q1 => hb (by simp [q1])) (fun q1 => hb (by simp [q1])) (fun q1 => hb (by simp [q1])) q) hf⟩
  self := fun A i s Q E st h => wpAny_pyIter_zip st.1 h
theorem pi_zip4 (ka kb kc kd : Bool) {X : Cx} {e1 e2 e3 e4 : Expr} {ta : TA} {p pos tpos : Pos} {elts : List Expr} {kk : Nat} (hg : Gl X "zip") (hm : X.mg "zip" = none) (ha : PA X [e1, e2, e3, e4] ta)
    (hs : starEach [e1, e2, e3, e4] X.env = (false, eval e1 X.env) :: starEach [e2, e3, e4] X.env := by rfl) (hpl : (backTo pos (starEach [e2, e3, e4] X.env)).any (·.1) = false := by rfl) :
    PI X (.Tuple elts kk tpos) (.Call (.Name "zip" p) [e1, e2, e3, e4] [] pos) (iZip4 X.K ka kb kc kd ta) := by
  refine ⟨fun pins s σ H R I h => ?_⟩
  refine PyProof.Rows.Call_ (ld_blt I hg hm PyProof.Rows.boot_zip (PyProof.Rows.callWith_type1 (thn (ha.run pos pins s σ H _ I h) fun us s1 ⟨vs, H1, I1, r1, q1⟩ => ?_) hs hpl))
  obtain ⟨a, b, c, d, xs1, xs2, xs3, xs4, ex, hq1, hq2, hq3, hq4, q⟩ := q1
  subst ex
  cases r1 with
  | cons w1 rr1 =>
    cases rr1 with
    | cons w2 rr2 =>
      cases rr2 with
      | cons w3 rr3 =>
        cases rr3 with
        | cons w4 rr4 =>
          cases rr4
          cases w1
          cases w2
          cases w3
          cases w4
          have fr : ∀ c, c ∈ [s1.heap.objs.size + 6, s1.heap.objs.size + 4, s1.heap.objs.size + 5, s1.heap.objs.size, s1.heap.objs.size + 1, s1.heap.objs.size + 2, s1.heap.objs.size + 3] → FpOk X pins H1 c := fun c hcm => by
            have hle : s1.heap.objs.size ≤ c := by
              simp only [List.mem_cons, List.not_mem_nil, or_false] at hcm
              omega
            exact I1.fpOk hle (I1.hok.fresh hle)
          obtain ⟨its1, rv1, p1, la1⟩ := seqB_of I1 hq1
          obtain ⟨its2, rv2, p2, la2⟩ := seqB_of I1 hq2
          obtain ⟨its3, rv3, p3, la3⟩ := seqB_of I1 hq3
          obtain ⟨its4, rv4, p4, la4⟩ := seqB_of I1 hq4
          refine begins_zip4 (begins_B ka a its1.toArray) (begins_B kb b its2.toArray) (begins_B kc c its3.toArray) (begins_B kd d its4.toArray) p1 p2 p3 p4 fun h1 hz hTI hTO g1 g2 g3 g4 hsz hk => wpAny_pyIter_zip hz ?_
          have I2 : Inv X pins σ H1 { s1 with heap := h1 } := I1.kept (t' := s1.toks) hk
          exact ⟨s1.heap.objs.size + 6, [s1.heap.objs.size + 6, s1.heap.objs.size + 4, s1.heap.objs.size + 5, s1.heap.objs.size, s1.heap.objs.size + 1, s1.heap.objs.size + 2, s1.heap.objs.size + 3], _, _, H1, rfl, I2, turn_zip4 (sep_new4 (fp1 := [a]) (fp2 := [b]) (fp3 := [c]) (fp4 := [d]) (by simpa using la1) (by simpa using la2) (by simpa using la3) (by simpa using la4)) (Nat.ne_of_lt la1) (Nat.ne_of_lt (Nat.lt_of_lt_of_le la2 (Nat.le_add_right _ _))) (Nat.ne_of_lt (Nat.lt_of_lt_of_le la3 (Nat.le_add_right _ _))) (Nat.ne_of_lt (Nat.lt_of_lt_of_le la4 (Nat.le_add_right _ _))), ⟨hz, hTI, ⟨_, _, _, _, hTO⟩, iterB_new g1, iterB_new g2, iterB_new g3, iterB_new g4⟩, fr, q⟩
section
variable {K : PySem.W.Frag} {σ : L2.St} {G M M1 H : Hp} {ds1 ds2 ds3 ds4 : List Dat}
theorem pi_zip4K {X : Cx} (ka kb kc kd : Bool) {e1 e2 e3 e4 : Expr} {ta : TA} {p pos tpos : Pos} {elts : List Expr} {kk : Nat} (hg : Gl X "zip") (hm : X.mg "zip" = none) (ha : PA X [e1, e2, e3, e4] ta) (h : X.K = K := by rfl)
    (hs : starEach [e1, e2, e3, e4] X.env = (false, eval e1 X.env) :: starEach [e2, e3, e4] X.env := by rfl) (hpl : (backTo pos (starEach [e2, e3, e4] X.env)).any (·.1) = false := by rfl) :
    PI X (.Tuple elts kk tpos) (.Call (.Name "zip" p) [e1, e2, e3, e4] [] pos) (iZip4 K ka kb kc kd ta) := h ▸ pi_zip4 ka kb kc kd hg hm ha hs hpl
def zip4D (ds1 ds2 ds3 ds4 : List Dat) : List Dat := (ds1.zip (ds2.zip (ds3.zip ds4))).map fun p => .rtup [p.1, p.2.1, p.2.2.1, p.2.2.2]
theorem zip4D_get {i : Nat} {d : Dat} (h : (zip4D ds1 ds2 ds3 ds4)[i]? = some d) : ∃ y1 y2 y3 y4, d = .rtup [y1, y2, y3, y4] ∧ ds1[i]? = some y1 ∧ ds2[i]? = some y2 ∧ ds3[i]? = some y3 ∧ ds4[i]? = some y4 := by
  unfold zip4D at h
  rw [List.getElem?_map] at h
  obtain ⟨p, hp, rfl⟩ := Option.map_eq_some_iff.mp h
  have f1 := List.getElem?_zip_eq_some.mp hp
  have f2 := List.getElem?_zip_eq_some.mp f1.2
  have f3 := List.getElem?_zip_eq_some.mp f2.2
  exact ⟨_, _, _, _, rfl, f1.1, f2.1, f3.1, f3.2⟩
theorem src_zip4 {ka kb kc kd : Bool} {ta : TA} (h : EvA ta σ G M M1 (conP (DD K (seqD ka ds1)) (conP (DD K (seqD kb ds2)) (conP (DD K (seqD kc ds3)) (conP (DD K (seqD kd ds4)) (nilP)))))) : Src K (iZip4 K ka kb kc kd ta) σ G M M1 (zip4D ds1 ds2 ds3 ds4) := fun G0 H s k R q =>
  h G0 H s k _ fun vs G1 H1 s1 k1 hv => by
    obtain ⟨v1, _, rfl, hv1, v2, _, rfl, hv2, v3, _, rfl, hv3, v4, _, rfl, hv4, rfl⟩ := hv
    obtain ⟨a1, vs1, rfl, s11, d1⟩ := sqB_of hv1
    obtain ⟨a2, vs2, rfl, s12, d2⟩ := sqB_of hv2
    obtain ⟨a3, vs3, rfl, s13, d3⟩ := sqB_of hv3
    obtain ⟨a4, vs4, rfl, s14, d4⟩ := sqB_of hv4
    refine ⟨a1, a2, a3, a4, vs1, vs2, vs3, vs4, rfl, s11 _ k1.g, s12 _ k1.g, s13 _ k1.g, s14 _ k1.g, q _ G1 H1 s1 k1 ?_⟩
    have l1 := dpAll_len d1
    have l2 := dpAll_len d2
    have l3 := dpAll_len d3
    have l4 := dpAll_len d4
    have hl : (zip4D ds1 ds2 ds3 ds4).length = min (min (min (vs1.length) vs2.length) vs3.length) vs4.length := by
      unfold zip4D
      rw [List.length_map]
      simp only [List.length_zip]
      omega
    have w : Walk (Itz4 K ka kb kc kd a1 a2 a3 a4) (min (min (min (vs1.length) vs2.length) vs3.length) vs4.length) (fun H => SqB K ka H a1 vs1 ∧ SqB K kb H a2 vs2 ∧ SqB K kc H a3 vs3 ∧ SqB K kd H a4 vs4) (fun i H v H1 => ∃ T y1 y2 y3 y4, v = .ref T ∧ H T = none ∧ H1 = upd H T (.tup [y1, y2, y3, y4]) ∧ vs1[i]? = some y1 ∧ vs2[i]? = some y2 ∧ vs3[i]? = some y3 ∧ vs4[i]? = some y4) := by
      refine ⟨fun i _ hi q => ?_, fun _ q => ⟨vs1, vs2, vs3, vs4, q.1, q.2.1, q.2.2.1, q.2.2.2, rfl⟩, fun i H v H1 _ q y => ?_⟩
      · have b1 : i < vs1.length := by omega
        have b2 : i < vs2.length := by omega
        have b3 : i < vs3.length := by omega
        have b4 : i < vs4.length := by omega
        exact ⟨vs1, vs2, vs3, vs4, vs1[i], vs2[i], vs3[i], vs4[i], q.1, q.2.1, q.2.2.1, q.2.2.2, by simp [b1], by simp [b2], by simp [b3], by simp [b4]⟩
      · obtain ⟨T, y1, y2, y3, y4, f1, f2, f3, c1, c2, c3, c4⟩ := y
        exact ⟨T, y1, y2, y3, y4, f1, f2, f3, c1 _ q.1, c2 _ q.2.1, c3 _ q.2.2.1, c4 _ q.2.2.2⟩
    refine ⟨_, _, hl ▸ w, fun H s => ⟨s11 _ s, s12 _ s, s13 _ s, s14 _ s⟩, fun i d H x H1 G2 M2 hi s2 k2 y => ?_⟩
    obtain ⟨T, y1, y2, y3, y4, rfl, hT, rfl, c1, c2, c3, c4⟩ := y
    obtain ⟨m1, m2, m3, m4, rfl, f1, f2, f3, f4⟩ := zip4D_get hi
    have gT := Same.none k2.g hT
    have s3 : Same G2 (upd G2 T (.tup [y1, y2, y3, y4])) := Same.new gT
    exact ⟨upd G2 T (.tup [y1, y2, y3, y4]), s3, k2.newG _ hT, .rtup upd_same (.cons (dp_up (s2.trans s3) _ (dqAll_at d1 c1 f1)) (.cons (dp_up (s2.trans s3) _ (dqAll_at d2 c2 f2)) (.cons (dp_up (s2.trans s3) _ (dqAll_at d3 c3 f3)) (.cons (dp_up (s2.trans s3) _ (dqAll_at d4 c4 f4)) .nil))))⟩
abbrev eR4 {α1 α2 α3 α4 : Type} (e1 : α1 → Dat) (e2 : α2 → Dat) (e3 : α3 → Dat) (e4 : α4 → Dat) (p : α1 × α2 × α3 × α4) : Dat := .rtup [e1 p.1, e2 p.2.1, e3 p.2.2.1, e4 p.2.2.2]
theorem zip_map2 {α β γ δ : Type} (f : α → β) (g : γ → δ) : ∀ (xs : List α) (ys : List γ), (xs.map f).zip (ys.map g) = (xs.zip ys).map fun p => (f p.1, g p.2)
  | [], _ => rfl
  | _ :: _, [] => rfl
  | x :: xs, y :: ys => by rw [List.map_cons, List.map_cons, List.zip_cons_cons, List.zip_cons_cons, zip_map2 f g xs ys, List.map_cons]
theorem zip4D_map {α1 α2 α3 α4 : Type} {e1 : α1 → Dat} {e2 : α2 → Dat} {e3 : α3 → Dat} {e4 : α4 → Dat} {xs1 : List α1} {xs2 : List α2} {xs3 : List α3} {xs4 : List α4} : zip4D (xs1.map e1) (xs2.map e2) (xs3.map e3) (xs4.map e4) = (xs1.zip (xs2.zip (xs3.zip xs4))).map (eR4 e1 e2 e3 e4) := by
  unfold zip4D
  simp only [zip_map2, List.map_map]
  rfl
theorem tg_r4 {g1 g2 g3 g4 : TG} {v : V} {F : L2.St → Prop} {d1 d2 d3 d4 : Dat} (hv : Dq K G v (.rtup [d1, d2, d3, d4])) (h : ∀ v1 v2 v3 v4, Dq K G v1 d1 → Dq K G v2 d2 → Dq K G v3 d3 → Dq K G v4 d4 → (Tg g1 v1 σ G fun σ1 => (Tg g2 v2 σ1 G fun σ2 => (Tg g3 v3 σ2 G fun σ3 => (Tg g4 v4 σ3 G F))))) : Tg (gTup K 4 (gCons g1 (gCons g2 (gCons g3 (gCons g4 gNil))))) v σ G F :=
  tg_rtup hv rfl fun vs hs => by
    cases hs with
    | cons c1 r1 =>
      cases r1 with
      | cons c2 r2 =>
        cases r2 with
        | cons c3 r3 =>
          cases r3 with
          | cons c4 r4 =>
            cases r4
            exact (tgs_cons fun H1 Q1 s1 w1 => h _ _ _ _ c1 c2 c3 c4 H1 Q1 s1 fun σ1 z1 => w1 σ1 (tgs_cons fun H2 Q2 s2 w2 => z1 H2 Q2 s2 fun σ2 z2 => w2 σ2 (tgs_cons fun H3 Q3 s3 w3 => z2 H3 Q3 s3 fun σ3 z3 => w3 σ3 (tgs_cons fun H4 Q4 s4 w4 => z3 H4 Q4 s4 fun σ4 z4 => w4 σ4 (tgs_nil z4)))))
theorem gCons_eq {g : TG} {gs : TGs} {v : V} {vs : List V} {Q : L2.St → Hp → Prop} : (fun σ1 H1 => gCons g gs (v :: vs) σ1 H1 Q) = fun σ1 H1 => g v σ1 H1 fun σ2 H2 => gs vs σ2 H2 Q := by
  funext σ1 H1
  refine propext ⟨fun ⟨w, r, e, z⟩ => ?_, fun z => ⟨v, vs, rfl, z⟩⟩
  cases e
  exact z
theorem gr4 {g1 g2 g3 g4 : TG} {v : V} {Q : L2.St → Hp → Prop} {d1 d2 d3 d4 : Dat} (hv : Dq K G v (.rtup [d1, d2, d3, d4])) (s : Same G H) (h : ∀ v1 v2 v3 v4, Dq K G v1 d1 → Dq K G v2 d2 → Dq K G v3 d3 → Dq K G v4 d4 → (g1 v1 σ H fun σ1 H1 => (g2 v2 σ1 H1 fun σ2 H2 => (g3 v3 σ2 H2 fun σ3 H3 => (g4 v4 σ3 H3 Q))))) : gTup K 4 (gCons g1 (gCons g2 (gCons g3 (gCons g4 gNil)))) v σ H Q := by
  obtain ⟨a, vs, rfl, h1, h2⟩ := dp_rtup hv
  cases h2 with
  | cons c1 r1 =>
    cases r1 with
    | cons c2 r2 =>
      cases r2 with
      | cons c3 r3 =>
        cases r3 with
        | cons c4 r4 =>
          cases r4
          refine ⟨a, _, rfl, (.inl (.inl (s _ _ h1))), rfl, _, _, rfl, ?_⟩
          simp only [gCons_eq, gNil_eq]
          exact h _ _ _ _ c1 c2 c3 c4
end
end Kx

end

section
set_option maxHeartbeats 2000000
namespace Kx
open PySem L2
section
variable {β : Type} {K : PySem.W.Frag} {σ : L2.St} {G M M1 M2 : Hp} {ta tb : TE} {e : β → Dat} {ds es : List Dat}
/-- a tuple of things of one kind, as a tuple of any things -/
theorem ev_TD {xs : List β} (h : Ev ta σ G M M1 (DD K (eT e xs))) : Ev ta σ G M M1 (DD K (eT id (xs.map e))) := by
  have : eT id (xs.map e) = eT e xs := congrArg Dat.tuple (List.map_id _)
  rw [this]
  exact h
end
end Kx

end

section
set_option maxHeartbeats 2000000
namespace Kx
open PySem L2
section
variable {α : Type} [DecidableEq α] {K : PySem.W.Frag} {σ : L2.St} {G M M1 M2 H : Hp} {ta tb te : TE} {e : α → Dat} {n : Nat} {d1 d2 d : Dat} {ds es : List Dat}
/-! ### x in l, l a list of one's own -/
theorem ev_inOw {x : α} {xs : List α} {p : Addr} {vs : List V} (h : EqE e n) (hn : n ≤ 62) (hp : M2 p = some (.lst vs)) (hd : DqAll K G vs (xs.map e)) (ha : Ev ta σ G M M1 (DD K (e x))) (hb : Ev tb σ G M1 M2 (OW p)) : Ev (tOp (rInD K) ta tb) σ G M M2 (DD K (.bool (memB x xs))) :=
  ev_op mo_dd ha hb fun v y G0 H s k hx hy Q q => by
    cases hy
    have hs := own_shp h hn hd
    have hd0 := own_dp h (k.m _ _ hp) (dpAll_up (s.trans k.g) _ hd)
    have e0 : toPy (eL e xs) = .list (toPys (xs.map e)) := by unfold toPy; rfl
    rw [e0] at hs hd0
    refine ⟨toPy (e x), toPys (xs.map e), dq_dp _ (h.pur x) (dp_up k.g _ hx), hd0, shp_of (n := 0) (h.pur x) (Nat.le_trans (h.dep x) (by omega)) hx, hs, ?_⟩
    rw [any_eqv h]
    exact q _ G0 H (Same.refl _) k (.bl _)
theorem ev_notInOw {x : α} {xs : List α} {p : Addr} {vs : List V} (h : EqE e n) (hn : n ≤ 62) (hp : M2 p = some (.lst vs)) (hd : DqAll K G vs (xs.map e)) (ha : Ev ta σ G M M1 (DD K (e x))) (hb : Ev tb σ G M1 M2 (OW p)) : Ev (tOp (rNotInD K) ta tb) σ G M M2 (DD K (.bool (!memB x xs))) :=
  ev_op mo_dd ha hb fun v y G0 H s k hx hy Q q => by
    cases hy
    have hs := own_shp h hn hd
    have hd0 := own_dp h (k.m _ _ hp) (dpAll_up (s.trans k.g) _ hd)
    have e0 : toPy (eL e xs) = .list (toPys (xs.map e)) := by unfold toPy; rfl
    rw [e0] at hs hd0
    refine ⟨toPy (e x), toPys (xs.map e), dq_dp _ (h.pur x) (dp_up k.g _ hx), hd0, shp_of (n := 0) (h.pur x) (Nat.le_trans (h.dep x) (by omega)) hx, hs, ?_⟩
    rw [any_eqv h]
    exact q _ G0 H (Same.refl _) k (.bl _)
/-! ### l.index(x) -/
def idxE (x : α) : List α → Option Nat
  | [] => none
  | y :: ys => if y = x then some 0 else (idxE x ys).map (· + 1)
theorem idxE_of {x : α} : ∀ {xs : List α} {j : Nat}, idxE x xs = some j → xs[j]? = some x ∧ ∀ m, m < j → xs[m]? ≠ some x
  | [], _, h => by cases h
  | y :: ys, j, h => by
    unfold idxE at h
    by_cases e : y = x
    · rw [if_pos e] at h
      cases h
      exact ⟨by simp [e], fun m hm => absurd hm (Nat.not_lt_zero _)⟩
    · rw [if_neg e] at h
      obtain ⟨i, hi, rfl⟩ := Option.map_eq_some_iff.mp h
      obtain ⟨h1, h2⟩ := idxE_of hi
      refine ⟨by simpa using h1, fun m hm => ?_⟩
      cases m with
      | zero => simpa using e
      | succ m => simpa using h2 m (by omega)
theorem mt_indexDK {X : Cx} (hu : X.A.units + 65 < cLine) (h : X.K = K := by rfl) : MtR X "list.index" (rIndexD K) := h ▸ mt_indexD hu
theorem ev_indexD {x : α} {xs : List α} {j : Nat} (hj : idxE x xs = some j) (h : EqE e n) (hn : n ≤ 62) (ho : Ev ta σ G M M1 (DD K (eL e xs))) (ha : EvA (tCons tb tNil) σ G M1 M2 (conP (DD K (e x)) nilP)) : Ev (tBM K "list" (rIndexD K) ta (tCons tb tNil)) σ G M M2 (DD K (.int (j : Int))) := fun G0 H s k Q q =>
  ho G0 H s k _ fun v G1 H1 s1 k1 hx => by
    have hx0 := hx
    cases hx with
    | @lst a vs _ hl hd =>
      refine ⟨.inl ⟨rfl, _, .inl (.inl (k1.g _ _ hl))⟩, ha G1 H1 (s.trans s1) k1 _ fun ws G2 H2 s2 k2 hv => ?_⟩
      obtain ⟨y, rfl, hw⟩ := one_of (R := nilP) hv
      obtain ⟨i1, i2⟩ := idxE_of hj
      have e0 : toPy (eL e xs) = .list (xs.map fun z => toPy (e z)) := by
        show toPy (.list (xs.map e)) = _
        rw [toPy_list, List.map_map]
        rfl
      have hdp := dq_dp _ ((eqe_L h).pur xs) (dp_up (s2.trans k2.g) _ hx0)
      have hsh := shp_of (n := 0) ((eqe_L h).pur xs) (Nat.le_trans ((eqe_L h).dep xs) (by omega)) hx0
      rw [e0] at hdp hsh
      refine ⟨a, y, toPy (e x), xs.map fun z => toPy (e z), j, toPy (e x), rfl, rfl, hdp, dq_dp _ (h.pur x) (dp_up k2.g _ hw), hsh, shp_of (n := 0) (h.pur x) (Nat.le_trans (h.dep x) (by omega)) hw, by rw [List.getElem?_map, i1]; rfl, by rw [h.eqv]; exact decide_eq_true rfl, fun m z hm hz => ?_, q _ G2 H2 (s1.trans s2) k2 (.int _)⟩
      rw [List.getElem?_map] at hz
      obtain ⟨z', hz', rfl⟩ := Option.map_eq_some_iff.mp hz
      rw [h.eqv]
      exact decide_eq_false fun q => i2 m hm (by rw [hz', q])
end
/-! ### a list of two things of unlike kinds -/
abbrev ePL2 {α β : Type} (e1 : α → Dat) (e2 : β → Dat) (p : α × β) : Dat := .list [e1 p.1, e2 p.2]
abbrev ePL3 {α β γ : Type} (e1 : α → Dat) (e2 : β → Dat) (e3 : γ → Dat) (p : α × β × γ) : Dat := .list [e1 p.1, e2 p.2.1, e3 p.2.2]
section
variable {K : PySem.W.Frag} {σ : L2.St} {G H : Hp}
theorem pg_lstK {X : Cx} {pos : Pos} {es : List Expr} {k : Nat} {t : TGs} {n : Nat} (hc : X.calm = true) (h : PGs X es t) (hK : X.K = K := by rfl)
    (hn : (assignEach es X.env).length = n := by rfl) (hst : (assignEach es X.env).findIdx? (·.1) = none := by rfl) : PG X (.Tuple es k pos) (gLst K n t) := hK ▸ pg_lst hc h hn hst
theorem gl2 {g1 g2 : TG} {v : V} {Q : L2.St → Hp → Prop} {d1 d2 : Dat} (hv : Dq K G v (.list [d1, d2])) (s : Same G H) (h : ∀ v1 v2, Dq K G v1 d1 → Dq K G v2 d2 → g1 v1 σ H fun σ1 H1 => g2 v2 σ1 H1 Q) : gLst K 2 (gCons g1 (gCons g2 gNil)) v σ H Q := by
  obtain ⟨a, vs, rfl, h1, h2⟩ := dp_list hv
  cases h2 with
  | cons a1 b1 =>
    cases b1 with
    | cons a2 b2 =>
      cases b2
      refine ⟨a, _, rfl, .inl (.inl (s _ _ h1)), rfl, _, _, rfl, ?_⟩
      rw [gOne_eq]
      exact h _ _ a1 a2
theorem gl3 {g1 g2 g3 : TG} {v : V} {Q : L2.St → Hp → Prop} {d1 d2 d3 : Dat} (hv : Dq K G v (.list [d1, d2, d3])) (s : Same G H) (h : ∀ v1 v2 v3, Dq K G v1 d1 → Dq K G v2 d2 → Dq K G v3 d3 → g1 v1 σ H fun σ1 H1 => g2 v2 σ1 H1 fun σ2 H2 => g3 v3 σ2 H2 Q) : gLst K 3 (gCons g1 (gCons g2 (gCons g3 gNil))) v σ H Q := by
  obtain ⟨a, vs, rfl, h1, h2⟩ := dp_list hv
  cases h2 with
  | cons a1 b1 =>
    cases b1 with
    | cons a2 b2 =>
      cases b2 with
      | cons a3 b3 =>
        cases b3
        refine ⟨a, _, rfl, .inl (.inl (s _ _ h1)), rfl, _, _, rfl, ?_⟩
        rw [gTwo_eq]
        exact h _ _ _ a1 a2 a3
end
end Kx

end

section
set_option maxHeartbeats 2000000
namespace Kx
open PySem L2 PySem.Spec PyProof.Rows PySem.W
/-! ### sorted(d), d a dict by pairs of texts -/
section
variable {prog : Program} {w : World} {A : Around} {E : Value → Shared → Prop} {s : Shared}
theorem kdl_dictRaw {d : Addr} {es : Array DictEntry} {ep : Nat} (lo : (d == sysModules) = false) : KdlSrc prog w "dict" d d es.size (fun i v => ∃ hi : i < es.size, v = es[i].key) (fun h => h.DictRaw d es ep) where
  type := fun _ hm => hm.typeIs
  there := fun _ hm => let ⟨o, ho, _⟩ := hm; ⟨Heap.lt_size ho, Heap.lt_size ho⟩
  keep := fun _ _ hm hk => hm.at fun o e => hk d (.inl rfl) o e
  notList := by decide
  notTuple := by decide
  hint := fun _ _ _ _ hm hq => kdl_hint_dict hm.typeIs hq
  iter := fun _ _ hh hm => ⟨_, _, (fun _ _ hq => wpAny_pyIter_dict_raw lo hm hq), Walks.rawKeys hh _ d (let ⟨o, ho, _⟩ := hm; Nat.ne_of_lt (Heap.lt_size ho)) es ep, ⟨⟨_, Heap.get?_push_size _ rfl, rfl, rfl⟩, hm.at fun o e => Heap.get?_push_of_some _ e⟩⟩
theorem keeps_all {h h' : Heap} (k : ∀ b o, h.get? b = some o → h'.get? b = some o) : G.KeepsTups h h' := fun b o e _ => k b o e
theorem sorted_dict {d : Addr} {es : Array DictEntry} {ep : Nat} {shape : Nat → Bool} {vs fs : List Value} {Q : Value → Shared → Prop} (hh : A.handled = none) (lo : (d == sysModules) = false) (hm : s.heap.DictRaw d es ep) (hn : es.size ≤ sizeLine) (hv : es.toList.map (·.key) = vs)
    (ht : TupsOf s.heap shape vs fs) (hk : ∀ v, v ∈ vs → ∃ l, G.tupKeyC s.heap shape v = some l)
    (h : ∀ (h' : Heap) (tk : Nat) (st' : SortSt), (∀ b o, s.heap.get? b = some o → h'.get? b = some o) → (arrOf st').Perm (pairsOf vs) → SortedToK (G.tupKindC s.heap shape) (arrOf st') (pairsOf vs).size →
      Q (.ref h'.objs.size) { s with heap := sortedHeap (h'.push (seqObj "list" vs.toArray 0)) h'.objs.size vs ((arrOf st').map (·.2)), toks := tk }) :
    wpAny (model prog w) A (call (.builtin "sorted") [.ref d]) Q E s := by
  refine Calls.call_function_entry kind_sorted plain_sorted entry_sorted (args_sorted1 _) ?_
  unfold Builtin.«sorted»
  refine wpAny_bind (m := checkCount "sorted" 1 1 _) (wpAny_pure ?_)
  refine wpAny_bind (kdu_collect (A := A.in1) (kdl_dictRaw lo) hh hm hn fun h' tk acc hkp hacc => ?_)
  have hav : acc.toList = vs := by
    rw [← hv]
    refine List.ext_getElem? fun i => ?_
    rw [List.getElem?_map, Array.getElem?_toList, Array.getElem?_toList]
    by_cases hi : i < es.size
    · have ha : i < acc.size := by rw [hacc.1]; exact hi
      rw [Array.getElem?_eq_getElem ha, Array.getElem?_eq_getElem hi]
      obtain ⟨_, e⟩ := hacc.2 i _ (Array.getElem?_eq_getElem ha)
      rw [e]; rfl
    · rw [Array.getElem?_eq_none (by rw [hacc.1]; omega), Array.getElem?_eq_none (by omega)]
      rfl
  have hlen : vs.length = es.size := by rw [← hv, List.length_map, Array.length_toList]
  rw [hav]
  refine wpAny_bind (wpAny_newList ?_ (by rw [hlen]; exact hn))
  have hoL : (h'.push (seqObj "list" vs.toArray 0)).get? h'.objs.size = some (seqObj "list" vs.toArray 0) := Heap.get?_push_size _ rfl
  show wpAny _ _ _ _ _ { s with heap := h'.push (seqObj "list" vs.toArray 0), toks := tk }
  have k0 : G.KeepsTups s.heap (h'.push (seqObj "list" vs.toArray 0)) := (keeps_all hkp).trans (G.KeepsTups.push _ _)
  have k6 := k0.trans (G.keeps_sort6 (vs := vs) hoL)
  refine wpAny_bind (wpAny_holding (wpAny_call_entry slot_list_sort ⟨_, hoL, rfl⟩ entry_list_sort (G.list_sort_treeG (κ := G.tupKindC s.heap shape) (kd := tuples' true) hoL (G.tupKeys hk) ?ordG ?keyG (by rw [hlen]; exact hn) fun st' a1 a2 a3 => ⟨_, rfl, ?retG⟩) (args_list_sort _)))
  case ordG => exact G.tupC_ltAt true k6
  case keyG =>
    intro h2 R hq
    exact tup_kind (by rw [G.TupsOf.length ht]; omega) (G.TupsOf.keep k6 ht) hq
  case retG => exact wpAny_pure ⟨_, rfl, h h' tk st' hkp a1 a2⟩
end
section
theorem lex_pair (a b : Str × Str) : lexLt itemOrd [Sum.inr a.1.cps.toList, Sum.inr a.2.cps.toList] [Sum.inr b.1.cps.toList, Sum.inr b.2.cps.toList] = ltP a b := by
  unfold ltP
  by_cases h1 : a.1 = b.1
  · rw [if_pos h1, h1, lex_self, lex_str]
  · rw [if_neg h1, PySem.W.lex_atom (fun z => h1 (str_ext (Sum.inr.inj z))), lex_str]
def leP (a b : Str × Str) : Bool := !ltP b a
theorem leP_trans (a b c : Str × Str) (h1 : leP a b = true) (h2 : leP b c = true) : leP a c = true := by
  unfold leP at *
  rw [Bool.not_eq_true'] at *
  cases e : ltP c a with
  | false => rfl
  | true =>
    rw [← lex_pair] at e
    rcases lex_negTrans (O := itemOrd) _ [Sum.inr b.1.cps.toList, Sum.inr b.2.cps.toList] _ e with q | q
    · rw [lex_pair, h2] at q; cases q
    · rw [lex_pair, h1] at q; cases q
theorem leP_total (a b : Str × Str) : (leP a b || leP b a) = true := by
  unfold leP
  cases e : ltP b a with
  | false => rfl
  | true =>
    cases e2 : ltP a b with
    | false => rfl
    | true =>
      rw [← lex_pair] at e e2
      have := PyProof.Rows.lex_trans (O := itemOrd) _ _ _ e e2
      rw [PyProof.Rows.lex_irrefl] at this
      cases this
theorem leP_anti (a b : Str × Str) (h1 : leP a b = true) (h2 : leP b a = true) : a = b := by
  unfold leP at *
  rw [Bool.not_eq_true'] at *
  rw [← lex_pair] at h1 h2
  have := lex_total (O := itemOrd) _ _ h2 h1
  rw [List.cons.injEq, List.cons.injEq] at this
  exact Prod.ext (str_ext (Sum.inr.inj this.1)) (str_ext (Sum.inr.inj this.2.1))
def srtP (xs : List (Str × Str)) : List (Str × Str) := xs.mergeSort leP
theorem srtP_perm (xs : List (Str × Str)) : (srtP xs).Perm xs := List.mergeSort_perm _ _
theorem srtP_sorted (xs : List (Str × Str)) : (srtP xs).Pairwise fun a b => leP a b = true := List.pairwise_mergeSort leP_trans leP_total xs
theorem srtP_is {xs ys : List (Str × Str)} (p : ys.Perm xs) (h : ys.Pairwise fun a b => leP a b = true) : ys = srtP xs :=
  perm_sorted (le := fun a b => leP a b = true) leP_anti (p.trans (srtP_perm xs).symm) h (srtP_sorted xs)
end
def yOf (H : Hp) : Value → Str × Str
  | .ref b => match H b with
    | some (.tup [.str x, .str y]) => (x, y)
    | _ => ("", "")
  | _ => ("", "")
def rSortedDP (K : PySem.W.Frag) : List V → Hp → VK → Prop := fun vs H Q => ∃ (a : Addr) (kvs : List (List Key × V)) (xs : List (Str × Str)), vs = [V.ref a] ∧ Rd H a (.dT kvs) ∧ kvs.map (·.1) = xs.map kP ∧
  ∀ (bs : List Addr) (p : Addr), Paired (fun b y => H b = some (.tup ((kP y).map kV))) bs (srtP xs) → H p = none → Q (.ref p) (upd H p (.lst (bs.map V.ref)))
section
variable {X : Cx} {pins : List (Addr × Obj)} {σ : L2.St} {H : Hp} {s : Shared} {d : Addr}
theorem rdT {kvs : List (List Key × V)} (I : Inv X pins σ H s) (h : Rd H d (.dT kvs)) :
    (d == sysModules) = false ∧ ∃ (es : Array DictEntry) (ep : Nat), s.heap.DictRaw d es ep ∧ es.size = kvs.length ∧ kvs.length ≤ sizeLine ∧
      ∀ (i : Nat) (k : List Key) (v : V), kvs[i]? = some (k, v) → ∃ (en : DictEntry) (q : Addr), es[i]? = some en ∧ en.key = .ref q ∧ H q = some (.tup (k.map kV)) := by
  have key : ∀ o0, ObjOk X.prog X.w H s.heap d (.dT kvs) → o0 = () → (d == sysModules) = false ∧ ∃ (es : Array DictEntry) (ep : Nat), s.heap.DictRaw d es ep ∧ es.size = kvs.length ∧ kvs.length ≤ sizeLine ∧
      ∀ (i : Nat) (k : List Key) (v : V), kvs[i]? = some (k, v) → ∃ (en : DictEntry) (q : Addr), es[i]? = some en ∧ en.key = .ref q ∧ H q = some (.tup (k.map kV)) := by
    rintro _ ⟨z, hs, xs, pr, o', es, ep, ho, hx, hdt, he, _⟩ _
    refine ⟨hs, es, ep, ⟨o', ho, hx, hdt⟩, ?_, z, fun i k v e => ?_⟩
    · have l1 : es.size = xs.length := size_of_entries he
      have l2 : kvs.length = xs.length := Paired.length pr
      omega
    · obtain ⟨b, hb, e1, e2, e3⟩ := paired_get pr e
      have q := entry_at he i
      rw [hb] at q
      exact ⟨_, b.2.1, q, rfl, e2⟩
  rcases h with h | ⟨o, h⟩
  · exact key () (I.hok d _ h) rfl
  · exact key () (I.hok d _ h).2 rfl
end
section
variable {X : Cx} {K : PySem.W.Frag}
theorem cr_sortedDP (hc : X.calm = true) (hK : X.K = K := by rfl) : CallR X (.builtin "sorted") (rSortedDP K) := by
  subst hK
  intro pins s σ H vs us Q I r h
  obtain ⟨a, kvs, xs, rfl, hd, hkx, q⟩ := h
  rw [Vals.ref1 r]
  obtain ⟨lo, es, ep, hm, hsz, hkl, hen⟩ := rdT I hd
  have hlx : kvs.length = xs.length := by
    have := congrArg List.length hkx
    rwa [List.length_map, List.length_map] at this
  -- the keys
  have hat : ∀ (i : Nat) (x : Str × Str), xs[i]? = some x → ∃ (en : DictEntry) (q : Addr), es[i]? = some en ∧ en.key = .ref q ∧ H q = some (.tup ((kP x).map kV)) := fun i x hx => by
    have h1 : (kvs.map (·.1))[i]? = some (kP x) := by rw [hkx, List.getElem?_map, hx]; rfl
    rw [List.getElem?_map] at h1
    obtain ⟨⟨k, v⟩, hkv, e⟩ := Option.map_eq_some_iff.mp h1
    have e : k = kP x := e
    subst e
    exact hen i _ v hkv
  have hyx : ∀ {q : Addr} {x : Str × Str}, H q = some (.tup ((kP x).map kV)) → yOf H (.ref q) = x := fun {q x} e => by
    unfold yOf
    simp only [e]
    rfl
  have hmap : (es.toList.map (·.key)).map (yOf H) = xs := by
    refine List.ext_getElem? fun i => ?_
    rw [List.getElem?_map, List.getElem?_map, Array.getElem?_toList]
    by_cases hi : i < xs.length
    · obtain ⟨en, q, e1, e2, e3⟩ := hat i _ (List.getElem?_eq_getElem hi)
      rw [e1, List.getElem?_eq_getElem hi]
      show some (yOf H en.key) = _
      rw [e2, hyx e3]
    · rw [Array.getElem?_eq_none (by omega), List.getElem?_eq_none (by omega)]
      rfl
  have hmem : ∀ v ∈ es.toList.map (·.key), ∃ (q : Addr) (x : Str × Str), v = .ref q ∧ H q = some (.tup ((kP x).map kV)) := fun v hv => by
    obtain ⟨i, hi⟩ := List.mem_iff_getElem?.mp hv
    have hil := (List.getElem?_eq_some_iff.mp hi).1
    rw [List.length_map, Array.length_toList] at hil
    obtain ⟨en, q, e1, e2, e3⟩ := hat i _ (List.getElem?_eq_getElem (show i < xs.length by omega))
    rw [List.getElem?_map, Array.getElem?_toList, e1] at hi
    cases hi
    exact ⟨q, _, e2, e3⟩
  generalize hvs : es.toList.map (·.key) = vs at hmap hmem
  have htup : ∀ {q : Addr} {x : Str × Str}, H q = some (.tup ((kP x).map kV)) → ∃ (o : Obj) (t t' : Tok) (n : Nat), s.heap.get? q = some o ∧ o.cls = .type "tuple" ∧ o.data = .seq #[.str x.1 t, .str x.2 t'] n := fun {q x} e => by
    obtain ⟨_, its, rv, o, ho, hcl, n, hdt⟩ := I.hok q _ e
    obtain ⟨u, w', rfl, ⟨t, rfl⟩, ⟨t', rfl⟩⟩ := vals2 (show Vals [V.str x.1, V.str x.2] its from rv)
    exact ⟨o, t, t', n, ho, hcl, hdt⟩
  have hkey : ∀ {q : Addr} {x : Str × Str}, H q = some (.tup ((kP x).map kV)) → G.tupKeyC s.heap (fun _ => true) (.ref q) = some [Sum.inr x.1.cps.toList, Sum.inr x.2.cps.toList] := fun {q x} e => by
    obtain ⟨o, t, t', n, ho, hcl, hdt⟩ := htup e
    unfold G.tupKeyC G.isTupObj tupKey
    simp only [ho, hcl, hdt]
    simp [tupItems]
  have ht : ∀ vs : List Value, (∀ v ∈ vs, ∃ (q : Addr) (x : Str × Str), v = .ref q ∧ H q = some (.tup ((kP x).map kV))) → ∃ fs, TupsOf s.heap (fun _ => true) vs fs := fun vs => by
    induction vs with
    | nil => exact fun _ => ⟨[], .nil⟩
    | cons v vs ih =>
      intro hm
      obtain ⟨fs, hf⟩ := ih fun v hv => hm v (List.mem_cons_of_mem _ hv)
      obtain ⟨q, x, rfl, e⟩ := hm v List.mem_cons_self
      obtain ⟨o, t, t', n, ho, hcl, hdt⟩ := htup e
      exact ⟨.str x.1 t :: fs, .cons ⟨q, o, _, n, rfl, ho, hcl, hdt, rfl, (fun z => by cases z), fun _ => ⟨_, _, rfl⟩⟩ hf⟩
  obtain ⟨fs, hfs⟩ := ht vs hmem
  refine sorted_dict (I.ok.hd hc) lo hm (by omega) hvs hfs (fun v hv => let ⟨q, x, e1, e2⟩ := hmem v hv; ⟨_, e1 ▸ hkey e2⟩) fun h' tk st' hk hp hs => ?_
  generalize arrOf st' = arr at hp hs
  have hl : arr.toList.Perm (vs.zip vs) := by rw [← pairsOf_toList]; exact Array.perm_iff_toList_perm.mp hp
  have hself : ∀ p ∈ arr.toList, p.1 = p.2 ∧ p.1 ∈ vs := fun p hp' => mem_zip_self (hl.mem_iff.mp hp')
  have hout : (arr.map (·.2)).toList = arr.toList.map (·.1) := by
    rw [Array.toList_map]; exact List.map_congr_left fun p hp' => (hself p hp').1.symm
  have hperm : (arr.toList.map (·.1)).Perm vs := by
    have := hl.map Prod.fst
    rwa [List.map_fst_zip (Nat.le_refl _)] at this
  -- what they are
  have hys : (arr.toList.map (·.1)).map (yOf H) = srtP xs := by
    refine srtP_is (by have := hperm.map (yOf H); rwa [hmap] at this) ?_
    rw [List.map_map, List.pairwise_iff_getElem]
    intro i j hi hj hij
    have hi' : i < arr.size := by simpa using hi
    have hj' : j < arr.size := by simpa using hj
    have h1 := hs i j (Nat.le_of_lt hij) (by rw [← hp.size_eq]; exact hj')
    obtain ⟨qi, xi, ei, fi⟩ := hmem _ (hself arr[i] (by simp)).2
    obtain ⟨qj, xj, ej, fj⟩ := hmem _ (hself arr[j] (by simp)).2
    have ki : KK (G.tupKindC s.heap fun _ => true) arr i = [Sum.inr xi.1.cps.toList, Sum.inr xi.2.cps.toList] := by
      unfold KK
      rw [Array.getElem?_eq_getElem hi']
      show (G.tupKeyC s.heap _ arr[i].1).getD [] = _
      rw [ei, hkey fi]
      rfl
    have kj : KK (G.tupKindC s.heap fun _ => true) arr j = [Sum.inr xj.1.cps.toList, Sum.inr xj.2.cps.toList] := by
      unfold KK
      rw [Array.getElem?_eq_getElem hj']
      show (G.tupKeyC s.heap _ arr[j].1).getD [] = _
      rw [ej, hkey fj]
      rfl
    rw [ki, kj] at h1
    have h1 : lexLt itemOrd [Sum.inr xj.1.cps.toList, Sum.inr xj.2.cps.toList] [Sum.inr xi.1.cps.toList, Sum.inr xi.2.cps.toList] = false := h1
    rw [lex_pair] at h1
    rw [List.getElem_map, List.getElem_map]
    show leP (yOf H (arr.toList[i]).1) (yOf H (arr.toList[j]).1) = true
    rw [Array.getElem_toList, Array.getElem_toList, ei, ej, hyx fi, hyx fj]
    unfold leP
    rw [h1]; rfl
  -- their addresses
  have hadr : ∀ ws : List Value, (∀ v ∈ ws, ∃ (q : Addr) (x : Str × Str), v = .ref q ∧ H q = some (.tup ((kP x).map kV))) → ∃ bs : List Addr, Vals (bs.map V.ref) ws ∧ Paired (fun b y => H b = some (.tup ((kP y).map kV))) bs (ws.map (yOf H)) := fun ws => by
    induction ws with
    | nil => exact fun _ => ⟨[], .nil, .nil⟩
    | cons v ws ih =>
      intro hm
      obtain ⟨bs, b1, b2⟩ := ih fun v hv => hm v (List.mem_cons_of_mem _ hv)
      obtain ⟨q, x, rfl, e⟩ := hm v List.mem_cons_self
      refine ⟨q :: bs, .cons rfl b1, ?_⟩
      rw [List.map_cons, hyx e]
      exact .cons e b2
  obtain ⟨bs, b1, b2⟩ := hadr (arr.toList.map (·.1)) fun v hv => hmem v (hperm.mem_iff.mp hv)
  rw [hys] at b2
  have hoL : (h'.push (seqObj "list" vs.toArray 0)).get? h'.objs.size = some (seqObj "list" vs.toArray 0) := Heap.get?_push_size _ rfl
  obtain ⟨ep', he'⟩ := sortedHeap_at (out := arr.map (·.2)) hoL
  have I1 : Inv X pins σ H { s with heap := h', toks := tk } := I.kept hk
  have hlen : (bs.map V.ref).length ≤ sizeLine := by
    rw [b1.length, hperm.length_eq, ← hvs, List.length_map, Array.length_toList]
    omega
  have kept : ∀ b u, h'.get? b = some u → (sortedHeap (h'.push (seqObj "list" vs.toArray 0)) h'.objs.size vs (arr.map (·.2))).get? b = some u := fun b u e => by
    have := Heap.lt_size e
    rw [sortedHeap_old (Nat.ne_of_lt this) (by rw [size_push']; exact Nat.lt_succ_of_lt this)]
    exact Heap.get?_push_of_some _ e
  refine ⟨.ref _, upd H h'.objs.size (.lst (bs.map V.ref)), I1.laid (t' := tk) kept (Nat.le_refl _) ⟨hlen, (arr.map (·.2)).toList, ep', ?_, he'⟩, rfl, q bs _ b2 (I1.hok.fresh (Nat.le_refl _))⟩
  rw [hout]
  exact b1
end
section
variable {β : Type} {K : PySem.W.Frag} {σ σ' : L2.St} {G G' M M1 M2 M3 H : Hp} {ta tb te tc tk tv : TE} {e : β → Dat} {ds es : List Dat}
/-- a tuple that stands in the heap may be taken as data -/
theorem adopt {b : Addr} {xs : List V} (hb : H b = some (.tup xs)) (k : Ok G M H) : ∃ G', Same G G' ∧ Ok G' M H ∧ G' b = some (.tup xs) := by
  have hMq : M b = none := by
    cases e : M b with
    | none => rfl
    | some w' =>
      have h1 := k.m _ _ e
      rw [hb] at h1
      cases h1
      exact (k.mu _ _ e).elim
  refine ⟨upd G b (.tup xs), fun a u e => ?_, ⟨fun a u e => ?_, k.m, fun a u e => ?_, k.mu⟩, upd_same⟩
  · by_cases ha : a = b
    · subst ha
      rw [upd_same]
      have := k.g _ _ e
      rw [hb] at this
      exact this
    · rw [upd_ne ha]; exact e
  · by_cases ha : a = b
    · subst ha; rw [upd_same] at e; rw [hb]; exact e
    · rw [upd_ne ha] at e; exact k.g a u e
  · have ha : a ≠ b := fun z => by subst z; rw [hMq] at e; cases e
    rw [upd_ne ha]; exact k.d a u e
theorem adoptAll : ∀ {bs : List Addr} {ys : List (Str × Str)} {G : Hp}, Paired (fun b y => H b = some (.tup ((kP y).map kV))) bs ys → (∀ y ∈ ys, okP y) → Ok G M H → ∃ G', Same G G' ∧ Ok G' M H ∧ DqAll K G' (bs.map V.ref) (ys.map (eR2 Dat.str Dat.str))
  | _, _, G, .nil, _, k => ⟨G, Same.refl _, k, .nil⟩
  | _, _, G, .cons (l₁ := bs) (l₂ := ys) (b := y) r t, ok, k => by
    obtain ⟨G1, s1, k1, hb⟩ := adopt r k
    obtain ⟨G2, s2, k2, h2⟩ := adoptAll t (fun y hy => ok y (List.mem_cons_of_mem _ hy)) k1
    have o := ok y List.mem_cons_self
    exact ⟨G2, s1.trans s2, k2, .cons (.rtup (xs := [.str y.1, .str y.2]) (s2 _ _ hb) (.cons (.str o.1) (.cons (.str o.2) .nil))) h2⟩
theorem el_sortedDP {xs : List ((Str × Str) × β)} (ha : EvA (tCons ta tNil) σ G M M1 (conP (DD K (eDP e xs)) nilP)) : EvL K (tCB (rSortedDP K) (tCons ta tNil)) σ G M M1 ((srtP (xs.map (·.1))).map (eR2 Dat.str Dat.str)) := el_cb ha fun vs G0 H s k hx Q q => by
  obtain ⟨v, rfl, hv⟩ := one_of (R := nilP) hx
  obtain ⟨a, kvs, rfl, h1, h2, h3⟩ := dq_eDP hv
  refine ⟨a, kvs, xs.map (·.1), rfl, rd_up k.g h1, by rw [h2.keys, List.map_map]; rfl, fun bs p hb hp => ?_⟩
  obtain ⟨G1, s1, k1, hd⟩ := adoptAll (K := K) hb (fun y hy => by
    obtain ⟨x, hx, rfl⟩ := List.mem_map.mp ((srtP_perm _).mem_iff.mp hy)
    exact h3 x hx) k
  exact newL s1 k1 hd q p hp
/-- a raw tuple and a tuple -/
theorem ev_catR {d : Dat} {ds : List Dat} (ha : Ev ta σ G M M1 (DD K (.rtup ds))) (hb : Ev tb σ G M1 M2 (DD K (.tuple [d]))) (hl : ds.length + 2 ≤ sizeLine := by simp [sizeLine_eq]) : Ev (tOp (rCatF K) ta tb) σ G M M2 (DD K (.tuple (ds ++ [d]))) := ev_op mo_dd ha hb fun x y G0 H s k hx hy Q q => by
  cases hx with
  | @rtup a vs _ h1 h2 =>
    obtain ⟨b, ws, rfl, hc, hd⟩ := dp_tuple hy
    have l1 := dpAll_len h2
    have l2 := dpAll_len hd
    refine ⟨a, b, vs, ws, rfl, rfl, sqT_up k.g (.inl (.inl h1)), sqT_up k.g hc, by rw [l1, l2, List.length_singleton]; omega, fun z => ?_, fun _ z => ?_, fun _ _ => newT (Same.refl _) k (dpAll_app h2 hd) q⟩
    · subst z
      cases h2
      exact q _ G0 H (Same.refl _) k hy
    · subst z
      cases hd
end
end Kx

end

section
set_option maxHeartbeats 2000000
namespace Kx
open PySem L2 PySem.Spec PyProof.Rows
/-! ### min and max of two texts -/
section
variable {prog : Program} {w : World} {A : Around} {E : Value → Shared → Prop} {s : Shared}
theorem rich_lt {x y : Str} {t u : Tok} {Q : Value → Shared → Prop} (h : Q (.bool (x.cps.toList < y.cps.toList)) s) : wpAny (model prog w) A (richCompare .Lt (.str x t) (.str y u)) Q E s := PyProof.Rows.lt_str (prog := prog) (w := w) (A := A) (E := E) h
def txAt (a b : Str) : Nat → Str
  | 0 => a
  | _ => b
theorem items2 {x y : Value} {i : Nat} {v : Value} (h : (#[x, y] : Array Value)[i]? = some v) : (i = 0 ∧ v = x) ∨ (i = 1 ∧ v = y) := by
  match i, h with
  | 0, h => exact .inl ⟨rfl, by simpa using h.symm⟩
  | 1, h => exact .inr ⟨rfl, by simpa using h.symm⟩
  | i + 2, h => simp at h
theorem min_two_strs {a b : Str} {t u : Tok} {Q : Value → Shared → Prop} (hh : A.handled = none)
    (h : ∀ h' tk, (∀ c o, s.heap.get? c = some o → h'.get? c = some o) → Q (if sLt b a = true then .str b u else .str a t) { s with heap := h', toks := tk }) :
    wpAny (model prog w) A (call (.builtin "min") [.str a t, .str b u]) Q E s := by
  have hT : (s.heap.push { cls := .type "tuple", data := .seq #[.str a t, .str b u] }).IsTuple s.heap.objs.size #[.str a t, .str b u] := ⟨_, Heap.get?_push_size _ rfl, rfl, 0, rfl⟩
  refine call_min_two (wpAny_pyIter_tuple hT ?_)
  have hsz : (s.heap.push { cls := .type "tuple", data := .seq #[.str a t, .str b u] }).objs.size = s.heap.objs.size + 1 := Heap.size_push ..
  have cmp : CmpOf prog w A.in1 .Lt (fun i v => (#[Value.str a t, .str b u] : Array Value)[i]? = some v) (fun i j => sLt (txAt a b i) (txAt a b j)) := fun i j vi vj s Q E hi hj h => by
    rcases items2 hi with ⟨rfl, rfl⟩ | ⟨rfl, rfl⟩ <;> rcases items2 hj with ⟨rfl, rfl⟩ | ⟨rfl, rfl⟩ <;> exact rich_lt h
  refine ⟨_, [_, s.heap.objs.size], [_], _, _, _, _, rfl, Walks.tuple (A := A.in1) hh _ s.heap.objs.size (by rw [hsz]; exact Nat.ne_of_lt (Nat.lt_succ_self _)) #[.str a t, .str b u],
    ⟨⟨_, Heap.get?_push_size _ rfl, rfl, rfl⟩, hT.push _⟩, fun c hc => ?_, by simp, cmp, fun v h' tk hP hk => ?_⟩
  · show c < ((s.heap.push _).push _).objs.size
    rw [Heap.size_push, hsz]
    rcases List.mem_cons.mp hc with rfl | hc
    · rw [hsz]; exact Nat.lt_succ_self _
    · rcases List.mem_cons.mp hc with rfl | hc
      · exact Nat.lt_succ_of_lt (Nat.lt_succ_self _)
      · cases hc
  · have hold : ∀ c o, s.heap.get? c = some o → h'.get? c = some o := fun c o e => by
      refine hk c o (fun hm => ?_) (Heap.get?_push_of_some _ (Heap.get?_push_of_some _ e))
      rcases List.mem_cons.mp hm with e1 | hm
      · have := Heap.lt_size e; rw [e1, hsz] at this; exact Nat.lt_irrefl _ (Nat.lt_of_succ_lt this)
      · cases hm
    have := h h' tk hold
    have hP' : (#[Value.str a t, .str b u] : Array Value)[argBest (fun i j => sLt (txAt a b i) (txAt a b j)) 1]? = some v := hP
    have e : argBest (fun i j => sLt (txAt a b i) (txAt a b j)) 1 = if sLt b a = true then 1 else 0 := rfl
    rw [e] at hP'
    have hv : v = if sLt b a = true then Value.str b u else Value.str a t := by
      cases q : sLt b a with
      | true => rw [q] at hP'; simpa using hP'.symm
      | false => rw [q] at hP'; simpa using hP'.symm
    rw [hv]; exact this
theorem max_two_strs {a b : Str} {t u : Tok} {Q : Value → Shared → Prop} (hh : A.handled = none)
    (h : ∀ h' tk, (∀ c o, s.heap.get? c = some o → h'.get? c = some o) → Q (if sLt a b = true then .str b u else .str a t) { s with heap := h', toks := tk }) :
    wpAny (model prog w) A (call (.builtin "max") [.str a t, .str b u]) Q E s := by
  have hT : (s.heap.push { cls := .type "tuple", data := .seq #[.str a t, .str b u] }).IsTuple s.heap.objs.size #[.str a t, .str b u] := ⟨_, Heap.get?_push_size _ rfl, rfl, 0, rfl⟩
  refine call_max_two (wpAny_pyIter_tuple hT ?_)
  have hsz : (s.heap.push { cls := .type "tuple", data := .seq #[.str a t, .str b u] }).objs.size = s.heap.objs.size + 1 := Heap.size_push ..
  have cmp : CmpOf prog w A.in1 .Gt (fun i v => (#[Value.str a t, .str b u] : Array Value)[i]? = some v) (fun i j => sLt (txAt a b j) (txAt a b i)) := fun i j vi vj s Q E hi hj h => by
    rcases items2 hi with ⟨rfl, rfl⟩ | ⟨rfl, rfl⟩ <;> rcases items2 hj with ⟨rfl, rfl⟩ | ⟨rfl, rfl⟩ <;> exact richCompare_gives (op := .Gt) (typeIs_str s _ _) (typeIs_str s _ _) F.slot_str_gt F.entry_str_gt (F.args_str_gt_2 _ _) (gives_str_gt _ _ _ _) (fun e => nomatch e) h
  refine ⟨_, [_, s.heap.objs.size], [_], _, _, _, _, rfl, Walks.tuple (A := A.in1) hh _ s.heap.objs.size (by rw [hsz]; exact Nat.ne_of_lt (Nat.lt_succ_self _)) #[.str a t, .str b u],
    ⟨⟨_, Heap.get?_push_size _ rfl, rfl, rfl⟩, hT.push _⟩, fun c hc => ?_, by simp, cmp, fun v h' tk hP hk => ?_⟩
  · show c < ((s.heap.push _).push _).objs.size
    rw [Heap.size_push, hsz]
    rcases List.mem_cons.mp hc with rfl | hc
    · rw [hsz]; exact Nat.lt_succ_self _
    · rcases List.mem_cons.mp hc with rfl | hc
      · exact Nat.lt_succ_of_lt (Nat.lt_succ_self _)
      · cases hc
  · have hold : ∀ c o, s.heap.get? c = some o → h'.get? c = some o := fun c o e => by
      refine hk c o (fun hm => ?_) (Heap.get?_push_of_some _ (Heap.get?_push_of_some _ e))
      rcases List.mem_cons.mp hm with e1 | hm
      · have := Heap.lt_size e; rw [e1, hsz] at this; exact Nat.lt_irrefl _ (Nat.lt_of_succ_lt this)
      · cases hm
    have := h h' tk hold
    have hP' : (#[Value.str a t, .str b u] : Array Value)[argBest (fun i j => sLt (txAt a b j) (txAt a b i)) 1]? = some v := hP
    have e : argBest (fun i j => sLt (txAt a b j) (txAt a b i)) 1 = if sLt a b = true then 1 else 0 := rfl
    rw [e] at hP'
    have hv : v = if sLt a b = true then Value.str b u else Value.str a t := by
      cases q : sLt a b with
      | true => rw [q] at hP'; simpa using hP'.symm
      | false => rw [q] at hP'; simpa using hP'.symm
    rw [hv]; exact this
end
def minS (a b : Str) : Str := if sLt b a = true then b else a
def maxS (a b : Str) : Str := if sLt a b = true then b else a
def rMinS : List V → Hp → VK → Prop := fun xs H Q => ∃ a b, xs = [V.str a, .str b] ∧ Q (.str (minS a b)) H
def rMaxS : List V → Hp → VK → Prop := fun xs H Q => ∃ a b, xs = [V.str a, .str b] ∧ Q (.str (maxS a b)) H
section
variable {X : Cx}
theorem cl_minS (hc : X.calm = true) : CallR X (.builtin "min") rMinS := by
  intro pins s σ H xs us Q I r h
  obtain ⟨i, j, rfl, q⟩ := h
  obtain ⟨u, w', rfl, ⟨t, rfl⟩, ⟨t', rfl⟩⟩ := vals2 r
  refine min_two_strs (I.ok.hd hc) fun h' tk k => ⟨_, H, I.kept k, ?_, q⟩
  unfold minS
  cases e : sLt j i with
  | true => exact ⟨_, rfl⟩
  | false => exact ⟨_, rfl⟩
theorem cl_maxS (hc : X.calm = true) : CallR X (.builtin "max") rMaxS := by
  intro pins s σ H xs us Q I r h
  obtain ⟨i, j, rfl, q⟩ := h
  obtain ⟨u, w', rfl, ⟨t, rfl⟩, ⟨t', rfl⟩⟩ := vals2 r
  refine max_two_strs (I.ok.hd hc) fun h' tk k => ⟨_, H, I.kept k, ?_, q⟩
  unfold maxS
  cases e : sLt i j with
  | true => exact ⟨_, rfl⟩
  | false => exact ⟨_, rfl⟩
end
section
variable {β : Type} {K : PySem.W.Frag} {σ σ' : L2.St} {G G' M M1 M2 M3 H : Hp} {ta tb te tc tk tv : TE} {e : β → Dat} {ds es : List Dat}
theorem ev_minS {i j : Str} (ha : EvA (tCons ta (tCons tb tNil)) σ G M M1 (conP (DD K (.str i)) (conP (DD K (.str j)) nilP))) : Ev (tCB rMinS (tCons ta (tCons tb tNil))) σ G M M1 (DD K (.str (minS i j))) := ev_cb ha fun vs G0 H s k hx Q q => by
  obtain ⟨v, w, rfl, h1, h2⟩ := two_of hx
  cases h1 with | str o1 =>
  cases h2 with | str o2 =>
  refine ⟨i, j, rfl, q _ G0 H (Same.refl _) k ?_⟩
  unfold minS
  split
  · exact .str o2
  · exact .str o1
theorem ev_maxS {i j : Str} (ha : EvA (tCons ta (tCons tb tNil)) σ G M M1 (conP (DD K (.str i)) (conP (DD K (.str j)) nilP))) : Ev (tCB rMaxS (tCons ta (tCons tb tNil))) σ G M M1 (DD K (.str (maxS i j))) := ev_cb ha fun vs G0 H s k hx Q q => by
  obtain ⟨v, w, rfl, h1, h2⟩ := two_of hx
  cases h1 with | str o1 =>
  cases h2 with | str o2 =>
  refine ⟨i, j, rfl, q _ G0 H (Same.refl _) k ?_⟩
  unfold maxS
  split
  · exact .str o2
  · exact .str o1
/-- dict(pairs) as an own dict -/
theorem ep_dictP {xs ys : List ((Str × Str) × β)} (hy : dictO xs = some ys) (ha : EvA (tCons ta tNil) σ G M M1 (conP (DD K (.list (xs.map (eP2 (eR2 Dat.str Dat.str) e)))) nilP)) : EvP K (tCB (rDictH K) (tCons ta tNil)) σ G M M1 e ys := fun G0 H s k Q q =>
  ha G0 H s k _ fun vs G1 H1 s1 k1 hx => by
    obtain ⟨v, rfl, hv⟩ := one_of (R := nilP) hx
    obtain ⟨_, h1, h2⟩ := bs hy
    cases h2
    obtain ⟨a, ws, rfl, a1, b⟩ := dp_list hv
    obtain ⟨ps, kvs, rfl, p1, p2, p3⟩ := prsP_of b
    exact ⟨_, ps, kvs, rfl, .inl (.inl (k1.g _ _ a1)), paired_up p1 fun _ _ ⟨c, z1, z2⟩ => ⟨c, sqT_up k1.g z1, k1.g _ _ z2⟩, fun p hp => q p _ G1 _ s1 (k1.newM _ hp) (Same.none k1.m hp) ⟨KRel.mergeP p2 .nil, mergeA_keys xs [] (fun x hx => nomatch hx) p3⟩⟩
end
end Kx

end

section
set_option maxHeartbeats 2000000
namespace Kx
open PySem L2
/-! ### the walk over a list or a tuple -/
def iQ (K : PySem.W.Frag) (tl : TE) : TI := fun σ H R => iList K tl σ H R ∨ iTup K tl σ H R
section
variable {X : Cx} {K : PySem.W.Frag}
theorem pi_qK {tg l : Expr} {tl : TE} (hl : PE X l tl) (h : X.K = K := by rfl) : PI X tg l (iQ K tl) := ⟨fun pins s σ H R I hh => by
  rcases hh with hh | hh
  · exact (pi_listK hl h).run pins s σ H R I hh
  · exact (pi_tupK hl h).run pins s σ H R I hh⟩
end
section
variable {β : Type} {K : PySem.W.Frag} {σ σ' : St} {G G' M M1 M2 M3 : Hp} {ta tb te tc : TE} {e : β → Dat}
theorem src_Q {q : Bool × List β} (h : Ev ta σ G M M1 (DD K (eQ e q))) : Src K (iQ K ta) σ G M M1 (q.2.map e) := fun G0 H s k R r => by
  obtain ⟨b, xs⟩ := q
  cases b with
  | true => exact .inr (src_tup h G0 H s k R r)
  | false => exact .inl (src_list h G0 H s k R r)
end
end Kx

end

section
set_option maxHeartbeats 2000000
namespace Kx
open PySem L2 PySem.Spec PyProof.Rows
/-! ### {k: v for .. for ..}; turned from HandS.Comp (two fors of a list) and HandS.DictComp -/
theorem dTurn2_out (kx vx t0 i0 t1 i1 : Expr) (ifs0 ifs1 : List Expr) (scope : Scope) (pos : Pos) (it : Value) (D : Addr) (env : Env) :
    compTurn (.DictComp kx vx [⟨t0, i0, ifs0, 0⟩, ⟨t1, i1, ifs1, 0⟩] scope pos) 0 it (.ref D) env = (do
      standAt i0.pos
      match ← pyNext it with
      | none => pure (.done .next)
      | some v =>
        letOwnedTupleGo t0 it v
        assign t0 env v
        let mut ok := true
        for c in ifs0 do
          if ok then ok ← isTrue c env (eval c env)
        if ok then
          let x ← eval i1 env
          standAt i1.pos
          let x ← foldedSetIterable i1 env x
          let _ ← runOwn (.compStart (.DictComp kx vx [⟨t0, i0, ifs0, 0⟩, ⟨t1, i1, ifs1, 0⟩] scope pos) 1 (← holding [x] (pyIter x)) (.ref D) env) env
        again (.compLoop (.DictComp kx vx [⟨t0, i0, ifs0, 0⟩, ⟨t1, i1, ifs1, 0⟩] scope pos) 0 it (.ref D) env)) := by rfl
theorem dTurn2_in (kx vx t0 i0 t1 i1 : Expr) (ifs0 ifs1 : List Expr) (scope : Scope) (pos : Pos) (it : Value) (D : Addr) (env : Env) :
    compTurn (.DictComp kx vx [⟨t0, i0, ifs0, 0⟩, ⟨t1, i1, ifs1, 0⟩] scope pos) 1 it (.ref D) env = (do
      standAt i1.pos
      match ← pyNext it with
      | none => pure (.done .next)
      | some v =>
        letOwnedTupleGo t1 it v
        assign t1 env v
        let mut ok := true
        for c in ifs1 do
          if ok then ok ← isTrue c env (eval c env)
        if ok then
          (do
            let kv ← eval kx env
            let vv ← holding [kv] (eval vx env)
            standAt { kx.pos with endLine := vx.pos.endLine, endCol := vx.pos.endCol }
            holding [kv, vv] (dictSet D kv vv))
        again (.compLoop (.DictComp kx vx [⟨t0, i0, ifs0, 0⟩, ⟨t1, i1, ifs1, 0⟩] scope pos) 1 it (.ref D) env)) := by rfl

section
variable {prog : Program} {w : World} {A : Around} {R : Result → Shared → Prop} {s : Shared} {kx vx t0 i0 t1 i1 : Expr} {ifs0 ifs1 : List Expr} {scope : Scope} {pos : Pos} {it : Value} {D : Addr} {env : Env}
/-- the loop of the first clause -/
theorem dLoop2_out (hs : ∀ x, foldedSetIterable i1 env x = pure x) (I : Nat → Shared → Prop)
    (turn : ∀ n s, I n s → wpAny (model prog w) A (pyNext it) (fun r s₁ => match r with
      | none => R (.ok .next) s₁
      | some v => wpAny (model prog w) A (letOwnedTupleGo t0 it v) (fun _ s₁' => wpAny (model prog w) A (assign t0 env v) (fun _ s₂ =>
          wpAny (model prog w) A (forIn ifs0 true fun c r => if r = true then do let ok ← isTrue c env (eval c env); pure (ForInStep.yield ok) else pure (ForInStep.yield r)) (fun ok s₃ =>
            if ok = true then wpAny (model prog w) A (eval i1 env) (fun x s₄ => wpAny (model prog w) A (pyIter x) (fun it1 s₅ =>
              codeAny (model prog w) A (.compStart (.DictComp kx vx [⟨t0, i0, ifs0, 0⟩, ⟨t1, i1, ifs1, 0⟩] scope pos) 1 it1 (.ref D) env) (fun r s' => match r with
                | .ok _ => ∃ m, m < n ∧ I m s'
                | .error _ => False) s₅) (notedBy (model prog w) A env fun e s' => R (.error e) s') s₄) (notedBy (model prog w) A env fun e s' => R (.error e) s') s₃
            else ∃ m, m < n ∧ I m s₃) (notedBy (model prog w) A env fun e s' => R (.error e) s') s₂) (notedBy (model prog w) A env fun e s' => R (.error e) s') s₁') (notedBy (model prog w) A env fun e s' => R (.error e) s') s₁) (notedBy (model prog w) A env fun e s' => R (.error e) s') s)
    (n : Nat) (h : I n s) :
    codeAny (model prog w) A (.compLoop (.DictComp kx vx [⟨t0, i0, ifs0, 0⟩, ⟨t1, i1, ifs1, 0⟩] scope pos) 0 it (.ref D) env) R s := by
  refine codeAny_loop rfl I (fun n s hI => ?_) n h
  show wpAny _ A ((compTurn (.DictComp kx vx [⟨t0, i0, ifs0, 0⟩, ⟨t1, i1, ifs1, 0⟩] scope pos) 0 it (.ref D) env).onRaise (fun x => do noteFrame x env; theTreesLotGoes x)) _ _ s
  refine wpAny_noted ?_
  rw [dTurn2_out]
  refine wpAny_bind (wpAny_standAt (wpAny_bind (wpAny_mono (turn n s hI) (fun r s₁ h₁ => ?_) fun _ _ h' => h')))
  cases r with
  | none => exact wpAny_pure h₁
  | some v =>
    refine wpAny_bind (wpAny_mono h₁ (fun _ s₁' h₁' => ?_) fun _ _ h' => h')
    refine wpAny_bind (wpAny_mono h₁' (fun _ s₂ h₂ => wpAny_bind (wpAny_mono h₂ (fun ok s₃ h₃ => ?_) fun _ _ h' => h')) fun _ _ h' => h')
    cases ok with
    | false => exact wpAny_pure ⟨rfl, h₃⟩
    | true =>
      refine wpAny_bind (wpAny_mono h₃ (fun x s₄ h₄ => ?_) fun _ _ h' => h')
      refine wpAny_bind (wpAny_standAt (wpAny_bind (wpAny_of_eq (hs x) (wpAny_bind (wpAny_holding (wpAny_mono h₄ (fun it1 s₅ h₅ => ?_) fun _ _ h' => h'))))))
      refine wpAny_bind (wpAny_runOwn ?_)
      rw [Around.mark_none]
      refine codeAny_mono h₅ fun r s' hr => ?_
      cases r with
      | ok f =>
        first
          | exact wpAny_pure ⟨rfl, hr⟩
          | exact wpAny_bind (wpAny_pure (wpAny_pure ⟨rfl, hr⟩))
      | error e => exact hr.elim
/-- the loop of the second -/
theorem dLoop2_in (I : Nat → Shared → Prop)
    (turn : ∀ n s, I n s → wpAny (model prog w) A (pyNext it) (fun r s₁ => match r with
      | none => R (.ok .next) s₁
      | some v => wpAny (model prog w) A (letOwnedTupleGo t1 it v) (fun _ s₁' => wpAny (model prog w) A (assign t1 env v) (fun _ s₂ =>
          wpAny (model prog w) A (forIn ifs1 true fun c r => if r = true then do let ok ← isTrue c env (eval c env); pure (ForInStep.yield ok) else pure (ForInStep.yield r)) (fun ok s₃ =>
            if ok = true then wpAny (model prog w) A (eval kx env) (fun kv s₄ => wpAny (model prog w) A (eval vx env) (fun vv s₅ =>
              wpAny (model prog w) A (dictSet D kv vv) (fun _ s₆ => ∃ m, m < n ∧ I m s₆) (notedBy (model prog w) A env fun e s' => R (.error e) s') s₅) (notedBy (model prog w) A env fun e s' => R (.error e) s') s₄) (notedBy (model prog w) A env fun e s' => R (.error e) s') s₃
            else ∃ m, m < n ∧ I m s₃) (notedBy (model prog w) A env fun e s' => R (.error e) s') s₂) (notedBy (model prog w) A env fun e s' => R (.error e) s') s₁') (notedBy (model prog w) A env fun e s' => R (.error e) s') s₁) (notedBy (model prog w) A env fun e s' => R (.error e) s') s)
    (n : Nat) (h : I n s) :
    codeAny (model prog w) A (.compLoop (.DictComp kx vx [⟨t0, i0, ifs0, 0⟩, ⟨t1, i1, ifs1, 0⟩] scope pos) 1 it (.ref D) env) R s := by
  refine codeAny_loop rfl I (fun n s hI => ?_) n h
  show wpAny _ A ((compTurn (.DictComp kx vx [⟨t0, i0, ifs0, 0⟩, ⟨t1, i1, ifs1, 0⟩] scope pos) 1 it (.ref D) env).onRaise (fun x => do noteFrame x env; theTreesLotGoes x)) _ _ s
  refine wpAny_noted ?_
  rw [dTurn2_in]
  refine wpAny_bind (wpAny_standAt (wpAny_bind (wpAny_mono (turn n s hI) (fun r s₁ h₁ => ?_) fun _ _ h' => h')))
  cases r with
  | none => exact wpAny_pure h₁
  | some v =>
    refine wpAny_bind (wpAny_mono h₁ (fun _ s₁' h₁' => ?_) fun _ _ h' => h')
    refine wpAny_bind (wpAny_mono h₁' (fun _ s₂ h₂ => wpAny_bind (wpAny_mono h₂ (fun ok s₃ h₃ => ?_) fun _ _ h' => h')) fun _ _ h' => h')
    cases ok with
    | false => exact wpAny_pure ⟨rfl, h₃⟩
    | true =>
      exact wpAny_bind (wpAny_bind (wpAny_mono h₃ (fun kv s₄ h₄ => wpAny_bind (wpAny_holding (wpAny_mono h₄ (fun vv s₅ h₅ => wpAny_bind (wpAny_standAt (wpAny_holding (wpAny_mono h₅ (fun _ s₆ h₆ => wpAny_pure ⟨rfl, h₆⟩) fun _ _ h' => h')))) fun _ _ h' => h'))) fun _ _ h' => h'))
/-- the second clause's start -/
theorem dStart1_ok (h0 : codeAny (model prog w) A (.compLoop (.DictComp kx vx [⟨t0, i0, ifs0, 0⟩, ⟨t1, i1, ifs1, 0⟩] scope pos) 1 it (.ref D) env) R s)
    (h : wpAny (model prog w) A (pyIter it) (fun it' s' => codeAny (model prog w) A (.compLoop (.DictComp kx vx [⟨t0, i0, ifs0, 0⟩, ⟨t1, i1, ifs1, 0⟩] scope pos) 1 it' (.ref D) env) R s')
      (notedBy (model prog w) A env fun x s' => R (.error x) s') s) :
    codeAny (model prog w) A (.compStart (.DictComp kx vx [⟨t0, i0, ifs0, 0⟩, ⟨t1, i1, ifs1, 0⟩] scope pos) 1 it (.ref D) env) R s := by
  refine codeAny_of_tree ?_
  show wpAny _ _ ((compStart (.DictComp kx vx [⟨t0, i0, ifs0, 0⟩, ⟨t1, i1, ifs1, 0⟩] scope pos) 1 it (.ref D) env).onRaise (fun x => do noteFrame x env; standAt theWindowsPlace)) _ _ s
  refine wpAny_notedAt ?_
  unfold compStart
  show wpAny _ _ (ask >>= _) _ _ s
  refine wpAny_bind (wpAny_askSetting (wpAny_ite ?_))
  split
  · first
      | exact wpAny_bind (wpAny_pure (wpAny_pure (And.intro rfl h0)))
      | exact wpAny_pure (And.intro rfl h0)
  · first
      | exact wpAny_bind (wpAny_rule (wpAny_bind (wpAny_standAt (wpAny_bind (wpAny_mono h (fun it' s' h' => wpAny_pure (And.intro rfl h')) fun _ _ x => x)))))
      | (refine wpAny_bind (wpAny_rule ?_); show wpAny _ _ (standAt i1.pos >>= _) _ _ s; exact wpAny_bind (wpAny_standAt (wpAny_bind (wpAny_mono h (fun it' s' h' => wpAny_pure (And.intro rfl h')) fun _ _ x => x))))
end
def tDc2 (wi : TI) (g : TG) (wi1 : TI) (g1 : TG) (tk tv : TE) (vs vs1 : List Nat) : TE := fun σ H Q => wi σ H fun J H1 => ∀ D, H1 D = none → ∃ W : Nat → Nat → Hp → Prop, (∃ m, W 0 m (upd H1 D (.dT []))) ∧ ∀ i m H, W i m H →
  (J.stop i H ∧ Q (.ref D) H) ∨ (J.go i H ∧ ∃ Nx : Hp → Prop, (∀ H', Nx H' → ∃ m', m' < m ∧ W (i + 1) m' H') ∧ ∀ x H', J.yld i H x H' → g x (wipe σ vs) H' fun σ2 H2 => wipe σ2 vs = wipe σ vs ∧ 
    wi1 σ2 H2 fun J1 H4 => ∃ W1 : Nat → Nat → Hp → Prop, (∃ m, W1 0 m H4) ∧ ∀ j k H, W1 j k H →
      (J1.stop j H ∧ Nx H) ∨ (J1.go j H ∧ ∃ Nx1 : Hp → Prop, (∀ H', Nx1 H' → ∃ k', k' < k ∧ W1 (j + 1) k' H') ∧ ∀ x H', J1.yld j H x H' → g1 x (wipe σ2 vs1) H' fun σ3 H5 => wipe σ3 vs1 = wipe σ2 vs1 ∧
        tk σ3 H5 fun y H6 => tv σ3 H6 fun z H7 => ∃ H8, DPut H7 D y z H8 ∧ Nx1 H8))
section
variable {X : Cx}
theorem dc2_core {pins : List (Addr × Obj)} {s : Shared} {σ : L2.St} {H : Hp} {Q : VK} {kx vx tg iter tg1 iter1 : Expr} {scope : Scope} {own : List (Str × Nat)} {vs1 : List Nat} {pos pos' : Pos} {wi wi1 : TI} {g g1 : TG} {tk tv : TE} {use : Option (Value → Sem Unit)} {Qf : Value → Shared → Prop} (hu : X.A.units + 1 < cLine)
    (I : Inv X pins σ H s) (hc : X.calm = true) (hN : X.N.Nodup) (hi : PI X tg iter wi) (ok : BlkOk X.N X.env.scope scope own) (hv : ∀ i ∈ vs1, i ∈ own.map (·.2))
    (hg : ∀ (s : Shared) (H : Hp) (C : Addr) (cl : List (Str × Addr)) (fp : List Addr), PG (X.blk s H scope (compEnvC scope cl C X.env) fp) tg g)
    (hi1 : ∀ (s : Shared) (H : Hp) (C : Addr) (cl : List (Str × Addr)) (fp : List Addr), PI (X.blk s H scope (compEnvC scope cl C X.env) fp) tg1 iter1 wi1)
    (hg1 : ∀ (s : Shared) (H : Hp) (C : Addr) (cl : List (Str × Addr)) (fp : List Addr), PG (X.blk s H scope (compEnvC scope cl C X.env) fp) tg1 g1)
    (hk : ∀ (s : Shared) (H : Hp) (C : Addr) (cl : List (Str × Addr)) (fp : List Addr), PE (X.blk s H scope (compEnvC scope cl C X.env) fp) kx tk)
    (he : ∀ (s : Shared) (H : Hp) (C : Addr) (cl : List (Str × Addr)) (fp : List Addr), PE (X.blk s H scope (compEnvC scope cl C X.env) fp) vx tv)
    (hs : ∀ x, foldedSetIterable iter X.env x = pure x) (hs1 : ∀ env x, foldedSetIterable iter1 env x = pure x)
    (h : tDc2 wi g wi1 g1 tk tv (own.map (·.2)) vs1 σ H Q)
    (hRR : ∀ D C s' m H', Inv X pins σ H' s' → Q (.ref D) H' → s'.heap.Ns C m → FpOk X pins H' C → compPost (model X.prog X.w) X.A X.xe use Qf (.ref D) C (.ok .next) s') :
    wpAny (model X.prog X.w) X.A (comprehension (.DictComp kx vx [⟨tg, iter, [], 0⟩, ⟨tg1, iter1, [], 0⟩] scope pos) scope X.env pos' newDict false (eval iter X.env) use) Qf X.xe s := by
  have hfree : ∀ y ∈ scope.names, y.2 = .free → ∃ c, X.env.cells.lookup y.1 = some c := fun y hy e => by
    rcases ok.free y hy e with k | k
    · exact I.ok.has _ (.inl k)
    · exact I.ok.has _ (.inr k)
  refine wpAny_comprehension_free (use := use) rfl hs (closure_ok hfree) ok.kind (fun y hy e => by rw [ok.uniq y hy, e])
    (thn (hi.run pins s σ H _ I h) fun xv s1 hx => thn hx fun itv s2 h2 => ?_)
  obtain ⟨it, fp, tn, J, H2, e, I2, T, st2, f2, q⟩ := h2
  subst e
  refine wpAny_newObj_type (newEnv_comp ?_)
  generalize hD : s2.heap.objs.size = D
  have hDn : H2 D = none := I2.hok.fresh (Nat.le_of_eq hD)
  obtain ⟨W, ⟨m0, w0⟩, turn⟩ := q D hDn
  -- the new list
  generalize hs3 : ({ s2 with heap := s2.heap.push { cls := .type "dict", data := .dict #[] } } : Shared) = s3
  have I3 : Inv X pins σ (upd H2 D (.dT [])) s3 := by
    rw [← hs3]
    refine I2.laid (t' := s2.toks) (fun b o e => Heap.get?_push_of_some _ e) (Nat.le_of_eq hD) ?_
    rw [← hD]
    exact dt_empty s2.heap I2.big
  have h3 : s3.heap = s2.heap.push { cls := .type "dict", data := .dict #[] } := by rw [← hs3]
  have sz : ∀ b ∈ fp, b < s2.heap.objs.size := fun b hb => by
    obtain ⟨o, e, _⟩ := T.obj _ _ st2 b hb
    exact Heap.lt_size e
  have f3 : ∀ b ∈ fp, FpOk X pins (upd H2 D (.dT [])) b ∧ b < s3.heap.objs.size := fun b hb => by
    have hlt := sz b hb
    refine ⟨⟨?_, (f2 b hb).2⟩, by rw [h3, Heap.size_push]; exact Nat.lt_succ_of_lt hlt⟩
    rw [upd_ne (by rw [← hD]; exact Nat.ne_of_lt hlt)]
    exact (f2 b hb).1
  have st3 : tn 0 s3.heap := T.keep _ _ _ st2 fun b _ o e => by rw [h3]; exact Heap.get?_push_of_some _ e
  have I4 := block_start I3 ok hN f3
  have pg := hg s3 (upd H2 D (.dT [])) s3.heap.objs.size (cellsFrom (s3.heap.objs.size + 1) scope.names (cloFrom X.env.cells scope.names [])) fp
  have pe := he s3 (upd H2 D (.dT [])) s3.heap.objs.size (cellsFrom (s3.heap.objs.size + 1) scope.names (cloFrom X.env.cells scope.names [])) fp
  have pk := hk s3 (upd H2 D (.dT [])) s3.heap.objs.size (cellsFrom (s3.heap.objs.size + 1) scope.names (cloFrom X.env.cells scope.names [])) fp
  have pi1 := hi1 s3 (upd H2 D (.dT [])) s3.heap.objs.size (cellsFrom (s3.heap.objs.size + 1) scope.names (cloFrom X.env.cells scope.names [])) fp
  have pg1 := hg1 s3 (upd H2 D (.dT [])) s3.heap.objs.size (cellsFrom (s3.heap.objs.size + 1) scope.names (cloFrom X.env.cells scope.names [])) fp
  show codeAny _ _ (.compStart (.DictComp kx vx [⟨tg, iter, [], 0⟩, ⟨tg1, iter1, [], 0⟩] scope pos) 0 (.ref it) (.ref D) (compEnvC scope (cellsFrom (s3.heap.objs.size + 1) scope.names (cloFrom X.env.cells scope.names [])) s3.heap.objs.size X.env)) (compPost (model X.prog X.w) X.A X.xe use Qf (.ref D) s3.heap.objs.size) { s3 with heap := pushCells (s3.heap.push { cls := .type "dict", data := .dict #[] }) scope.names }
  have nfp : ∀ b ∈ fp, (upd H2 D (.dT [])) b = none := fun b hb => (f3 b hb).1.1
  generalize hce : compEnvC scope (cellsFrom (s3.heap.objs.size + 1) scope.names (cloFrom X.env.cells scope.names [])) s3.heap.objs.size X.env = ce at I4 pg pk pe pi1 pg1 ⊢
  have cL : ce.locals = s3.heap.objs.size := by subst hce; rfl
  generalize hH3 : upd H2 D (.dT []) = H3 at I3 I4 pg pk pe pi1 pg1 w0 nfp f3
  generalize hs4 : ({ s3 with heap := pushCells (s3.heap.push { cls := .type "dict", data := .dict #[] }) scope.names } : Shared) = s4 at I4 ⊢
  have st4 : tn 0 s4.heap := T.keep _ _ _ st3 fun b _ o e => by rw [← hs4]; exact pushCells_keeps _ _ _ _ (Heap.get?_push_of_some _ e)
  have stat : ∀ {σ' : L2.St} {H' : Hp} {s' : Shared}, Inv (X.blk s3 H3 scope ce fp) [] σ' H' s' → (∀ b ∈ fp, H' b = none) → ∀ b ∈ fp, FpOk (X.blk s3 H3 scope ce fp) [] H' b := fun {σ' H' s'} I' hn b hb =>
    ⟨hn b hb, (I'.ok.exf b hb).1, I'.ok.exfs b hb, .inl hb, fun x c e => (I'.ok.exf b hb).2 x c e, fun p hp => absurd (show p ∈ ([] : List (Addr × Obj)) ++ [] from hp) (by simp)⟩
  have loop : codeAny (model X.prog X.w) X.A (.compLoop (.DictComp kx vx [⟨tg, iter, [], 0⟩, ⟨tg1, iter1, [], 0⟩] scope pos) 0 (.ref it) (.ref D) ce) (compPost (model X.prog X.w) X.A X.xe use Qf (.ref D) s3.heap.objs.size) s4 := by
    refine dLoop2_out (hs1 ce) (fun n s' => ∃ i H', Inv (X.blk s3 H3 scope ce fp) [] (wipe σ (own.map (·.2))) H' s' ∧ tn i s'.heap ∧ (∀ b ∈ fp, H' b = none) ∧ W i n H') ?_ m0 ⟨0, H3, I4, st4, nfp, w0⟩
    rintro n s5 ⟨i, H5, I5, st5, n5, w5⟩
    rcases turn i n H5 w5 with ⟨stop, qq⟩ | ⟨go, Nx, hNx, step⟩
    · have td := T.done (X.blk s3 H3 scope ce fp) rfl rfl rfl hc i [] s5 _ H5 (fun _ _ => False) I5 (stat I5 n5) st5 stop
      refine thnF td fun r s6 ⟨hr, I6⟩ => ?_
      subst hr
      -- back in the def's context
      have I7 : Inv X pins σ H5 s6 := I3.call' (ch := fp) I6.os I6.base I6.hok I6.bare fun b hb => ⟨(f3 b hb).1.2.2.2.1, (f3 b hb).1.2.1, (f3 b hb).1.2.2.2.2.1, (f3 b hb).1.2.2.2.2.2⟩
      have nC : H5 s3.heap.objs.size = none := by
        have z : H5 ce.locals = none := I6.free
        rw [cL] at z
        exact z
      obtain ⟨m, hn, _⟩ := I6.loc
      have hn : s6.heap.Ns ce.locals m := hn
      rw [cL] at hn
      exact hRR D s3.heap.objs.size s6 m H5 I7 qq hn (I3.fpOk (Nat.le_refl _) nC)
    · have ti := T.item (X.blk s3 H3 scope ce fp) rfl rfl rfl hc i [] s5 _ H5 (fun _ _ => False) I5 (stat I5 n5) st5 go
      refine thnF ti fun r s6 ⟨u, hr, h6⟩ => ?_
      subst hr
      refine thnF h6 fun _ s7 ⟨x, H7, I7, r7, y7, st7, n7⟩ => ?_
      have I7' := I7.pinned (stat I7 n7) (T.obj _ _ st7)
      refine thnF (pg.run _ s7 _ H7 x u _ I7' r7 (step x H7 y7)) fun _ s8 ⟨σ8, H8, I8, hw8, q8⟩ => ?_
      refine wpAny_pure ?_
      -- the turn's end, from any slots that know what the block knew at its start
      have fin : ∀ {σ9 : L2.St} {s' : Shared} {H' : Hp}, Inv (X.blk s3 H3 scope ce fp) ([] ++ pinsAt fp s7.heap) σ9 H' s' → (wipe σ (own.map (·.2))).length = σ9.length → (∀ (j : Nat) v, (wipe σ (own.map (·.2)))[j]? = some (some v) → σ9[j]? = some (some v)) → Nx H' →
          ∃ m, m < n ∧ ∃ i H', Inv (X.blk s3 H3 scope ce fp) [] (wipe σ (own.map (·.2))) H' s' ∧ tn i s'.heap ∧ (∀ b ∈ fp, H' b = none) ∧ W i m H' := fun {σ9 s' H'} I' hl hk nx => by
        obtain ⟨m', hm, w'⟩ := hNx H' nx
        have pin' : ∀ b ∈ fp, ∀ o, s7.heap.get? b = some o → s'.heap.get? b = some o ∧ H' b = none := fun b hb o e =>
          let z := I'.pin (b, o) (List.mem_append_right _ (List.mem_append_right _ (mem_pinsAt hb e)))
          ⟨z.1, z.2.1⟩
        refine ⟨m', hm, i + 1, H', (I'.unpinned (pins := [])).weak hl hk, T.keep _ _ _ st7 fun b hb o e => (pin' b hb o e).1, fun b hb => ?_, w'⟩
        obtain ⟨o, e, _⟩ := T.obj _ _ st7 b hb
        exact (pin' b hb o e).2
      have hl8 : (wipe σ (own.map (·.2))).length = σ8.length := by rw [← hw8, wipe_length]
      have hk8 : ∀ (j : Nat) v, (wipe σ (own.map (·.2)))[j]? = some (some v) → σ8[j]? = some (some v) := fun j v e => by
        rw [← hw8] at e
        exact (wipe_some e).1
      have hk9 : ∀ (j : Nat) v, (wipe σ (own.map (·.2)))[j]? = some (some v) → (wipe σ8 vs1)[j]? = some (some v) := fun j v e => by
        rw [← hw8] at e
        obtain ⟨e1, e2⟩ := wipe_some e
        rw [wipe_out fun z => e2 (hv j z)]
        exact e1
      · simp only [if_true]
        refine thnF (pi1.run _ s8 σ8 H8 _ I8 q8) fun xv s10 hx => thnF hx fun itv s11 h11 => ?_
        obtain ⟨it1, fp1, tn1, J1, H11, e1, I11, T1, st11, f11, W1, ⟨m1, w1⟩, turn1⟩ := h11
        subst e1
        -- the inner loop
        have stat1 : ∀ {H' : Hp}, (∀ b ∈ fp1, H' b = none) → ∀ b ∈ fp1, FpOk (X.blk s3 H3 scope ce fp) ([] ++ pinsAt fp s7.heap) H' b := fun hn b hb => ⟨hn b hb, (f11 b hb).2⟩
        have loop1 : codeAny (model X.prog X.w) X.A (.compLoop (.DictComp kx vx [⟨tg, iter, [], 0⟩, ⟨tg1, iter1, [], 0⟩] scope pos) 1 (.ref it1) (.ref D) ce)
            (fun r s' => match r with
              | .ok _ => ∃ m, m < n ∧ ∃ i H', Inv (X.blk s3 H3 scope ce fp) [] (wipe σ (own.map (·.2))) H' s' ∧ tn i s'.heap ∧ (∀ b ∈ fp, H' b = none) ∧ W i m H'
              | .error _ => False) s11 := by
          refine dLoop2_in (fun k s' => ∃ j H', Inv (X.blk s3 H3 scope ce fp) ([] ++ pinsAt fp s7.heap) (wipe σ8 vs1) H' s' ∧ tn1 j s'.heap ∧ (∀ b ∈ fp1, H' b = none) ∧ W1 j k H') ?_ m1 ⟨0, H11, I11.weak (wipe_length _ _) (fun j v e => (wipe_some e).1), st11, fun b hb => (f11 b hb).1, w1⟩
          rintro k s12 ⟨j, H12, I12, st12, n12, w12⟩
          rcases turn1 j k H12 w12 with ⟨stop1, nx1⟩ | ⟨go1, Nx1, hNx1, step1⟩
          · refine thnF (T1.done (X.blk s3 H3 scope ce fp) rfl rfl rfl hc j _ s12 (wipe σ8 vs1) H12 (fun _ _ => False) I12 (stat1 n12) st12 stop1) fun r s13 ⟨hr, I13⟩ => ?_
            subst hr
            exact fin I13 (hl8.trans (wipe_length σ8 vs1).symm) hk9 nx1
          · refine thnF (T1.item (X.blk s3 H3 scope ce fp) rfl rfl rfl hc j _ s12 (wipe σ8 vs1) H12 (fun _ _ => False) I12 (stat1 n12) st12 go1) fun r s13 ⟨u1, hr, h13⟩ => ?_
            subst hr
            refine thnF h13 fun _ s14 ⟨x1, H14, I14, r14, y14, st14, n14⟩ => ?_
            have I14' := I14.pinned (stat1 n14) (T1.obj _ _ st14)
            refine thnF (pg1.run _ s14 (wipe σ8 vs1) H14 x1 u1 _ I14' r14 (step1 x1 H14 y14)) fun _ s15 ⟨σ15, H15, I15, hw15, q15⟩ => ?_
            refine wpAny_pure ?_
            have fin1 : ∀ {s' : Shared} {H' : Hp}, Inv (X.blk s3 H3 scope ce fp) (([] ++ pinsAt fp s7.heap) ++ pinsAt fp1 s14.heap) σ15 H' s' → Nx1 H' → ∃ m, m < k ∧ ∃ j H', Inv (X.blk s3 H3 scope ce fp) ([] ++ pinsAt fp s7.heap) (wipe σ8 vs1) H' s' ∧ tn1 j s'.heap ∧ (∀ b ∈ fp1, H' b = none) ∧ W1 j m H' := fun {s' H'} I' nx => by
              obtain ⟨m', hm, w'⟩ := hNx1 H' nx
              have pin' : ∀ b ∈ fp1, ∀ o, s14.heap.get? b = some o → s'.heap.get? b = some o ∧ H' b = none := fun b hb o e =>
                let z := I'.pin (b, o) (List.mem_append_right _ (List.mem_append_right _ (mem_pinsAt hb e)))
                ⟨z.1, z.2.1⟩
              refine ⟨m', hm, j + 1, H', I'.unpinned.weak (by rw [← hw15, wipe_length]) (fun j v e => by rw [← hw15] at e; exact (wipe_some e).1), T1.keep _ _ _ st14 fun b hb o e => (pin' b hb o e).1, fun b hb => ?_, w'⟩
              obtain ⟨o, e, _⟩ := T1.obj _ _ st14 b hb
              exact (pin' b hb o e).2
            simp only [if_true]
            refine thnF (pk.run _ s15 σ15 H15 _ I15 q15) fun z s16 ⟨yk, H16, I16, r16, q16⟩ => ?_
            refine thnF (pe.run _ s16 σ15 H16 _ I16 q16) fun z2 s17 ⟨yv, H17, I17, r17, H6, put, nx⟩ => ?_
            exact dictSet2 (X := X.blk s3 H3 scope ce fp) hu I17 put r16 r17 fun s18 I18 => fin1 I18 nx
        exact dStart1_ok loop1 (T1.self X.A 0 _ _ _ st11 loop1)
  exact codeAny_compStart_dict loop (T.self X.A 0 _ _ _ st4 loop)
theorem pe_dc2 {kx vx tg iter tg1 iter1 : Expr} {scope : Scope} {own : List (Str × Nat)} {vs1 : List Nat} {pos : Pos} {wi wi1 : TI} {g g1 : TG} {tk tv : TE} (hu : X.A.units + 1 < cLine) (hc : X.calm = true) (hN : X.N.Nodup) (hi : PI X tg iter wi) (ok : BlkOk X.N X.env.scope scope own) (hv : ∀ i ∈ vs1, i ∈ own.map (·.2))
    (hg : ∀ (s : Shared) (H : Hp) (C : Addr) (cl : List (Str × Addr)) (fp : List Addr), PG (X.blk s H scope (compEnvC scope cl C X.env) fp) tg g)
    (hi1 : ∀ (s : Shared) (H : Hp) (C : Addr) (cl : List (Str × Addr)) (fp : List Addr), PI (X.blk s H scope (compEnvC scope cl C X.env) fp) tg1 iter1 wi1)
    (hg1 : ∀ (s : Shared) (H : Hp) (C : Addr) (cl : List (Str × Addr)) (fp : List Addr), PG (X.blk s H scope (compEnvC scope cl C X.env) fp) tg1 g1)
    (hk : ∀ (s : Shared) (H : Hp) (C : Addr) (cl : List (Str × Addr)) (fp : List Addr), PE (X.blk s H scope (compEnvC scope cl C X.env) fp) kx tk)
    (he : ∀ (s : Shared) (H : Hp) (C : Addr) (cl : List (Str × Addr)) (fp : List Addr), PE (X.blk s H scope (compEnvC scope cl C X.env) fp) vx tv)
    (hs : ∀ x, foldedSetIterable iter X.env x = pure x := by intro _; rfl) (hs1 : ∀ env x, foldedSetIterable iter1 env x = pure x := by intro _ _; rfl) :
    PE X (.DictComp kx vx [⟨tg, iter, [], 0⟩, ⟨tg1, iter1, [], 0⟩] scope pos) (tDc2 wi g wi1 g1 tk tv (own.map (·.2)) vs1) := by
  refine ⟨fun pins s σ H Q I h => ?_⟩
  rw [arm_eval_DictComp]
  refine dc2_core hu I hc hN hi ok hv hg hi1 hg1 hk he hs hs1 h fun D C s' m H' I' q hn f => ⟨m, hn, fun h'' sb => ?_⟩
  obtain ⟨f0, f1, f2, f3, f4, f5⟩ := f
  exact ⟨.ref D, H', I'.turned (t' := s'.toks) (fun b o hb e => (sb.2 b hb).trans e) f0 f1 f3 f4 f5, rfl, q⟩
theorem sw_trueD {kx vx : Expr} {gs : List Comprehension} {scope : Scope} {pos py : Pos} {y : Str} {l : Nat} {env : Env} (hk : env.scope.kind = .function) (hy : env.scope.names.lookup y = some .local) (hl : (py.line == pos.line) = true)
    (ha : (scope.names.any fun (n, k) => n == y && (k == .local || k == .cell)) = false) : swapsWith (.DictComp kx vx gs scope pos) (some (.Name y py)) l env = pure true := by
  have ky : env.kindOf y = some .local := hy
  have hb : env.blockKind = .function := by unfold Env.blockKind; rw [hk]; rfl
  unfold swapsWith
  simp only [hb, ky, ha, Expr.pos, hl]
  rfl
theorem ps_setDc2 {i : Nat} {y : Str} {py : Pos} {kx vx tg iter tg1 iter1 : Expr} {scope : Scope} {own : List (Str × Nat)} {vs1 : List Nat} {pos spos : Pos} {wi wi1 : TI} {g g1 : TG} {tk tv : TE} (hu : X.A.units + 1 < cLine) (hc : X.calm = true) (hN : X.N.Nodup) (hy : X.N[i]? = some y) (hyl : X.env.scope.names.lookup y = some .local)
    (hsw : swapsWith (.DictComp kx vx [⟨tg, iter, [], 0⟩, ⟨tg1, iter1, [], 0⟩] scope pos) (some (.Name y py)) spos.line X.env = pure true) (hi : PI X tg iter wi) (ok : BlkOk X.N X.env.scope scope own) (hv : ∀ i ∈ vs1, i ∈ own.map (·.2))
    (hg : ∀ (s : Shared) (H : Hp) (C : Addr) (cl : List (Str × Addr)) (fp : List Addr), PG (X.blk s H scope (compEnvC scope cl C X.env) fp) tg g)
    (hi1 : ∀ (s : Shared) (H : Hp) (C : Addr) (cl : List (Str × Addr)) (fp : List Addr), PI (X.blk s H scope (compEnvC scope cl C X.env) fp) tg1 iter1 wi1)
    (hg1 : ∀ (s : Shared) (H : Hp) (C : Addr) (cl : List (Str × Addr)) (fp : List Addr), PG (X.blk s H scope (compEnvC scope cl C X.env) fp) tg1 g1)
    (hk : ∀ (s : Shared) (H : Hp) (C : Addr) (cl : List (Str × Addr)) (fp : List Addr), PE (X.blk s H scope (compEnvC scope cl C X.env) fp) kx tk)
    (he : ∀ (s : Shared) (H : Hp) (C : Addr) (cl : List (Str × Addr)) (fp : List Addr), PE (X.blk s H scope (compEnvC scope cl C X.env) fp) vx tv)
    (hs : ∀ x, foldedSetIterable iter X.env x = pure x := by intro _; rfl) (hs1 : ∀ env x, foldedSetIterable iter1 env x = pure x := by intro _ _; rfl) :
    PS X (.Assign [.Name y py] (.DictComp kx vx [⟨tg, iter, [], 0⟩, ⟨tg1, iter1, [], 0⟩] scope pos) spos) (tAsg (tDc2 wi g wi1 g1 tk tv (own.map (·.2)) vs1) (gName i)) := by
  refine ⟨fun pins s σ H D I h => ?_⟩
  rw [exec_Assign_Name_used _ _ _ _ hsw]
  refine wpAny_bind (wpAny_standAt (wpAny_bind ?_))
  show wpAny _ X.A (do let _ ← comprehension (.DictComp kx vx [⟨tg, iter, [], 0⟩, ⟨tg1, iter1, [], 0⟩] scope pos) scope X.env (firstIterPos [⟨tg, iter, [], 0⟩, ⟨tg1, iter1, [], 0⟩] pos) newDict false (eval iter X.env) (some (assign (.Name y py) X.env))) _ _ s
  have h : tDc2 wi g wi1 g1 tk tv (own.map (·.2)) vs1 σ H (fun x H1 => gName i x σ H1 D.nx) := h
  refine wpAny_bind (thn (dc2_core (Qf := fun _ s' => SP X pins D .next s') hu I hc hN hi ok hv hg hi1 hg1 hk he hs hs1 h fun L C s' m H' I' q hn f => ?_) fun _ s' hq => wpAny_pure (wpAny_pure hq))
  show wpAny _ _ (assign (.Name y py) X.env (.ref L)) _ _ _
  refine wpAny_assign_Name (store_ok2 (v := V.ref L) I' hN hy (.inl hyl) rfl (fun s2 I2 ⟨a, sb, ha⟩ => ?_) (.inr hyl))
  obtain ⟨f0, f1, f2, f3, f4, f5⟩ := f
  have haC : C ≠ a := by
    rcases ha with z | z
    · rw [z]; exact f1
    · exact fun e => f4 y a z e.symm
  refine ⟨m, hn.sameBut sb haC, fun h3 sb3 => ?_⟩
  exact ⟨_, H', I2.turned (t' := s2.toks) (fun b o hb e => (sb3.2 b hb).trans e) f0 f1 f3 f4 f5, q⟩
end
end Kx

end

section
set_option maxHeartbeats 2000000
namespace Kx
open PySem L2
section
variable {α β γ : Type} {K : PySem.W.Frag} {σ σ' : St} {G G' M M1 M2 M3 : Hp} {ta tb te tc tk tv : TE} {e : β → Dat}
def dc2O (f : α → Option (List γ)) (h : α → γ → Option ((Str × Str) × β)) (xs : List α) : Option (List ((Str × Str) × β)) := (lc2O f h xs).bind fun ys => some (mergeA [] ys)
theorem mergeA_snoc {xs : List ((Str × Str) × β)} {y : (Str × Str) × β} : mergeA [] (xs ++ [y]) = putA (mergeA [] xs) y.1 y.2 := by
  unfold mergeA
  rw [List.foldl_append]
  rfl
theorem ep_dc2 {ea : α → Dat} {ec : γ → Dat} {f : α → Option (List γ)} {h : α → γ → Option ((Str × Str) × β)} {xs : List α} {ys : List ((Str × Str) × β)} {wi wi1 : TI} {g g1 : TG} {vs vs1 : List Nat} (src : Src K wi σ G M M1 (xs.map ea)) (hf : dc2O f h xs = some ys)
    (hs : ∀ (x : α) (zs : List γ) (Mx G1 : Hp) (v : V), f x = some zs → Same M1 Mx → Same G G1 → Dq K G1 v (ea x) → Tg g v (wipe σ vs) G1 fun σ2 => wipe σ2 vs = wipe σ vs ∧ Src K wi1 σ2 G1 Mx Mx (zs.map ec) ∧
      ∀ (c : γ) (y : (Str × Str) × β) (Mx' G2 : Hp) (v2 : V), h x c = some y → Same M1 Mx' → Same G1 G2 → Dq K G2 v2 (ec c) → Tg g1 v2 (wipe σ2 vs1) G2 fun σ3 => wipe σ3 vs1 = wipe σ2 vs1 ∧ Ev tk σ3 G2 Mx' Mx' (DD K (.rtup [.str y.1.1, .str y.1.2])) ∧ Ev tv σ3 G2 Mx' Mx' (DD K (e y.2))) :
    EvP K (tDc2 wi g wi1 g1 tk tv vs vs1) σ G M M1 e ys := by
  intro G0 H s k Q q
  obtain ⟨ys', h0, h9⟩ := bs hf
  cases h9
  obtain ⟨rs, h1, h2⟩ := bs h0
  obtain ⟨_, h3, h4⟩ := bs h2
  cases h4
  have hz := szl (grd_of h3)
  have hl := mapO_len h1
  refine src G0 H s k _ fun J G1 H1 s1 k1 w => ?_
  obtain ⟨Y, Gd, w, hGd, hY⟩ := w
  intro D hD
  have mD : M1 D = none := Same.none k1.m hD
  rw [List.length_map] at w
  let Pv : Nat → Hp → Prop := fun i H => ∃ G2 kvs, Same G1 G2 ∧ Ok G2 (upd M1 D (.dT kvs)) H ∧ KOkP K G2 e kvs (mergeA [] (rs.take i).flatten)
  refine ⟨fun i m H => m = xs.length - i ∧ i ≤ xs.length ∧ Pv i H, ⟨xs.length, by simp, Nat.zero_le _, G1, [], Same.refl _, k1.newM _ hD, KOkP.nil⟩, ?_⟩
  rintro i m H2 ⟨rfl, hi, G2, kvs, s2, k2, hacc⟩
  have qg := hGd H2 (s2.trans k2.g)
  by_cases hlt : i < xs.length
  · refine .inr ⟨w.goes i H2 hlt qg, Pv (i + 1), fun H' p' => ⟨xs.length - (i + 1), by omega, rfl, hlt, p'⟩, fun x H3 y => ?_⟩
    have y := w.yields i H2 x H3 hlt qg y
    obtain ⟨a, ha⟩ : ∃ a, xs[i]? = some a := ⟨xs[i], List.getElem?_eq_getElem hlt⟩
    obtain ⟨r, hr⟩ : ∃ r, rs[i]? = some r := ⟨rs[i]'(by omega), List.getElem?_eq_getElem (by omega)⟩
    obtain ⟨G3, s3, k3, hx⟩ := hY i (ea a) H2 x H3 G2 _ (by rw [List.getElem?_map, ha]; rfl) s2 k2 y
    have e0 : (f a).bind (fun zs => mapO (h a) zs) = some r := mapO_get (f := fun x => (f x).bind fun zs => mapO (h x) zs) h1 ha hr
    obtain ⟨zs, e1, e2⟩ := bs e0
    have hl2 := mapO_len e2
    have htk : (rs.take (i + 1)).flatten = (rs.take i).flatten ++ r := by
      rw [List.take_add_one, hr, List.flatten_append]
      simp
    have hfl : (rs.take i).flatten.length + r.length ≤ rs.flatten.length := by
      have : rs.flatten = (rs.take (i + 1)).flatten ++ (rs.drop (i + 1)).flatten := by rw [← List.flatten_append, List.take_append_drop]
      rw [this, htk, List.length_append, List.length_append]
      omega
    refine hs a zs (upd M1 D (.dT kvs)) G3 x e1 (Same.new mD) (((s.trans s1).trans s2).trans s3) hx H3 _ k3.g ?_
    rintro σ2 ⟨hw, sr, hin⟩
    refine ⟨hw, ?_⟩
    refine sr G3 H3 (Same.refl _) k3 _ fun J1 G4 H4 s4 k4 w1 => ?_
    obtain ⟨Y1, Gd1, w1, hGd1, hY1⟩ := w1
    rw [List.length_map] at w1
    let Pv1 : Nat → Hp → Prop := fun j H => ∃ G5 kvs1, Same G4 G5 ∧ Ok G5 (upd M1 D (.dT kvs1)) H ∧ KOkP K G5 e kvs1 (mergeA [] ((rs.take i).flatten ++ r.take j))
    refine ⟨fun j m H => m = zs.length - j ∧ j ≤ zs.length ∧ Pv1 j H, ⟨zs.length, by simp, Nat.zero_le _, G4, kvs, Same.refl _, k4, by rw [List.take_zero, List.append_nil]; exact hacc.up (s3.trans s4)⟩, ?_⟩
    rintro j m H5 ⟨rfl, hj, G5, kvs1, s5, k5, hacc1⟩
    have qg1 := hGd1 H5 (s5.trans k5.g)
    by_cases hlt1 : j < zs.length
    · refine .inr ⟨w1.goes j H5 hlt1 qg1, Pv1 (j + 1), fun H' p' => ⟨zs.length - (j + 1), by omega, rfl, hlt1, p'⟩, fun x1 H6 y1 => ?_⟩
      have y1 := w1.yields j H5 x1 H6 hlt1 qg1 y1
      obtain ⟨c, hc⟩ : ∃ c, zs[j]? = some c := ⟨zs[j], List.getElem?_eq_getElem hlt1⟩
      obtain ⟨b, hb⟩ : ∃ b, r[j]? = some b := ⟨r[j]'(by omega), List.getElem?_eq_getElem (by omega)⟩
      obtain ⟨G6, s6, k6, hx1⟩ := hY1 j (ec c) H5 x1 H6 G5 _ (by rw [List.getElem?_map, hc]; rfl) s5 k5 y1
      refine hin c b (upd M1 D (.dT kvs1)) G6 x1 (mapO_get e2 hc hb) (Same.new mD) ((s4.trans s5).trans s6) hx1 H6 _ k6.g ?_
      rintro σ3 ⟨hw3, ek, ev⟩
      refine ⟨hw3, ?_⟩
      refine ek G6 H6 (Same.refl _) k6 _ fun kv G7 H7 s7 k7 hk => ev G7 H7 s7 k7 _ fun vv G8 H8 s8 k8 hv => ?_
      have okb : okP b.1 := okP_of hk
      obtain ⟨c', rfl, hc'⟩ := key_pair (k := b.1) hk
      have s58 := (s6.trans s7).trans s8
      have hlen : (mergeA [] ((rs.take i).flatten ++ r.take j)).length < sizeLine := by
        have := mergeA_len ((rs.take i).flatten ++ r.take j) []
        rw [List.length_nil, List.length_append, List.length_take] at this
        rw [sizeLine_eq] at hz ⊢
        omega
      refine ⟨_, DPut.t (k8.m _ _ upd_same) ((s8.trans k8.g) _ _ hc') (by rw [hacc1.1.len]; exact hlen), G8, putK kvs1 (kP b.1) vv, s5.trans s58, ?_, ?_⟩
      · have := k8.chg (p := D) (u := .dT kvs1) (.dT (putK kvs1 (kP b.1) vv)) upd_same
        rw [upd_upd] at this
        exact this
      · rw [List.take_add_one, hb, ← List.append_assoc, show (some b).toList = [b] from rfl, mergeA_snoc]
        exact ⟨(hacc1.1.up s58).put kP_inj _ hv, putA_keys hacc1.2 okb⟩
    · have e : j = zs.length := by omega
      subst e
      refine .inl ⟨w1.stops H5 qg1, G5, kvs1, ((s2.trans s3).trans s4).trans s5, k5, ?_⟩
      rw [htk]
      rw [← hl2, List.take_length] at hacc1
      exact hacc1
  · have e : i = xs.length := by omega
    subst e
    refine .inl ⟨w.stops H2 qg, ?_⟩
    rw [← hl, List.take_length] at hacc
    exact q D kvs G2 H2 (s1.trans s2) k2 mD hacc
end
end Kx

end

section
set_option maxHeartbeats 2000000
namespace Kx
open PySem L2
section
variable {K : PySem.W.Frag} {σ σ' : St} {G G' M M1 M2 M3 H : Hp} {ta tb te tc tk tv : TE} {u : TS} {D : Ends}
theorem q_daugP {p : Addr} {kvs : List (List Key × V)} {xs ys : List ((Str × Str) × Int)} {k : Str × Str} {i j : Int} (hg : getA xs k = some i) (hy : dputO xs k (i + j) = some ys) (ho : Ev ta σ G M M (OW p)) (hk : Ev tb σ G M M1 (DD K (.rtup [.str k.1, .str k.2]))) (hp : M1 p = some (.dT kvs)) (hv : Ev te σ G M1 M2 (DD K (.int j))) (hp2 : M2 p = some (.dT kvs)) (hd : KOkP K G Dat.int kvs xs) (ok : Ok G M H)
    (kk : ∀ kvs' G' H', Same G G' → Ok G' (upd M2 p (.dT kvs')) H' → KOkP K G' Dat.int kvs' ys → u D σ H') : tSeq (sDAug ta tb te rAdd) u D σ H :=
  ho G H (Same.refl _) ok _ fun x G1 H1 s1 k1 hx => hk G1 H1 s1 k1 _ fun y G2 H2 s2 k2 hyk => by
    cases hx
    have sk := okP_of hyk
    obtain ⟨c, rfl, hc⟩ := key_pair hyk
    have s02 := s1.trans s2
    rcases (hd.1.up s02).get kP_inj k with ⟨z, _⟩ | ⟨b, w, e1, e2, e3⟩
    · rw [hg] at z; cases z
    · rw [hg] at e1
      cases e1
      cases e3
      refine ⟨p, _, rfl, .inr ⟨kvs, kP k, c, .inl (k2.m _ _ hp), rfl, k2.g _ _ hc, e2.symm⟩, ?_⟩
      refine hv G2 H2 s02 k2 _ fun y2 G3 H3 s3 k3 hy2 => ?_
      cases hy2
      obtain ⟨_, h1, h2⟩ := bs hy
      cases h2
      refine ⟨i, j, rfl, rfl, _, DPut.t (k := kP k) (k3.m _ _ hp2) (k3.g _ _ (s3 _ _ hc)) (by rw [hd.1.len, sizeLine_eq]; exact grd_of h1), ?_⟩
      exact kk _ G3 _ (s02.trans s3) (k3.chg _ hp2) ⟨(hd.1.up (s02.trans s3)).put kP_inj k (.int _), putA_keys hd.2 sk⟩
end
end Kx

end

section
set_option maxHeartbeats 2000000
namespace Kx
open PySem L2
section
variable {β : Type} {K : PySem.W.Frag} {σ σ' : St} {G G' M M1 M2 M3 : Hp} {ta tb te tc : TE} {ds : List Dat}
/-- a slice whose bounds may draw -/
theorem ev_slTX {tl th : TO} {lo hi : Option Int} (h : Ev te σ G M M1 (DD K (.tuple ds))) (h1 : EvO tl σ G M1 M2 lo) (h2 : EvO th σ G M2 M3 hi) : Ev (tSl (rSlF K) te tl th) σ G M M3 (DD K (.tuple (cut ds lo hi))) := fun G0 H s k Q q =>
  h G0 H s k _ fun x G1 H1 s1 k1 hx => h1 G1 H1 (s.trans s1) k1 _ fun G2 H2 s2 k2 => h2 G2 H2 ((s.trans s1).trans s2) k2 _ fun G3 H3 s3 k3 => by
    have s13 := s2.trans s3
    have hx3 := dp_up s13 _ hx
    obtain ⟨a, vs, rfl, ha, hb⟩ := dp_tuple hx3
    refine ⟨a, vs, rfl, sqT_up k3.g ha, fun hw => ?_, fun _ => newT (s1.trans s13) k3 (cut_of hb) q⟩
    have e1 : cut ds lo hi = ds := by
      unfold cut
      rw [← dpAll_len hb, hw.1, hw.2, List.drop_zero, Nat.sub_zero, dpAll_len hb, List.take_length]
    rw [e1] at q
    exact q _ G3 H3 (s1.trans s13) k3 hx3
theorem ev_slTMX {xs : List β} {e : β → Dat} {tl th : TO} {lo hi : Option Int} (h : Ev te σ G M M1 (DD K (.tuple (xs.map e)))) (h1 : EvO tl σ G M1 M2 lo) (h2 : EvO th σ G M2 M3 hi) : Ev (tSl (rSlF K) te tl th) σ G M M3 (DD K (.tuple ((cut xs lo hi).map e))) := cut_map ▸ ev_slTX h h1 h2
end
end Kx

end

section
set_option maxHeartbeats 2000000
namespace Kx
open PySem L2
section
variable {K : PySem.W.Frag} {σ σ' : St} {G G' M M1 M2 M3 H : Hp} {ta tb te tc : TE} {ds : List Dat} {u : TS} {D : Ends}
/-- xs += ys -/
theorem ip_ext {X : Cx} : PIp X .Add rExt2 := fun pins s σ H x y v u Q I rx ry h => iop_ext pins s σ H x y v u Q I rx ry h
theorem q_augExt {i : Nat} {p : Addr} {vs : List V} (hx : σ[i]? = some (some (.ref p))) (he : Ev te σ G M M1 (DD K (.list ds))) (hp : M1 p = some (.lst vs)) (hl : vs.length + ds.length ≤ sizeLine) (hσ : σ.set i (some (.ref p)) = σ) (ok : Ok G M H)
    (k : ∀ ws G' H', Same G G' → Ok G' (upd M1 p (.lst (vs ++ ws))) H' → DqAll K G' ws ds → u D σ H') : tSeq (tAug i te rExt2) u D σ H :=
  ⟨.ref p, hx, he G H (Same.refl _) ok _ fun v G1 H1 s1 k1 hv => by
    obtain ⟨a, ws, rfl, h1, h2⟩ := dp_list hv
    refine ⟨p, a, vs, ws, rfl, rfl, k1.m _ _ hp, k1.g _ _ h1, by rw [dpAll_len h2]; exact hl, ?_⟩
    show u D (σ.set i (some (.ref p))) _
    rw [hσ]
    exact k ws G1 _ s1 (k1.chg _ hp) h2⟩
end
end Kx

end

section
set_option maxHeartbeats 2000000
namespace Kx
open PySem L2
section
variable {K : PySem.W.Frag} {σ σ' : St} {G G' M M1 M2 M3 : Hp} {ta tb te tc : TE} {P P1 P2 : VP} {d : Dat} {ds es : List Dat} {D : Ends} {H : Hp} {u : TS} {C : Addr} {cn : Str} {ns : List Str}
/-! ### things of any kind, instances among them -/
/-- an own class that is none of Python's -/
structure ClsNo (K : PySem.W.Frag) (C : Addr) : Prop where
  t : PySem.W.mroIn K C (.type "tuple") = some false
  i : PySem.W.mroIn K C (.type "int") = some false
  b : PySem.W.mroIn K C (.type "bool") = some false
  s : PySem.W.mroIn K C (.type "str") = some false
  l : PySem.W.mroIn K C (.type "list") = some false
theorem kit_no {n : String} (hm : PySem.W.kitMeta n = true) (h : PySem.W.mroIn K C (.type n) = some false) : PySem.W.kitOne K (.ref C) (.type n) = some false := by
  unfold PySem.W.kitOne
  rw [if_neg (by intro z; cases z)]
  show (if PySem.W.kitMeta n = true then PySem.W.subIn K (.ref C) (.type n) else none) = _
  rw [if_pos hm]
  exact h
def isO1 (c : Str) (f : Dat → Bool) : Dat → Option Bool
  | .ins c' ns xs => cond (decide (c' = c)) (some (f (.ins c' ns xs))) none
  | d => isO f d
theorem ev_isiD1 {n : String} {f : Dat → Bool} {b : Bool} (hc : IsC n f) (hn : ∀ c ns xs, f (.ins c ns xs) = false) (co : ClsOk K (clsAt K cn)) (no : PySem.W.kitOne K (.ref (clsAt K cn)) (.type n) = some false) (h : isO1 cn f d = some b) (ha : EvA (tCons ta (tCons tb tNil)) σ G M M1 (conP (DD K d) (conP (CLS n) nilP))) : Ev (tCB (rIsi K) (tCons ta (tCons tb tNil))) σ G M M1 (DD K (.bool b)) := by
  cases d with
  | ins c' ns xs =>
    have h : cond (decide (c' = cn)) (some (f (.ins c' ns xs))) none = some b := h
    by_cases e : c' = cn
    · subst e
      rw [decide_eq_true rfl, cond_true, hn] at h
      cases h
      exact ev_cb ha fun xs G0 H s k hx Q q => by
        obtain ⟨v, w, rfl, hv, hw⟩ := two_of hx
        cases hw
        exact ⟨v, _, _, _, false, rfl, .ty n, tyx_of k.g (fun C1 n1 x1 e => by cases e; exact co) (fun _ _ e => by cases e) hv, no, q _ G0 H (Same.refl _) k (.bl _)⟩
    · rw [decide_eq_false e, cond_false] at h
      cases h
  | _ => exact ev_isiD hc h ha
theorem isn_T : ∀ c ns xs, isT (.ins c ns xs) = false := fun _ _ _ => rfl
theorem isn_I : ∀ c ns xs, isI (.ins c ns xs) = false := fun _ _ _ => rfl
theorem isn_B : ∀ c ns xs, isB (.ins c ns xs) = false := fun _ _ _ => rfl
theorem isn_S : ∀ c ns xs, isS (.ins c ns xs) = false := fun _ _ _ => rfl
theorem isn_L : ∀ c ns xs, isL (.ins c ns xs) = false := fun _ _ _ => rfl
theorem kn_T (h : ClsNo K C) : PySem.W.kitOne K (.ref C) (.type "tuple") = some false := kit_no (by decide +kernel) h.t
theorem kn_I (h : ClsNo K C) : PySem.W.kitOne K (.ref C) (.type "int") = some false := kit_no (by decide +kernel) h.i
theorem kn_B (h : ClsNo K C) : PySem.W.kitOne K (.ref C) (.type "bool") = some false := kit_no (by decide +kernel) h.b
theorem kn_S (h : ClsNo K C) : PySem.W.kitOne K (.ref C) (.type "str") = some false := kit_no (by decide +kernel) h.s
theorem kn_L (h : ClsNo K C) : PySem.W.kitOne K (.ref C) (.type "list") = some false := kit_no (by decide +kernel) h.l
/-- a thing taken as a tuple of texts, of numbers -/
def strsD : Dat → Option (List Str)
  | .tuple xs => mapO strD xs
  | _ => none
def intsD : Dat → Option (List Int)
  | .tuple xs => mapO intD xs
  | _ => none
theorem mapO_strD : ∀ {xs : List Dat} {ys : List Str}, mapO strD xs = some ys → xs = ys.map Dat.str
  | [], ys, h => by cases h; rfl
  | x :: xs, ys, h => by
    unfold mapO at h
    obtain ⟨y, h1, h⟩ := bs h
    obtain ⟨zs, h2, h⟩ := bs h
    cases h
    rw [mapO_strD h2]
    cases x with
    | str z => cases h1; rfl
    | _ => cases h1
theorem mapO_intD : ∀ {xs : List Dat} {ys : List Int}, mapO intD xs = some ys → xs = ys.map Dat.int
  | [], ys, h => by cases h; rfl
  | x :: xs, ys, h => by
    unfold mapO at h
    obtain ⟨y, h1, h⟩ := bs h
    obtain ⟨zs, h2, h⟩ := bs h
    cases h
    rw [mapO_intD h2]
    cases x with
    | int z => cases h1; rfl
    | _ => cases h1
theorem ev_strsD {xs : List Str} (h : strsD d = some xs) (ha : Ev ta σ G M M1 (DD K d)) : Ev ta σ G M M1 (DD K (eT Dat.str xs)) := by
  cases d with
  | tuple ys =>
    have := mapO_strD h
    subst this
    exact ha
  | _ => cases h
theorem ev_intsD {xs : List Int} (h : intsD d = some xs) (ha : Ev ta σ G M M1 (DD K d)) : Ev ta σ G M M1 (DD K (eT Dat.int xs)) := by
  cases d with
  | tuple ys =>
    have := mapO_intD h
    subst this
    exact ha
  | _ => cases h
/-! ### methods of texts -/
def upperO (z : Str) : Option Str := (grd (z.length ≤ 5592405 ∧ sok (Txt.upper z) = true)).bind fun _ => some (Txt.upper z)
theorem ev_upper {z y : Str} (h : upperO z = some y) (ha : Ev ta σ G M M1 (DD K (.str z))) : Ev (tM0 (fun x xs H Q => ∃ a, x = .str a ∧ xs = [] ∧ a.length ≤ 5592405 ∧ Q (.str (Txt.upper a)) H) ta) σ G M M1 (DD K (.str y)) := fun G0 H s k Q q => ha G0 H s k _ fun v G1 H1 s1 k1 hv => by
  obtain ⟨rfl, _⟩ := dq_str hv
  obtain ⟨_, h1, h2⟩ := bs h
  cases h2
  have := grd_of h1
  exact ⟨⟨z, rfl⟩, z, rfl, rfl, this.1, q _ G1 H1 s1 k1 (.str this.2)⟩
def joinO (a : Str) (ys : List Str) : Option Str := (grd ((ys.map (·.length)).sum + ys.length * a.length ≤ 16777216 ∧ sok (Txt.join a ys) = true)).bind fun _ => some (Txt.join a ys)
abbrev rJoinS (K : PySem.W.Frag) : V → List V → Hp → VK → Prop := fun x xs H Q => ∃ a p, ∃ ys : List Str, x = .str a ∧ xs = [.ref p] ∧ (SqL K H p (ys.map V.str) ∨ SqT K H p (ys.map V.str)) ∧ (ys.map (·.length)).sum + ys.length * a.length ≤ 16777216 ∧ Q (.str (Txt.join a ys)) H
theorem mt_joinK {X : Cx} (hK : X.K = K) : MtR X "str.join" (rJoinS K) := by subst hK; exact mt_join
theorem ev_joinT {a y : Str} {ys : List Str} (h : joinO a ys = some y) (ha : Ev ta σ G M M1 (DD K (.str a))) (hb : Ev tb σ G M1 M2 (DD K (eT Dat.str ys))) : Ev (tM1 (rJoinS K) ta tb) σ G M M2 (DD K (.str y)) := fun G0 H s k Q q => ha G0 H s k _ fun v G1 H1 s1 k1 hv => by
  obtain ⟨rfl, _⟩ := dq_str hv
  refine ⟨⟨a, rfl⟩, hb G1 H1 (s.trans s1) k1 _ fun w G2 H2 s2 k2 hw => ?_⟩
  obtain ⟨_, h1, h2⟩ := bs h
  cases h2
  have z := grd_of h1
  obtain ⟨p, vs, rfl, h3, h4⟩ := dp_tuple hw
  have e := dpAll_strs h4
  subst e
  exact ⟨a, p, ys, rfl, rfl, .inr (sqT_up k2.g h3), z.1, q _ G2 H2 (s1.trans s2) k2 (.str z.2)⟩
def strIO (i : Int) : Option Str := (grd (i.natAbs.log2 < 1920 ∧ sok (toString i : Str) = true)).bind fun _ => some (toString i : Str)
theorem ev_strI {i : Int} {y : Str} (h : strIO i = some y) (ha : EvA (tCons ta tNil) σ G M M1 (conP (DD K (.int i)) nilP)) : Ev (tCB (fun xs H Q => ∃ i, xs = [.int i] ∧ i.natAbs.log2 < 1920 ∧ Q (.str (toString i)) H) (tCons ta tNil)) σ G M M1 (DD K (.str y)) := ev_cb ha fun xs G0 H s k hx Q q => by
  obtain ⟨v, rfl, hv⟩ := one_of (R := nilP) hx
  cases hv
  obtain ⟨_, h1, h2⟩ := bs h
  cases h2
  have z := grd_of h1
  exact ⟨i, rfl, z.1, q _ G0 H (Same.refl _) k (.str z.2)⟩
end
end Kx

end

section
set_option maxHeartbeats 4000000
namespace K14
open PySem L2 Kx
def topS (i : Nat) : Stmt := PySem.Challenge.pw_sincerung_k14_courses_of_any_kind.main.body.getD i (.Pass ⟨0, 0, 0, 0⟩)
abbrev s_is_whole : Stmt := topS 19
abbrev s_is_within : Stmt := topS 20
abbrev s_is_name : Stmt := topS 21
abbrev s_is_bell : Stmt := topS 23
abbrev s_check_bells : Stmt := topS 24
abbrev s_is_notch : Stmt := topS 25
abbrev s_check_notches : Stmt := topS 26
abbrev s_Peal___init__ : Stmt := inClass (topS 27) 0
abbrev s_check_peal : Stmt := topS 28
abbrev s_parts_in : Stmt := topS 32
abbrev s_fits_course : Stmt := topS 33
abbrev s_is_course : Stmt := topS 34
abbrev s__law_opened : Stmt := topS 36
abbrev s__law_pull : Stmt := topS 37
abbrev s__law_spelt : Stmt := topS 38
abbrev s__law_calls : Stmt := topS 39
abbrev s__law_figure : Stmt := topS 40
abbrev s__law_kit : Stmt := topS 41
abbrev s__law_tune : Stmt := topS 42
abbrev s__law_is_times : Stmt := topS 43
abbrev s__law_parts_in : Stmt := topS 44
abbrev s__law_bent_part : Stmt := topS 45
abbrev s__law_bent : Stmt := topS 46
abbrev s__law_nest : Stmt := topS 47
abbrev s__law_edges : Stmt := topS 48
abbrev s__law_right : Stmt := topS 49
abbrev s_law : Stmt := topS 50
abbrev eX_Peal (r : ((List (Str × Int)) × (List (Str × Str × Int)) × (List (Str × Int)) × (List ((Str × Str) × Int)))) : Dat := .ins "Peal" ["bells", "notches", "sizes", "turning"] [(eT (eP2 Dat.str Dat.int)) r.1, (eT (eP3 Dat.str Dat.str Dat.int)) r.2.1, (eDS Dat.int) r.2.2.1, (eDP Dat.int) r.2.2.2]
def kw_is_course_thing_peal {α : Type} : List α → List α
  | [x0, x1] => [x1, x0]
  | _ => []
structure Txt (K : PySem.W.Frag) (mg : Str → Option Value) where
  a_is_whole : Addr
  d_is_whole : FuncData
  F_is_whole : Fun K "is_whole" "is_whole" s_is_whole a_is_whole d_is_whole
  b_is_whole : Binds K d_is_whole ["thing"] []
  g_is_whole : mg "is_whole" = some (.ref a_is_whole)
  a_is_within : Addr
  d_is_within : FuncData
  F_is_within : Fun K "is_within" "is_within" s_is_within a_is_within d_is_within
  b_is_within : Binds K d_is_within ["thing", "low", "high"] []
  g_is_within : mg "is_within" = some (.ref a_is_within)
  a_is_name : Addr
  d_is_name : FuncData
  F_is_name : Fun K "is_name" "is_name" s_is_name a_is_name d_is_name
  b_is_name : Binds K d_is_name ["thing"] []
  g_is_name : mg "is_name" = some (.ref a_is_name)
  a_is_bell : Addr
  d_is_bell : FuncData
  F_is_bell : Fun K "is_bell" "is_bell" s_is_bell a_is_bell d_is_bell
  b_is_bell : Binds K d_is_bell ["thing"] []
  g_is_bell : mg "is_bell" = some (.ref a_is_bell)
  a_check_bells : Addr
  d_check_bells : FuncData
  F_check_bells : Fun K "check_bells" "check_bells" s_check_bells a_check_bells d_check_bells
  b_check_bells : Binds K d_check_bells ["bells"] []
  g_check_bells : mg "check_bells" = some (.ref a_check_bells)
  a_is_notch : Addr
  d_is_notch : FuncData
  F_is_notch : Fun K "is_notch" "is_notch" s_is_notch a_is_notch d_is_notch
  b_is_notch : Binds K d_is_notch ["thing", "names"] []
  g_is_notch : mg "is_notch" = some (.ref a_is_notch)
  a_check_notches : Addr
  d_check_notches : FuncData
  F_check_notches : Fun K "check_notches" "check_notches" s_check_notches a_check_notches d_check_notches
  b_check_notches : Binds K d_check_notches ["notches", "names"] []
  g_check_notches : mg "check_notches" = some (.ref a_check_notches)
  a_Peal___init__ : Addr
  d_Peal___init__ : FuncData
  e_Peal___init__ : Addr
  F_Peal___init__ : FunT K "__init__" "Peal.__init__" s_Peal___init__ e_Peal___init__ a_Peal___init__ d_Peal___init__
  b_Peal___init__ : Binds K d_Peal___init__ ["self", "bells", "notches"] []
  mk_Peal : Mk K (clsAt K "Peal") a_Peal___init__
  a_check_peal : Addr
  d_check_peal : FuncData
  F_check_peal : Fun K "check_peal" "check_peal" s_check_peal a_check_peal d_check_peal
  b_check_peal : Binds K d_check_peal ["thing"] []
  g_check_peal : mg "check_peal" = some (.ref a_check_peal)
  a_parts_in : Addr
  d_parts_in : FuncData
  F_parts_in : Fun K "parts_in" "parts_in" s_parts_in a_parts_in d_parts_in
  b_parts_in : Binds K d_parts_in ["peal", "thing", "within"] []
  g_parts_in : mg "parts_in" = some (.ref a_parts_in)
  a_fits_course : Addr
  d_fits_course : FuncData
  F_fits_course : Fun K "fits_course" "fits_course" s_fits_course a_fits_course d_fits_course
  b_fits_course : Binds K d_fits_course ["peal", "thing"] []
  g_fits_course : mg "fits_course" = some (.ref a_fits_course)
  a_is_course : Addr
  d_is_course : FuncData
  F_is_course : Fun K "is_course" "is_course" s_is_course a_is_course d_is_course
  b_is_course : Binds K d_is_course ["peal", "thing"] []
  g_is_course : mg "is_course" = some (.ref a_is_course)
  a__law_opened : Addr
  d__law_opened : FuncData
  F__law_opened : Fun K "_law_opened" "_law_opened" s__law_opened a__law_opened d__law_opened
  b__law_opened : Binds K d__law_opened ["_law_script", "_law_k"] []
  g__law_opened : mg "_law_opened" = some (.ref a__law_opened)
  a__law_pull : Addr
  d__law_pull : FuncData
  F__law_pull : Fun K "_law_pull" "_law_pull" s__law_pull a__law_pull d__law_pull
  b__law_pull : Binds K d__law_pull ["_law_store", "_law_many"] []
  g__law_pull : mg "_law_pull" = some (.ref a__law_pull)
  a__law_spelt : Addr
  d__law_spelt : FuncData
  F__law_spelt : Fun K "_law_spelt" "_law_spelt" s__law_spelt a__law_spelt d__law_spelt
  b__law_spelt : Binds K d__law_spelt ["_law_figure_here", "_law_wide"] []
  g__law_spelt : mg "_law_spelt" = some (.ref a__law_spelt)
  a__law_calls : Addr
  d__law_calls : FuncData
  F__law_calls : Fun K "_law_calls" "_law_calls" s__law_calls a__law_calls d__law_calls
  b__law_calls : Binds K d__law_calls ["_law_store", "_law_many"] []
  g__law_calls : mg "_law_calls" = some (.ref a__law_calls)
  a__law_figure : Addr
  d__law_figure : FuncData
  F__law_figure : Fun K "_law_figure" "_law_figure" s__law_figure a__law_figure d__law_figure
  b__law_figure : Binds K d__law_figure ["_law_store", "_law_mode", "_law_size"] []
  g__law_figure : mg "_law_figure" = some (.ref a__law_figure)
  a__law_kit : Addr
  d__law_kit : FuncData
  F__law_kit : Fun K "_law_kit" "_law_kit" s__law_kit a__law_kit d__law_kit
  b__law_kit : Binds K d__law_kit ["_law_store", "_law_upto", "_law_most"] []
  g__law_kit : mg "_law_kit" = some (.ref a__law_kit)
  a__law_tune : Addr
  d__law_tune : FuncData
  F__law_tune : Fun K "_law_tune" "_law_tune" s__law_tune a__law_tune d__law_tune
  b__law_tune : Binds K d__law_tune ["_law_store", "_law_kit_here", "_law_deep", "_law_wide", "_law_often"] []
  g__law_tune : mg "_law_tune" = some (.ref a__law_tune)
  a__law_is_times : Addr
  d__law_is_times : FuncData
  F__law_is_times : Fun K "_law_is_times" "_law_is_times" s__law_is_times a__law_is_times d__law_is_times
  b__law_is_times : Binds K d__law_is_times ["_law_item"] []
  g__law_is_times : mg "_law_is_times" = some (.ref a__law_is_times)
  a__law_parts_in : Addr
  d__law_parts_in : FuncData
  F__law_parts_in : Fun K "_law_parts_in" "_law_parts_in" s__law_parts_in a__law_parts_in d__law_parts_in
  b__law_parts_in : Binds K d__law_parts_in ["_law_kit_here", "_law_item", "_law_within"] []
  g__law_parts_in : mg "_law_parts_in" = some (.ref a__law_parts_in)
  a__law_bent_part : Addr
  d__law_bent_part : FuncData
  F__law_bent_part : Fun K "_law_bent_part" "_law_bent_part" s__law_bent_part a__law_bent_part d__law_bent_part
  b__law_bent_part : Binds K d__law_bent_part ["_law_store", "_law_part", "_law_call"] []
  g__law_bent_part : mg "_law_bent_part" = some (.ref a__law_bent_part)
  a__law_bent : Addr
  d__law_bent : FuncData
  F__law_bent : Fun K "_law_bent" "_law_bent" s__law_bent a__law_bent d__law_bent
  b__law_bent : Binds K d__law_bent ["_law_store", "_law_tune_here", "_law_call"] []
  g__law_bent : mg "_law_bent" = some (.ref a__law_bent)
  a__law_nest : Addr
  d__law_nest : FuncData
  F__law_nest : Fun K "_law_nest" "_law_nest" s__law_nest a__law_nest d__law_nest
  b__law_nest : Binds K d__law_nest ["_law_tune_here", "_law_deep"] []
  g__law_nest : mg "_law_nest" = some (.ref a__law_nest)
  a__law_edges : Addr
  d__law_edges : FuncData
  F__law_edges : Fun K "_law_edges" "_law_edges" s__law_edges a__law_edges d__law_edges
  b__law_edges : Binds K d__law_edges ["_law_call"] []
  g__law_edges : mg "_law_edges" = some (.ref a__law_edges)
  a__law_right : Addr
  d__law_right : FuncData
  F__law_right : Fun K "_law_right" "_law_right" s__law_right a__law_right d__law_right
  b__law_right : Binds K d__law_right ["_law_store"] []
  g__law_right : mg "_law_right" = some (.ref a__law_right)
  a_law : Addr
  d_law : FuncData
  F_law : Fun K "law" "law" s_law a_law d_law
  b_law : Binds K d_law ["_law_script"] []
  g_law : mg "law" = some (.ref a_law)
  cl_Peal : Cls K (clsAt K "Peal")
  co_Peal : ClsOk K (clsAt K "Peal")
  cn_Peal : ClsNo K (clsAt K "Peal")
  ki_Peal : PySem.W.kitOne K (.ref (clsAt K "Peal")) (.ref (clsAt K "Peal")) = some true
  mg_Peal : mg "Peal" = some (.ref (clsAt K "Peal"))
  na_Peal_bells : NoAttr K (clsAt K "Peal") "bells"
  na_Peal_notches : NoAttr K (clsAt K "Peal") "notches"
  na_Peal_sizes : NoAttr K (clsAt K "Peal") "sizes"
  na_Peal_turning : NoAttr K (clsAt K "Peal") "turning"
  kb_is_course_thing_peal : KBw K d_is_course ["peal", "thing"] ["thing", "peal"] @kw_is_course_thing_peal
  n_int : mg "int" = none
  n_isinstance : mg "isinstance" = none
  n_bool : mg "bool" = none
  n_str : mg "str" = none
  n_len : mg "len" = none
  n_all : mg "all" = none
  n_tuple : mg "tuple" = none
  n_enumerate : mg "enumerate" = none
  n_dict : mg "dict" = none
  n_abs : mg "abs" = none
  n_divmod : mg "divmod" = none
  n_range : mg "range" = none
  n_sorted : mg "sorted" = none
  n_list : mg "list" = none
  n_repr : mg "repr" = none
  n_min : mg "min" = none
  n_max : mg "max" = none
  t_MOST_LETTERS : Tok
  c_MOST_LETTERS : mg "MOST_LETTERS" = some (.int 6 t_MOST_LETTERS)
  t_LETTERS : Tok
  c_LETTERS : mg "LETTERS" = some (.str "abcdefghijklmnopqrstuvwxyz" t_LETTERS)
  t_LEAST_MARKS : Tok
  c_LEAST_MARKS : mg "LEAST_MARKS" = some (.int 2 t_LEAST_MARKS)
  t_MOST_MARKS : Tok
  c_MOST_MARKS : mg "MOST_MARKS" = some (.int 24 t_MOST_MARKS)
  t_MOST_BELLS : Tok
  c_MOST_BELLS : mg "MOST_BELLS" = some (.int 8 t_MOST_BELLS)
  t_MOST_NUMBER : Tok
  c_MOST_NUMBER : mg "MOST_NUMBER" = some (.int 99 t_MOST_NUMBER)
  t_MOST_WITHIN : Tok
  c_MOST_WITHIN : mg "MOST_WITHIN" = some (.int 5 t_MOST_WITHIN)
  t_MOST_TIMES : Tok
  c_MOST_TIMES : mg "MOST_TIMES" = some (.int 1000000000000000000000000000000 t_MOST_TIMES)
  t_MOST_PARTS : Tok
  c_MOST_PARTS : mg "MOST_PARTS" = some (.int 120 t_MOST_PARTS)
/-! ### is_whole -/
theorem sc_is_whole : FnScope ["thing"] ["thing"] (defScope s_is_whole) := ⟨rfl, rfl, rfl, by decide +kernel, rfl, by decide +kernel, by decide +kernel⟩
def a_is_whole (K : PySem.W.Frag) (a : Int) : List V → Hp → Prop := conP (DD K (Dat.int a)) (nilP)
def m_is_whole (a : Int) : Option Bool :=
  some (true && (!false))
abbrev sp_is_whole (K : PySem.W.Frag) : Sp := spP (a_is_whole K) (m_is_whole) fun r => DD K (Dat.bool r)
theorem ok_is_whole {P : Program} {w : World} {K : PySem.W.Frag} {mg : Str → Option Value} {base : Heap} (T : Txt K mg) : FnOk P w K mg base CX0 (1) T.a_is_whole T.d_is_whole ["thing"] (sp_is_whole K) := by
  refine T.F_is_whole.ok sc_is_whole (fun vs H Q E h => ?_) (fun cdv A outer s0 H vs Q E hr h => ?_)
  · obtain ⟨G, M0, a, r, ok, ⟨v_thing, _, rfl, h_thing, rfl⟩, hm, q⟩ := h
    rfl
  · obtain ⟨G, M0, a, r, ok, ⟨v_thing, _, rfl, h_thing, rfl⟩, hm, q⟩ := h
    unfold m_is_whole at hm
    have sg := Same.refl G
    have hB := Same.refl M0
    refine ⟨_, (pss_cons (ps_ret (pe_and (pe_callB (call_isiKK (K := K)) (by rfl) T.n_isinstance (by decide +kernel) (pa_cons (pv 0) (pa_cons (pe_bltn (v := .ty "int") (by rfl) T.n_int (by decide +kernel) rfl) pa_nil))) (pe_one (pe_not (pe_callB (call_isiKK (K := K)) (by rfl) T.n_isinstance (by decide +kernel) (pa_cons (pv 0) (pa_cons (pe_bltn (v := .ty "bool") (by rfl) T.n_bool (by decide +kernel) rfl) pa_nil))))))) pss_nil), ?_⟩
    cases h_thing
    refine nrm (σ' := [some (.int a)]) rfl ?_
    refine q_ret (ev_and (ev_isi (d := Dat.int a) (n := "int") (b := true) rfl (show kitB "int" "int" = some true by decide +kernel) (ea_d (ev_d (K := K) rfl (.int _)) (ea_cons mo_cls ev_cls ea_nil))) fun _ => (ev_not (ev_isi (d := Dat.int a) (n := "bool") (b := false) rfl (show kitB "int" "bool" = some false by decide +kernel) (ea_d (ev_d (K := K) rfl (.int _)) (ea_cons mo_cls ev_cls ea_nil))))) ok (fun v G H s1 ok hv => ?_)
    have sg := sg.trans s1
    cases hm
    exact q v G H sg (ok.less hB) hv
/-! ### is_whole_2 -/
def a_is_whole_2 (K : PySem.W.Frag) (a : Dat) : List V → Hp → Prop := conP (DD K (id a)) (nilP)
def m_is_whole_2 (a : Dat) : Option Bool :=
  (isO1 "Peal" isI a).bind fun t1 => (cond t1 ((isO1 "Peal" isB a).bind fun t2 => some (!t2)) (some false)).bind fun t3 => some t3
abbrev sp_is_whole_2 (K : PySem.W.Frag) : Sp := spP (a_is_whole_2 K) (m_is_whole_2) fun r => DD K (Dat.bool r)
theorem ok_is_whole_2 {P : Program} {w : World} {K : PySem.W.Frag} {mg : Str → Option Value} {base : Heap} (T : Txt K mg) : FnOk P w K mg base CX0 (1) T.a_is_whole T.d_is_whole ["thing"] (sp_is_whole_2 K) := by
  refine T.F_is_whole.ok sc_is_whole (fun vs H Q E h => ?_) (fun cdv A outer s0 H vs Q E hr h => ?_)
  · obtain ⟨G, M0, a, r, ok, ⟨v_thing, _, rfl, h_thing, rfl⟩, hm, q⟩ := h
    rfl
  · obtain ⟨G, M0, a, r, ok, ⟨v_thing, _, rfl, h_thing, rfl⟩, hm, q⟩ := h
    unfold m_is_whole_2 at hm
    have sg := Same.refl G
    have hB := Same.refl M0
    refine ⟨_, (pss_cons (ps_ret (pe_and (pe_callB (call_isiKK (K := K)) (by rfl) T.n_isinstance (by decide +kernel) (pa_cons (pv 0) (pa_cons (pe_bltn (v := .ty "int") (by rfl) T.n_int (by decide +kernel) rfl) pa_nil))) (pe_one (pe_not (pe_callB (call_isiKK (K := K)) (by rfl) T.n_isinstance (by decide +kernel) (pa_cons (pv 0) (pa_cons (pe_bltn (v := .ty "bool") (by rfl) T.n_bool (by decide +kernel) rfl) pa_nil))))))) pss_nil), ?_⟩
    refine nrm (σ' := [some v_thing]) rfl ?_
    obtain ⟨t1, e_t1, hm⟩ := bs hm
    obtain ⟨t3, e_t3, hm⟩ := bs hm
    refine q_ret (ev_andG (c := t3) (ev_isiD1 isc_I isn_I T.co_Peal (kn_I T.cn_Peal) e_t1 (ea_d (ev_d (K := K) rfl h_thing) (ea_cons mo_cls ev_cls ea_nil))) (fun eb => by have e1 := cond_t eb e_t3; (obtain ⟨t2, e_t2, e1⟩ := bs e1); (have e1 := Option.some.inj e1); subst e1; exact (ev_not (ev_isiD1 isc_B isn_B T.co_Peal (kn_B T.cn_Peal) e_t2 (ea_d (ev_d (K := K) rfl h_thing) (ea_cons mo_cls ev_cls ea_nil))))) (fun eb => by have e1 := cond_f eb e_t3; cases e1; exact ⟨rfl, rfl⟩)) ok (fun v G H s1 ok hv => ?_)
    have sg := sg.trans s1
    cases hm
    exact q v G H sg (ok.less hB) hv
/-! ### is_within -/
theorem sc_is_within : FnScope ["thing", "low", "high"] ["thing", "low", "high"] (defScope s_is_within) := ⟨rfl, rfl, rfl, by decide +kernel, rfl, by decide +kernel, by decide +kernel⟩
def a_is_within (K : PySem.W.Frag) (a : Int × Int × Int) : List V → Hp → Prop := conP (DD K (Dat.int a.1)) (conP (DD K (Dat.int a.2.1)) (conP (DD K (Dat.int a.2.2)) (nilP)))
def m_is_within (a : Int × Int × Int) : Option Bool :=
  (m_is_whole a.1).bind fun t1 => some (t1 && ((decide (a.2.1 ≤ a.1)) && (decide (a.1 ≤ a.2.2))))
abbrev sp_is_within (K : PySem.W.Frag) : Sp := spP (a_is_within K) (m_is_within) fun r => DD K (Dat.bool r)
theorem ok_is_within {P : Program} {w : World} {K : PySem.W.Frag} {mg : Str → Option Value} {base : Heap} (T : Txt K mg) (O_is_whole : FnOk P w K mg base CX0 1 T.a_is_whole T.d_is_whole ["thing"] (sp_is_whole K)) : FnOk P w K mg base CX0 (2) T.a_is_within T.d_is_within ["thing", "low", "high"] (sp_is_within K) := by
  refine T.F_is_within.ok sc_is_within (fun vs H Q E h => ?_) (fun cdv A outer s0 H vs Q E hr h => ?_)
  · obtain ⟨G, M0, a, r, ok, ⟨v_thing, _, rfl, h_thing, v_low, _, rfl, h_low, v_high, _, rfl, h_high, rfl⟩, hm, q⟩ := h
    rfl
  · obtain ⟨G, M0, a, r, ok, ⟨v_thing, _, rfl, h_thing, v_low, _, rfl, h_low, v_high, _, rfl, h_high, rfl⟩, hm, q⟩ := h
    unfold m_is_within at hm
    have sg := Same.refl G
    have hB := Same.refl M0
    refine ⟨_, (pss_cons (ps_ret (pe_and (pe_call O_is_whole (hr.mono (by decide)) (by rfl) T.g_is_whole T.F_is_whole.kp T.b_is_whole .nil pass0 (pa_cons (pv 0) pa_nil)) (pe_one (pe_chain op_le op_le (pv 1) (pv 0) (pv 2))))) pss_nil), ?_⟩
    cases h_thing
    cases h_low
    cases h_high
    refine nrm (σ' := [some (.int a.1), some (.int a.2.1), some (.int a.2.2)]) rfl ?_
    obtain ⟨t1, e_t1, hm⟩ := bs hm
    refine q_ret (ev_and (ev_callP (res := fun r => DD K (Dat.bool r)) (a := a.1) e_t1 (ea_d (ev_d (K := K) rfl (.int _)) ea_nil)) fun _ => (ev_chainI (ev_d (K := K) rfl (.int _)) (ev_d (K := K) rfl (.int _)) (ev_d (K := K) rfl (.int _)))) ok (fun v G H s1 ok hv => ?_)
    have sg := sg.trans s1
    cases hm
    exact q v G H sg (ok.less hB) hv
/-! ### is_within_2 -/
def a_is_within_2 (K : PySem.W.Frag) (a : Dat × Int × Int) : List V → Hp → Prop := conP (DD K (id a.1)) (conP (DD K (Dat.int a.2.1)) (conP (DD K (Dat.int a.2.2)) (nilP)))
def m_is_within_2 (a : Dat × Int × Int) : Option Bool :=
  (m_is_whole_2 a.1).bind fun t1 => (cond t1 ((intD a.1).bind fun t2 => some ((decide (a.2.1 ≤ t2)) && (decide (t2 ≤ a.2.2)))) (some false)).bind fun t3 => some t3
abbrev sp_is_within_2 (K : PySem.W.Frag) : Sp := spP (a_is_within_2 K) (m_is_within_2) fun r => DD K (Dat.bool r)
theorem ok_is_within_2 {P : Program} {w : World} {K : PySem.W.Frag} {mg : Str → Option Value} {base : Heap} (T : Txt K mg) (O_is_whole_2 : FnOk P w K mg base CX0 1 T.a_is_whole T.d_is_whole ["thing"] (sp_is_whole_2 K)) : FnOk P w K mg base CX0 (2) T.a_is_within T.d_is_within ["thing", "low", "high"] (sp_is_within_2 K) := by
  refine T.F_is_within.ok sc_is_within (fun vs H Q E h => ?_) (fun cdv A outer s0 H vs Q E hr h => ?_)
  · obtain ⟨G, M0, a, r, ok, ⟨v_thing, _, rfl, h_thing, v_low, _, rfl, h_low, v_high, _, rfl, h_high, rfl⟩, hm, q⟩ := h
    rfl
  · obtain ⟨G, M0, a, r, ok, ⟨v_thing, _, rfl, h_thing, v_low, _, rfl, h_low, v_high, _, rfl, h_high, rfl⟩, hm, q⟩ := h
    unfold m_is_within_2 at hm
    have sg := Same.refl G
    have hB := Same.refl M0
    refine ⟨_, (pss_cons (ps_ret (pe_and (pe_call O_is_whole_2 (hr.mono (by decide)) (by rfl) T.g_is_whole T.F_is_whole.kp T.b_is_whole .nil pass0 (pa_cons (pv 0) pa_nil)) (pe_one (pe_chain op_le op_le (pv 1) (pv 0) (pv 2))))) pss_nil), ?_⟩
    cases h_low
    cases h_high
    refine nrm (σ' := [some v_thing, some (.int a.2.1), some (.int a.2.2)]) rfl ?_
    obtain ⟨t1, e_t1, hm⟩ := bs hm
    obtain ⟨t3, e_t3, hm⟩ := bs hm
    refine q_ret (ev_andG (c := t3) (ev_callP (res := fun r => DD K (Dat.bool r)) (a := a.1) e_t1 (ea_d (ev_d (K := K) rfl h_thing) ea_nil)) (fun eb => by have e1 := cond_t eb e_t3; (obtain ⟨t2, e_t2, e1⟩ := bs e1); (have e1 := Option.some.inj e1); subst e1; exact (ev_chainI (ev_d (K := K) rfl (.int _)) (ev_intD e_t2 (ev_d (K := K) rfl h_thing)) (ev_d (K := K) rfl (.int _)))) (fun eb => by have e1 := cond_f eb e_t3; cases e1; exact ⟨rfl, rfl⟩)) ok (fun v G H s1 ok hv => ?_)
    have sg := sg.trans s1
    cases hm
    exact q v G H sg (ok.less hB) hv
/-! ### is_name -/
theorem sc_is_name : FnScope ["thing", "sign"] ["thing"] (defScope s_is_name) := ⟨rfl, rfl, rfl, by decide +kernel, rfl, by decide +kernel, by decide +kernel⟩
def a_is_name (K : PySem.W.Frag) (a : Str) : List V → Hp → Prop := conP (DD K (Dat.str a)) (nilP)
def m_is_name (a : Str) : Option Bool :=
  (cond (!true) (some true) ((lenS a).bind fun t1 => some (!((decide ((1 : Int) ≤ t1)) && (decide (t1 ≤ (6 : Int))))))).bind fun t2 => cond t2 (some false) ((lcO (fun x3 : Str => (inSign x3 (Str.ofString "abcdefghijklmnopqrstuvwxyz")).bind fun t9 => some t9) (signs a)).bind fun t10 => some (t10.all id))
abbrev sp_is_name (K : PySem.W.Frag) : Sp := spP (a_is_name K) (m_is_name) fun r => DD K (Dat.bool r)
theorem ok_is_name {P : Program} {w : World} {K : PySem.W.Frag} {mg : Str → Option Value} {base : Heap} (T : Txt K mg) : FnOk P w K mg base CX0 (1) T.a_is_name T.d_is_name ["thing"] (sp_is_name K) := by
  refine T.F_is_name.ok sc_is_name (fun vs H Q E h => ?_) (fun cdv A outer s0 H vs Q E hr h => ?_)
  · obtain ⟨G, M0, a, r, ok, ⟨v_thing, _, rfl, h_thing, rfl⟩, hm, q⟩ := h
    rfl
  · obtain ⟨G, M0, a, r, ok, ⟨v_thing, _, rfl, h_thing, rfl⟩, hm, q⟩ := h
    unfold m_is_name at hm
    have sg := Same.refl G
    have hB := Same.refl M0
    refine ⟨_, (pss_cons (ps_if (PW.pt (pw_or (pt_not (pt_val (pe_callB (call_isiKK (K := K)) (by rfl) T.n_isinstance (by decide +kernel) (pa_cons (pv 0) (pa_cons (pe_bltn (v := .ty "str") (by rfl) T.n_str (by decide +kernel) rfl) pa_nil))))) (pw_or1 (pt_not (pt_chain op_le op_le pe_int (pe_callB cl_lenS (by rfl) T.n_len (by decide +kernel) (pa_cons (pv 0) pa_nil)) (pe_glob (v := .int 6) (by rfl) T.c_MOST_LETTERS ⟨_, rfl⟩)))))) (pss_cons (ps_ret pe_bl) pss_nil) pss_nil) (pss_cons (ps_ret (pe_callB (cr_allK (K := K) rfl) (by rfl) T.n_all (by decide +kernel) (pa_cons (pe_lc (own := [("sign", 1)]) (g := (gName 1)) (tt := tYes) rfl sc_is_name.nd (pi_str (pv 0)) (blkOk_by (own := [("sign", 1)]) (N := ["thing", "sign"]) (sc := defScope s_is_name) (by decide +kernel)) (fun _ _ _ _ _ => (pg_name (i := 1) sc_is_name.nd rfl (by first | exact .inl rfl | exact .inr rfl))) (fun _ _ _ _ _ => pts_nil) (fun _ _ _ _ _ => (pe_cmpR op_in_sign (pv 1) (pe_glob (v := .str "abcdefghijklmnopqrstuvwxyz") (by rfl) T.c_LETTERS ⟨_, rfl⟩) (by rfl)))) pa_nil))) pss_nil)), ?_⟩
    refine nrm (σ' := [some v_thing, none]) rfl ?_
    obtain ⟨t2, e_t2, hm⟩ := bs hm
    refine q_if (et_orG (c := t2) (et_not (et_B (ev_isi (d := Dat.str a) (n := "str") (b := true) rfl (show kitB "str" "str" = some true by decide +kernel) (ea_d (ev_d (K := K) rfl h_thing) (ea_cons mo_cls ev_cls ea_nil))))) (fun eb => by have e1 := cond_f eb e_t2; (obtain ⟨t1, e_t1, e1⟩ := bs e1); (have e1 := Option.some.inj e1); subst e1; exact (et_not (et_test (ev_chainI (ev_int (K := K)) (ev_lenS e_t1 (ea_d (ev_d (K := K) rfl h_thing) ea_nil)) (ev_int (K := K)))))) (fun eb => by have e1 := cond_t eb e_t2; cases e1; exact ⟨rfl, rfl⟩)) ok (fun hb G H s1 ok => ?_) (fun hb G H s1 ok => ?_)
    · have hm := cond_t hb hm
      have h_thing := dp_up s1 _ h_thing
      have sg := sg.trans s1
      refine q_ret (ev_bl (K := K)) ok (fun v G H s1 ok hv => ?_)
      have sg := sg.trans s1
      cases hm
      exact q v G H sg (ok.less hB) hv
    · have hm := cond_f hb hm
      have h_thing := dp_up s1 _ h_thing
      have sg := sg.trans s1
      refine q_nilU ?_
      obtain ⟨t10, e_t10, hm⟩ := bs hm
      refine q_ret (ev_allL (ea_d (EvL.ev (el_lcM (ea := Dat.str) (eb := Dat.bool) (xs := (signs a)) (ys := t10) (hf := e_t10) (Src.is (src_str (ev_d (K := K) rfl h_thing)) signs_map) (fun x3 _ Mx7 _ _ he8 sM6 sG5 hv4 => by (obtain ⟨t9, e_t9, he8⟩ := bs he8); cases he8; exact (tg_name ⟨rfl, (ev_inSign e_t9 (ev_d (K := K) rfl hv4) (ev_str (K := K) (by decide +kernel)))⟩)))) ea_nil)) ok (fun v G H s1 ok hv => ?_)
      have sg := sg.trans s1
      cases hm
      exact q v G H sg (ok.less hB) hv
/-! ### is_name_2 -/
def a_is_name_2 (K : PySem.W.Frag) (a : Dat) : List V → Hp → Prop := conP (DD K (id a)) (nilP)
def m_is_name_2 (a : Dat) : Option Bool :=
  (isO1 "Peal" isS a).bind fun t1 => (cond (!t1) (some true) ((strD a).bind fun t2 => (lenS t2).bind fun t3 => some (!((decide ((1 : Int) ≤ t3)) && (decide (t3 ≤ (6 : Int))))))).bind fun t4 => cond t4 (some false) ((strD a).bind fun t5 => (lcO (fun x6 : Str => (inSign x6 (Str.ofString "abcdefghijklmnopqrstuvwxyz")).bind fun t12 => some t12) (signs t5)).bind fun t13 => some (t13.all id))
abbrev sp_is_name_2 (K : PySem.W.Frag) : Sp := spP (a_is_name_2 K) (m_is_name_2) fun r => DD K (Dat.bool r)
theorem ok_is_name_2 {P : Program} {w : World} {K : PySem.W.Frag} {mg : Str → Option Value} {base : Heap} (T : Txt K mg) : FnOk P w K mg base CX0 (1) T.a_is_name T.d_is_name ["thing"] (sp_is_name_2 K) := by
  refine T.F_is_name.ok sc_is_name (fun vs H Q E h => ?_) (fun cdv A outer s0 H vs Q E hr h => ?_)
  · obtain ⟨G, M0, a, r, ok, ⟨v_thing, _, rfl, h_thing, rfl⟩, hm, q⟩ := h
    rfl
  · obtain ⟨G, M0, a, r, ok, ⟨v_thing, _, rfl, h_thing, rfl⟩, hm, q⟩ := h
    unfold m_is_name_2 at hm
    have sg := Same.refl G
    have hB := Same.refl M0
    refine ⟨_, (pss_cons (ps_if (PW.pt (pw_or (pt_not (pt_val (pe_callB (call_isiKK (K := K)) (by rfl) T.n_isinstance (by decide +kernel) (pa_cons (pv 0) (pa_cons (pe_bltn (v := .ty "str") (by rfl) T.n_str (by decide +kernel) rfl) pa_nil))))) (pw_or1 (pt_not (pt_chain op_le op_le pe_int (pe_callB cl_lenS (by rfl) T.n_len (by decide +kernel) (pa_cons (pv 0) pa_nil)) (pe_glob (v := .int 6) (by rfl) T.c_MOST_LETTERS ⟨_, rfl⟩)))))) (pss_cons (ps_ret pe_bl) pss_nil) pss_nil) (pss_cons (ps_ret (pe_callB (cr_allK (K := K) rfl) (by rfl) T.n_all (by decide +kernel) (pa_cons (pe_lc (own := [("sign", 1)]) (g := (gName 1)) (tt := tYes) rfl sc_is_name.nd (pi_str (pv 0)) (blkOk_by (own := [("sign", 1)]) (N := ["thing", "sign"]) (sc := defScope s_is_name) (by decide +kernel)) (fun _ _ _ _ _ => (pg_name (i := 1) sc_is_name.nd rfl (by first | exact .inl rfl | exact .inr rfl))) (fun _ _ _ _ _ => pts_nil) (fun _ _ _ _ _ => (pe_cmpR op_in_sign (pv 1) (pe_glob (v := .str "abcdefghijklmnopqrstuvwxyz") (by rfl) T.c_LETTERS ⟨_, rfl⟩) (by rfl)))) pa_nil))) pss_nil)), ?_⟩
    refine nrm (σ' := [some v_thing, none]) rfl ?_
    obtain ⟨t1, e_t1, hm⟩ := bs hm
    obtain ⟨t4, e_t4, hm⟩ := bs hm
    refine q_if (et_orG (c := t4) (et_not (et_B (ev_isiD1 isc_S isn_S T.co_Peal (kn_S T.cn_Peal) e_t1 (ea_d (ev_d (K := K) rfl h_thing) (ea_cons mo_cls ev_cls ea_nil))))) (fun eb => by have e1 := cond_f eb e_t4; (obtain ⟨t2, e_t2, e1⟩ := bs e1); (obtain ⟨t3, e_t3, e1⟩ := bs e1); (have e1 := Option.some.inj e1); subst e1; exact (et_not (et_test (ev_chainI (ev_int (K := K)) (ev_lenS e_t3 (ea_d (ev_strD e_t2 (ev_d (K := K) rfl h_thing)) ea_nil)) (ev_int (K := K)))))) (fun eb => by have e1 := cond_t eb e_t4; cases e1; exact ⟨rfl, rfl⟩)) ok (fun hb G H s1 ok => ?_) (fun hb G H s1 ok => ?_)
    · have hm := cond_t hb hm
      have h_thing := dp_up s1 _ h_thing
      have sg := sg.trans s1
      refine q_ret (ev_bl (K := K)) ok (fun v G H s1 ok hv => ?_)
      have sg := sg.trans s1
      cases hm
      exact q v G H sg (ok.less hB) hv
    · have hm := cond_f hb hm
      have h_thing := dp_up s1 _ h_thing
      have sg := sg.trans s1
      refine q_nilU ?_
      obtain ⟨t5, e_t5, hm⟩ := bs hm
      obtain ⟨t13, e_t13, hm⟩ := bs hm
      refine q_ret (ev_allL (ea_d (EvL.ev (el_lcM (ea := Dat.str) (eb := Dat.bool) (xs := (signs t5)) (ys := t13) (hf := e_t13) (Src.is (src_str (ev_strD e_t5 (ev_d (K := K) rfl h_thing))) signs_map) (fun x6 _ Mx10 _ _ he11 sM9 sG8 hv7 => by (obtain ⟨t12, e_t12, he11⟩ := bs he11); cases he11; exact (tg_name ⟨rfl, (ev_inSign e_t12 (ev_d (K := K) rfl hv7) (ev_str (K := K) (by decide +kernel)))⟩)))) ea_nil)) ok (fun v G H s1 ok hv => ?_)
      have sg := sg.trans s1
      cases hm
      exact q v G H sg (ok.less hB) hv
/-! ### is_bell -/
theorem sc_is_bell : FnScope ["thing"] ["thing"] (defScope s_is_bell) := ⟨rfl, rfl, rfl, by decide +kernel, rfl, by decide +kernel, by decide +kernel⟩
def a_is_bell (K : PySem.W.Frag) (a : (Str × Int)) : List V → Hp → Prop := conP (DD K ((eP2 Dat.str Dat.int) a)) (nilP)
def m_is_bell (a : (Str × Int)) : Option Bool :=
  cond ((!true) || (!decide ((2 : Int) = (2 : Int)))) (some false) ((m_is_name a.1).bind fun t1 => (cond t1 ((m_is_within (a.2, (2 : Int), (24 : Int))).bind fun t2 => some t2) (some false)).bind fun t3 => some t3)
abbrev sp_is_bell (K : PySem.W.Frag) : Sp := spP (a_is_bell K) (m_is_bell) fun r => DD K (Dat.bool r)
theorem ok_is_bell {P : Program} {w : World} {K : PySem.W.Frag} {mg : Str → Option Value} {base : Heap} (T : Txt K mg) (O_is_name : FnOk P w K mg base CX0 1 T.a_is_name T.d_is_name ["thing"] (sp_is_name K)) (O_is_within : FnOk P w K mg base CX0 2 T.a_is_within T.d_is_within ["thing", "low", "high"] (sp_is_within K)) : FnOk P w K mg base CX0 (3) T.a_is_bell T.d_is_bell ["thing"] (sp_is_bell K) := by
  refine T.F_is_bell.ok sc_is_bell (fun vs H Q E h => ?_) (fun cdv A outer s0 H vs Q E hr h => ?_)
  · obtain ⟨G, M0, a, r, ok, ⟨v_thing, _, rfl, h_thing, rfl⟩, hm, q⟩ := h
    rfl
  · obtain ⟨G, M0, a, r, ok, ⟨v_thing, _, rfl, h_thing, rfl⟩, hm, q⟩ := h
    unfold m_is_bell at hm
    have sg := Same.refl G
    have hB := Same.refl M0
    refine ⟨_, (pss_cons (ps_if (PW.pt (pw_or (pt_not (pt_val (pe_callB (call_isiKK (K := K)) (by rfl) T.n_isinstance (by decide +kernel) (pa_cons (pv 0) (pa_cons (pe_bltn (v := .ty "tuple") (by rfl) T.n_tuple (by decide +kernel) rfl) pa_nil))))) (pw_or1 (pt_cmpR op_ne (pe_callB (cl_lenK (K := K)) (by rfl) T.n_len (by decide +kernel) (pa_cons (pv 0) pa_nil)) pe_int (nomark _))))) (pss_cons (ps_ret pe_bl) pss_nil) pss_nil) (pss_cons (ps_ret (pe_and (pe_call O_is_name (hr.mono (by decide)) (by rfl) T.g_is_name T.F_is_name.kp T.b_is_name .nil pass0 (pa_cons (pe_ix (ix_tupK (K := K)) (pv 0) pe_int (fun _ _ => rfl)) pa_nil)) (pe_one (pe_call O_is_within (hr.mono (by decide)) (by rfl) T.g_is_within T.F_is_within.kp T.b_is_within .nil pass0 (pa_cons (pe_ix (ix_tupK (K := K)) (pv 0) pe_int (fun _ _ => rfl)) (pa_cons (pe_glob (v := .int 2) (by rfl) T.c_LEAST_MARKS ⟨_, rfl⟩) (pa_cons (pe_glob (v := .int 24) (by rfl) T.c_MOST_MARKS ⟨_, rfl⟩) pa_nil))))))) pss_nil)), ?_⟩
    refine nrm (σ' := [some v_thing]) rfl ?_
    refine q_if (et_or (et_not (et_B (ev_isi (d := (eP2 Dat.str Dat.int) a) (n := "tuple") (b := true) rfl (show kitB "tuple" "tuple" = some true by decide +kernel) (ea_d (ev_d (K := K) rfl h_thing) (ea_cons mo_cls ev_cls ea_nil))))) fun _ => (et_test (ev_neI (ev_lenT (ea_d (ev_d (K := K) rfl h_thing) ea_nil)) (ev_int (K := K))))) ok (fun hb G H s1 ok => ?_) (fun hb G H s1 ok => ?_)
    · have hm := cond_t hb hm
      have h_thing := dp_up s1 _ h_thing
      have sg := sg.trans s1
      refine q_ret (ev_bl (K := K)) ok (fun v G H s1 ok hv => ?_)
      have sg := sg.trans s1
      cases hm
      exact q v G H sg (ok.less hB) hv
    · have hm := cond_f hb hm
      have h_thing := dp_up s1 _ h_thing
      have sg := sg.trans s1
      refine q_nilU ?_
      obtain ⟨t1, e_t1, hm⟩ := bs hm
      obtain ⟨t3, e_t3, hm⟩ := bs hm
      refine q_ret (ev_andG (c := t3) (ev_callP (res := fun r => DD K (Dat.bool r)) (a := a.1) e_t1 (ea_d (ev_ixT (d := Dat.str a.1) rfl (ev_d (K := K) rfl h_thing) ev_int) ea_nil)) (fun eb => by have e1 := cond_t eb e_t3; (obtain ⟨t2, e_t2, e1⟩ := bs e1); (have e1 := Option.some.inj e1); subst e1; exact (ev_callP (res := fun r => DD K (Dat.bool r)) (a := (a.2, (2 : Int), (24 : Int))) e_t2 (ea_d (ev_ixT (d := Dat.int a.2) rfl (ev_d (K := K) rfl h_thing) ev_int) (ea_d (ev_int (K := K)) (ea_d (ev_int (K := K)) ea_nil))))) (fun eb => by have e1 := cond_f eb e_t3; cases e1; exact ⟨rfl, rfl⟩)) ok (fun v G H s1 ok hv => ?_)
      have sg := sg.trans s1
      cases hm
      exact q v G H sg (ok.less hB) hv
/-! ### check_bells -/
theorem sc_check_bells : FnScope ["bells", "place", "bell"] ["bells"] (defScope s_check_bells) := ⟨rfl, rfl, rfl, by decide +kernel, rfl, by decide +kernel, by decide +kernel⟩
def a_check_bells (K : PySem.W.Frag) (a : (List (Str × Int))) : List V → Hp → Prop := conP (DD K ((eT (eP2 Dat.str Dat.int)) a)) (nilP)
def m_check_bells (a : (List (Str × Int))) : Option Unit :=
  cond ((!true) || (!((decide ((1 : Int) ≤ (a.length : Int))) && (decide ((a.length : Int) ≤ (8 : Int)))))) (none) ((forO (fun (st2 : Unit) (x3 : (Int × (Str × Int))) => (m_is_bell x3.2).bind fun t12 => (cond (!t12) (some true) ((cond (decide ((0 : Int) < x3.1)) ((atI a (x3.1 - (1 : Int))).bind fun t13 => some (!sLt t13.1 x3.2.1)) (some false)).bind fun t14 => some t14)).bind fun t15 => cond t15 (none) (some ())) (enum a) ()).bind fun fin1 => some ())
abbrev sp_check_bells (K : PySem.W.Frag) : Sp := spP (a_check_bells K) (m_check_bells) fun r => DD K (eN r)
theorem ok_check_bells {P : Program} {w : World} {K : PySem.W.Frag} {mg : Str → Option Value} {base : Heap} (T : Txt K mg) (O_is_bell : FnOk P w K mg base CX0 3 T.a_is_bell T.d_is_bell ["thing"] (sp_is_bell K)) : FnOk P w K mg base CX0 (4) T.a_check_bells T.d_check_bells ["bells"] (sp_check_bells K) := by
  refine T.F_check_bells.ok sc_check_bells (fun vs H Q E h => ?_) (fun cdv A outer s0 H vs Q E hr h => ?_)
  · obtain ⟨G, M0, a, r, ok, ⟨v_bells, _, rfl, h_bells, rfl⟩, hm, q⟩ := h
    rfl
  · obtain ⟨G, M0, a, r, ok, ⟨v_bells, _, rfl, h_bells, rfl⟩, hm, q⟩ := h
    unfold m_check_bells at hm
    have sg := Same.refl G
    have hB := Same.refl M0
    refine ⟨_, (pss_cons (ps_if (PW.pt (pw_or (pt_not (pt_val (pe_callB (call_isiKK (K := K)) (by rfl) T.n_isinstance (by decide +kernel) (pa_cons (pv 0) (pa_cons (pe_bltn (v := .ty "tuple") (by rfl) T.n_tuple (by decide +kernel) rfl) pa_nil))))) (pw_or1 (pt_not (pt_chain op_le op_le pe_int (pe_callB (cl_lenK (K := K)) (by rfl) T.n_len (by decide +kernel) (pa_cons (pv 0) pa_nil)) (pe_glob (v := .int 8) (by rfl) T.c_MOST_BELLS ⟨_, rfl⟩)))))) (pss_cons ps_never pss_nil) pss_nil) (pss_cons (ps_for PassesOwn.never rfl (pi_enumTK (K := K) (by rfl) T.n_enumerate (pa_cons (pv 0) pa_nil)) (pg_tup rfl (pgs_cons (pg_name (i := 1) sc_check_bells.nd rfl (.inl rfl)) (pgs_cons (pg_name (i := 2) sc_check_bells.nd rfl (.inl rfl)) pgs_nil))) (pss_cons (ps_if (PW.pt (pw_or (pt_not (pt_val (pe_call O_is_bell (hr.mono (by decide)) (by rfl) T.g_is_bell T.F_is_bell.kp T.b_is_bell .nil pass0 (pa_cons (pv 2) pa_nil)))) (pw_or1 (PW.pt (pw_and (pt_cmpR op_gt (pv 1) pe_int (nomark _)) (pw_and1 (pt_cmpR op_le_str (pe_ix (ix_tupK (K := K)) (pv 2) pe_int (fun _ _ => rfl)) (pe_ix (ix_tupK (K := K)) (pe_ix (ix_tupK (K := K)) (pv 0) (pe_op op_sub (pv 1) pe_int) (fun _ _ => rfl)) pe_int (fun _ _ => rfl)) (nomark _)))))))) (pss_cons ps_never pss_nil) pss_nil) pss_nil)) pss_nil)), ?_⟩
    refine nrm (σ' := [some v_bells, none, none]) rfl ?_
    refine q_if (et_or (et_not (et_B (ev_isi (d := (eT (eP2 Dat.str Dat.int)) a) (n := "tuple") (b := true) rfl (show kitB "tuple" "tuple" = some true by decide +kernel) (ea_d (ev_d (K := K) rfl h_bells) (ea_cons mo_cls ev_cls ea_nil))))) fun _ => (et_not (et_test (ev_chainI (ev_int (K := K)) (ev_lenTM (e := (eP2 Dat.str Dat.int)) (ea_d (ev_d (K := K) rfl h_bells) ea_nil)) (ev_int (K := K)))))) ok (fun hb G H s1 ok => ?_) (fun hb G H s1 ok => ?_)
    · have hm := cond_t hb hm
      have h_bells := dp_up s1 _ h_bells
      have sg := sg.trans s1
      cases hm
    · have hm := cond_f hb hm
      have h_bells := dp_up s1 _ h_bells
      have sg := sg.trans s1
      refine q_nilU ?_
      obtain ⟨fin1, e_fin1, hm⟩ := bs hm
      have hmo4 := hm
      refine q_forO (ea := (eR2 Dat.int (eP2 Dat.str Dat.int))) (Src.is (src_enumT (ea_d (ev_d (K := K) rfl h_bells) ea_nil)) enumD_map) ok (fun (st2 : Unit) σ1 G1 M1 => ∃ (y_place : Option V) (y_bell : Option V), σ1 = [some v_bells, y_place, y_bell] ∧ (Same M0 M1)) e_fin1 (fun G1 s1 => ⟨_, _, rfl, hB⟩) (by rintro _ _ _ _ _ ⟨y_place, y_bell, rfl, hB⟩ s2; exact ⟨_, _, rfl, hB⟩) (fun x3 xv6 st2 st' σ1 G M H N hm hj s1 ok hv hN => ?_) (fun σ1 G M H s1 ok hj => ?_)
      · obtain ⟨y_place, y_bell, rfl, hB⟩ := hj
        have h_bells := dp_up s1 _ h_bells
        have sg := sg.trans s1
        have sl7 := Same.refl G
        refine gr2 hv ok.g (fun w8 w9 hw10 hw11 => ?_)
        refine gn ?_
        have h_place := hw10
        cases h_place
        refine gn ?_
        have h_bell := hw11
        refine nrm (σ' := [some v_bells, some (.int x3.1), some w9]) rfl ?_
        obtain ⟨t12, e_t12, hm⟩ := bs hm
        obtain ⟨t15, e_t15, hm⟩ := bs hm
        refine q_if (et_orG (c := t15) (et_not (et_B (ev_callP (res := fun r => DD K (Dat.bool r)) (a := x3.2) e_t12 (ea_d (ev_d (K := K) rfl h_bell) ea_nil)))) (fun eb => by have e1 := cond_f eb e_t15; (obtain ⟨t14, e_t14, e1⟩ := bs e1); (have e1 := Option.some.inj e1); subst e1; exact (et_andG (c := t14) (et_test (ev_gt (ev_d (K := K) rfl (.int _)) (ev_int (K := K)))) (fun eb => by have e1 := cond_t eb e_t14; (obtain ⟨t13, e_t13, e1⟩ := bs e1); (have e1 := Option.some.inj e1); subst e1; exact (et_test (ev_leS (ev_ixT (d := Dat.str x3.2.1) rfl (ev_d (K := K) rfl h_bell) ev_int) (ev_ixT (d := Dat.str t13.1) rfl (ev_ixTM (e := (eP2 Dat.str Dat.int)) e_t13 (ev_d (K := K) rfl h_bells) (ev_sub (ev_d (K := K) rfl (.int _)) (ev_int (K := K)))) ev_int)))) (fun eb => by have e1 := cond_f eb e_t14; cases e1; exact ⟨rfl, rfl⟩))) (fun eb => by have e1 := cond_t eb e_t15; cases e1; exact ⟨rfl, rfl⟩)) ok (fun hb G H s1 ok => ?_) (fun hb G H s1 ok => ?_)
        · have hm := cond_t hb hm
          have h_bells := dp_up s1 _ h_bells
          have h_bell := dp_up s1 _ h_bell
          have sg := sg.trans s1
          have sl7 := sl7.trans s1
          cases hm
        · have hm := cond_f hb hm
          have h_bells := dp_up s1 _ h_bells
          have h_bell := dp_up s1 _ h_bell
          have sg := sg.trans s1
          have sl7 := sl7.trans s1
          refine q_nilU ?_
          refine q_nil ?_
          cases hm
          exact hN _ _ _ _ sl7 ok ⟨_, _, rfl, hB⟩
      · obtain ⟨y_place, y_bell, rfl, hB⟩ := hj
        have h_bells := dp_up s1 _ h_bells
        have sg := sg.trans s1
        refine q_nil ?_
        cases hm
        exact q _ _ _ sg (ok.less hB) .non
/-! ### is_notch -/
theorem sc_is_notch : FnScope ["thing", "names", "part"] ["thing", "names"] (defScope s_is_notch) := ⟨rfl, rfl, rfl, by decide +kernel, rfl, by decide +kernel, by decide +kernel⟩
def a_is_notch (K : PySem.W.Frag) (a : (Str × Str × Int) × (List Str)) : List V → Hp → Prop := conP (DD K ((eP3 Dat.str Dat.str Dat.int) a.1)) (conP (DD K ((eL Dat.str) a.2)) (nilP))
def m_is_notch (a : (Str × Str × Int) × (List Str)) : Option Bool :=
  cond ((!true) || (!decide ((3 : Int) = (3 : Int)))) (some false) ((lcO (fun x1 : Str => (m_is_name x1).bind fun t7 => some (t7 && (memB x1 a.2))) [(a.1.1, a.1.2.1).1, (a.1.1, a.1.2.1).2]).bind fun t8 => cond (!(t8.all id)) (some false) ((cond (!decide (a.1.1 = a.1.2.1)) ((m_is_within (a.1.2.2, (1 : Int), (99 : Int))).bind fun t9 => some t9) (some false)).bind fun t10 => some t10))
abbrev sp_is_notch (K : PySem.W.Frag) : Sp := spP (a_is_notch K) (m_is_notch) fun r => DD K (Dat.bool r)
theorem ok_is_notch {P : Program} {w : World} {K : PySem.W.Frag} {mg : Str → Option Value} {base : Heap} (T : Txt K mg) (O_is_name : FnOk P w K mg base CX0 1 T.a_is_name T.d_is_name ["thing"] (sp_is_name K)) (O_is_within : FnOk P w K mg base CX0 2 T.a_is_within T.d_is_within ["thing", "low", "high"] (sp_is_within K)) : FnOk P w K mg base CX0 (3) T.a_is_notch T.d_is_notch ["thing", "names"] (sp_is_notch K) := by
  refine T.F_is_notch.ok sc_is_notch (fun vs H Q E h => ?_) (fun cdv A outer s0 H vs Q E hr h => ?_)
  · obtain ⟨G, M0, a, r, ok, ⟨v_thing, _, rfl, h_thing, v_names, _, rfl, h_names, rfl⟩, hm, q⟩ := h
    rfl
  · obtain ⟨G, M0, a, r, ok, ⟨v_thing, _, rfl, h_thing, v_names, _, rfl, h_names, rfl⟩, hm, q⟩ := h
    unfold m_is_notch at hm
    have sg := Same.refl G
    have hB := Same.refl M0
    refine ⟨_, (pss_cons (ps_if (PW.pt (pw_or (pt_not (pt_val (pe_callB (call_isiKK (K := K)) (by rfl) T.n_isinstance (by decide +kernel) (pa_cons (pv 0) (pa_cons (pe_bltn (v := .ty "tuple") (by rfl) T.n_tuple (by decide +kernel) rfl) pa_nil))))) (pw_or1 (pt_cmpR op_ne (pe_callB (cl_lenK (K := K)) (by rfl) T.n_len (by decide +kernel) (pa_cons (pv 0) pa_nil)) pe_int (nomark _))))) (pss_cons (ps_ret pe_bl) pss_nil) pss_nil) (pss_cons (ps_if (pt_not (pt_val (pe_callB (cr_allK (K := K) rfl) (by rfl) T.n_all (by decide +kernel) (pa_cons (pe_lc (own := [("part", 2)]) (g := (gName 2)) (tt := tYes) rfl sc_is_notch.nd (pi_tupK (K := K) (pe_slice (sl_tupK (K := K)) (pv 0) po_none (po_some pe_int))) (blkOk_by (own := [("part", 2)]) (N := ["thing", "names", "part"]) (sc := defScope s_is_notch) (by decide +kernel)) (fun _ _ _ _ _ => (pg_name (i := 2) sc_is_notch.nd rfl (by first | exact .inl rfl | exact .inr rfl))) (fun _ _ _ _ _ => pts_nil) (fun _ _ _ _ _ => (pe_and (pe_call O_is_name (hr.mono (by decide)) (by rfl) T.g_is_name T.F_is_name.kp T.b_is_name .nil pass0 (pa_cons (pv 2) pa_nil)) (pe_one (pe_cmpR (op_inSK (K := K)) (pv 2) (pv 1) (by rfl)))))) pa_nil)))) (pss_cons (ps_ret pe_bl) pss_nil) pss_nil) (pss_cons (ps_ret (pe_and (pe_cmpR op_ne (pe_ix (ix_tupK (K := K)) (pv 0) pe_int (fun _ _ => rfl)) (pe_ix (ix_tupK (K := K)) (pv 0) pe_int (fun _ _ => rfl)) (nomark _)) (pe_one (pe_call O_is_within (hr.mono (by decide)) (by rfl) T.g_is_within T.F_is_within.kp T.b_is_within .nil pass0 (pa_cons (pe_ix (ix_tupK (K := K)) (pv 0) pe_int (fun _ _ => rfl)) (pa_cons pe_int (pa_cons (pe_glob (v := .int 99) (by rfl) T.c_MOST_NUMBER ⟨_, rfl⟩) pa_nil))))))) pss_nil))), ?_⟩
    refine nrm (σ' := [some v_thing, some v_names, none]) rfl ?_
    refine q_if (et_or (et_not (et_B (ev_isi (d := (eP3 Dat.str Dat.str Dat.int) a.1) (n := "tuple") (b := true) rfl (show kitB "tuple" "tuple" = some true by decide +kernel) (ea_d (ev_d (K := K) rfl h_thing) (ea_cons mo_cls ev_cls ea_nil))))) fun _ => (et_test (ev_neI (ev_lenT (ea_d (ev_d (K := K) rfl h_thing) ea_nil)) (ev_int (K := K))))) ok (fun hb G H s1 ok => ?_) (fun hb G H s1 ok => ?_)
    · have hm := cond_t hb hm
      have h_thing := dp_up s1 _ h_thing
      have h_names := dp_up s1 _ h_names
      have sg := sg.trans s1
      refine q_ret (ev_bl (K := K)) ok (fun v G H s1 ok hv => ?_)
      have sg := sg.trans s1
      cases hm
      exact q v G H sg (ok.less hB) hv
    · have hm := cond_f hb hm
      have h_thing := dp_up s1 _ h_thing
      have h_names := dp_up s1 _ h_names
      have sg := sg.trans s1
      refine q_nilU ?_
      obtain ⟨t8, e_t8, hm⟩ := bs hm
      refine q_if (et_not (et_B (ev_allL (ea_d (EvL.ev (el_lcM (ea := Dat.str) (eb := Dat.bool) (xs := [(a.1.1, a.1.2.1).1, (a.1.1, a.1.2.1).2]) (ys := t8) (hf := e_t8) (Src.is (src_tup (ev_is (ev_slT (ev_d (K := K) rfl h_thing) eo_none (eo_some (ev_int (K := K)))) rfl)) rfl) (fun x1 _ Mx5 _ _ he6 sM4 sG3 hv2 => by (obtain ⟨t7, e_t7, he6⟩ := bs he6); cases he6; exact (tg_name ⟨rfl, (ev_and (ev_callP (res := fun r => DD K (Dat.bool r)) (a := x1) e_t7 (ea_d (ev_d (K := K) rfl hv2) ea_nil)) fun _ => (ev_inS (k := false) (xs := a.2) (ev_d (K := K) rfl hv2) (ev_d (K := K) rfl (dp_up sG3 _ h_names))))⟩)))) ea_nil)))) ok (fun hb G H s1 ok => ?_) (fun hb G H s1 ok => ?_)
      · have hm := cond_t hb hm
        have h_thing := dp_up s1 _ h_thing
        have h_names := dp_up s1 _ h_names
        have sg := sg.trans s1
        refine q_ret (ev_bl (K := K)) ok (fun v G H s1 ok hv => ?_)
        have sg := sg.trans s1
        cases hm
        exact q v G H sg (ok.less hB) hv
      · have hm := cond_f hb hm
        have h_thing := dp_up s1 _ h_thing
        have h_names := dp_up s1 _ h_names
        have sg := sg.trans s1
        refine q_nilU ?_
        obtain ⟨t10, e_t10, hm⟩ := bs hm
        refine q_ret (ev_andG (c := t10) (ev_neS (ev_ixT (d := Dat.str a.1.1) rfl (ev_d (K := K) rfl h_thing) ev_int) (ev_ixT (d := Dat.str a.1.2.1) rfl (ev_d (K := K) rfl h_thing) ev_int)) (fun eb => by have e1 := cond_t eb e_t10; (obtain ⟨t9, e_t9, e1⟩ := bs e1); (have e1 := Option.some.inj e1); subst e1; exact (ev_callP (res := fun r => DD K (Dat.bool r)) (a := (a.1.2.2, (1 : Int), (99 : Int))) e_t9 (ea_d (ev_ixT (d := Dat.int a.1.2.2) rfl (ev_d (K := K) rfl h_thing) ev_int) (ea_d (ev_int (K := K)) (ea_d (ev_int (K := K)) ea_nil))))) (fun eb => by have e1 := cond_f eb e_t10; cases e1; exact ⟨rfl, rfl⟩)) ok (fun v G H s1 ok hv => ?_)
        have sg := sg.trans s1
        cases hm
        exact q v G H sg (ok.less hB) hv
/-! ### check_notches -/
theorem sc_check_notches : FnScope ["notches", "names", "place", "notch"] ["notches", "names"] (defScope s_check_notches) := ⟨rfl, rfl, rfl, by decide +kernel, rfl, by decide +kernel, by decide +kernel⟩
def a_check_notches (K : PySem.W.Frag) (a : (List (Str × Str × Int)) × (List Str)) : List V → Hp → Prop := conP (DD K ((eT (eP3 Dat.str Dat.str Dat.int)) a.1)) (conP (DD K ((eL Dat.str) a.2)) (nilP))
def m_check_notches (a : (List (Str × Str × Int)) × (List Str)) : Option Unit :=
  cond (!true) (none) ((forO (fun (st2 : Unit) (x3 : (Int × (Str × Str × Int))) => (m_is_notch (x3.2, a.2)).bind fun t12 => (cond (!t12) (some true) ((cond (decide ((0 : Int) < x3.1)) ((atI a.1 (x3.1 - (1 : Int))).bind fun t13 => some (!ltP (t13.1, t13.2.1) (x3.2.1, x3.2.2.1))) (some false)).bind fun t14 => some t14)).bind fun t15 => cond t15 (none) (some ())) (enum a.1) ()).bind fun fin1 => some ())
abbrev sp_check_notches (K : PySem.W.Frag) : Sp := spP (a_check_notches K) (m_check_notches) fun r => DD K (eN r)
theorem ok_check_notches {P : Program} {w : World} {K : PySem.W.Frag} {mg : Str → Option Value} {base : Heap} (T : Txt K mg) (O_is_notch : FnOk P w K mg base CX0 3 T.a_is_notch T.d_is_notch ["thing", "names"] (sp_is_notch K)) : FnOk P w K mg base CX0 (4) T.a_check_notches T.d_check_notches ["notches", "names"] (sp_check_notches K) := by
  refine T.F_check_notches.ok sc_check_notches (fun vs H Q E h => ?_) (fun cdv A outer s0 H vs Q E hr h => ?_)
  · obtain ⟨G, M0, a, r, ok, ⟨v_notches, _, rfl, h_notches, v_names, _, rfl, h_names, rfl⟩, hm, q⟩ := h
    rfl
  · obtain ⟨G, M0, a, r, ok, ⟨v_notches, _, rfl, h_notches, v_names, _, rfl, h_names, rfl⟩, hm, q⟩ := h
    unfold m_check_notches at hm
    have sg := Same.refl G
    have hB := Same.refl M0
    refine ⟨_, (pss_cons (ps_if (pt_not (pt_val (pe_callB (call_isiKK (K := K)) (by rfl) T.n_isinstance (by decide +kernel) (pa_cons (pv 0) (pa_cons (pe_bltn (v := .ty "tuple") (by rfl) T.n_tuple (by decide +kernel) rfl) pa_nil))))) (pss_cons ps_never pss_nil) pss_nil) (pss_cons (ps_for PassesOwn.never rfl (pi_enumTK (K := K) (by rfl) T.n_enumerate (pa_cons (pv 0) pa_nil)) (pg_tup rfl (pgs_cons (pg_name (i := 2) sc_check_notches.nd rfl (.inl rfl)) (pgs_cons (pg_name (i := 3) sc_check_notches.nd rfl (.inl rfl)) pgs_nil))) (pss_cons (ps_if (PW.pt (pw_or (pt_not (pt_val (pe_call O_is_notch (hr.mono (by decide)) (by rfl) T.g_is_notch T.F_is_notch.kp T.b_is_notch .nil pass0 (pa_cons (pv 3) (pa_cons (pv 1) pa_nil))))) (pw_or1 (PW.pt (pw_and (pt_cmpR op_gt (pv 2) pe_int (nomark _)) (pw_and1 (pt_cmpR (op_leD (K := K) hr.units) (pe_slice (sl_tupK (K := K)) (pv 3) po_none (po_some pe_int)) (pe_slice (sl_tupK (K := K)) (pe_ix (ix_tupK (K := K)) (pv 0) (pe_op op_sub (pv 2) pe_int) (fun _ _ => rfl)) po_none (po_some pe_int)) (nomark _)))))))) (pss_cons ps_never pss_nil) pss_nil) pss_nil)) pss_nil)), ?_⟩
    refine nrm (σ' := [some v_notches, some v_names, none, none]) rfl ?_
    refine q_if (et_not (et_B (ev_isi (d := (eT (eP3 Dat.str Dat.str Dat.int)) a.1) (n := "tuple") (b := true) rfl (show kitB "tuple" "tuple" = some true by decide +kernel) (ea_d (ev_d (K := K) rfl h_notches) (ea_cons mo_cls ev_cls ea_nil))))) ok (fun hb G H s1 ok => ?_) (fun hb G H s1 ok => ?_)
    · have hm := cond_t hb hm
      have h_notches := dp_up s1 _ h_notches
      have h_names := dp_up s1 _ h_names
      have sg := sg.trans s1
      cases hm
    · have hm := cond_f hb hm
      have h_notches := dp_up s1 _ h_notches
      have h_names := dp_up s1 _ h_names
      have sg := sg.trans s1
      refine q_nilU ?_
      obtain ⟨fin1, e_fin1, hm⟩ := bs hm
      have hmo4 := hm
      refine q_forO (ea := (eR2 Dat.int (eP3 Dat.str Dat.str Dat.int))) (Src.is (src_enumT (ea_d (ev_d (K := K) rfl h_notches) ea_nil)) enumD_map) ok (fun (st2 : Unit) σ1 G1 M1 => ∃ (y_place : Option V) (y_notch : Option V), σ1 = [some v_notches, some v_names, y_place, y_notch] ∧ (Same M0 M1)) e_fin1 (fun G1 s1 => ⟨_, _, rfl, hB⟩) (by rintro _ _ _ _ _ ⟨y_place, y_notch, rfl, hB⟩ s2; exact ⟨_, _, rfl, hB⟩) (fun x3 xv6 st2 st' σ1 G M H N hm hj s1 ok hv hN => ?_) (fun σ1 G M H s1 ok hj => ?_)
      · obtain ⟨y_place, y_notch, rfl, hB⟩ := hj
        have h_notches := dp_up s1 _ h_notches
        have h_names := dp_up s1 _ h_names
        have sg := sg.trans s1
        have sl7 := Same.refl G
        refine gr2 hv ok.g (fun w8 w9 hw10 hw11 => ?_)
        refine gn ?_
        have h_place := hw10
        cases h_place
        refine gn ?_
        have h_notch := hw11
        refine nrm (σ' := [some v_notches, some v_names, some (.int x3.1), some w9]) rfl ?_
        obtain ⟨t12, e_t12, hm⟩ := bs hm
        obtain ⟨t15, e_t15, hm⟩ := bs hm
        refine q_if (et_orG (c := t15) (et_not (et_B (ev_callP (res := fun r => DD K (Dat.bool r)) (a := (x3.2, a.2)) e_t12 (ea_d (ev_d (K := K) rfl h_notch) (ea_d (ev_d (K := K) rfl h_names) ea_nil))))) (fun eb => by have e1 := cond_f eb e_t15; (obtain ⟨t14, e_t14, e1⟩ := bs e1); (have e1 := Option.some.inj e1); subst e1; exact (et_andG (c := t14) (et_test (ev_gt (ev_d (K := K) rfl (.int _)) (ev_int (K := K)))) (fun eb => by have e1 := cond_t eb e_t14; (obtain ⟨t13, e_t13, e1⟩ := bs e1); (have e1 := Option.some.inj e1); subst e1; exact (et_test (ev_leP (a := (x3.2.1, x3.2.2.1)) (b := (t13.1, t13.2.1)) (ev_is (ev_slT (ev_d (K := K) rfl h_notch) eo_none (eo_some (ev_int (K := K)))) rfl) (ev_is (ev_slT (ev_ixTM (e := (eP3 Dat.str Dat.str Dat.int)) e_t13 (ev_d (K := K) rfl h_notches) (ev_sub (ev_d (K := K) rfl (.int _)) (ev_int (K := K)))) eo_none (eo_some (ev_int (K := K)))) rfl)))) (fun eb => by have e1 := cond_f eb e_t14; cases e1; exact ⟨rfl, rfl⟩))) (fun eb => by have e1 := cond_t eb e_t15; cases e1; exact ⟨rfl, rfl⟩)) ok (fun hb G H s1 ok => ?_) (fun hb G H s1 ok => ?_)
        · have hm := cond_t hb hm
          have h_notches := dp_up s1 _ h_notches
          have h_names := dp_up s1 _ h_names
          have h_notch := dp_up s1 _ h_notch
          have sg := sg.trans s1
          have sl7 := sl7.trans s1
          cases hm
        · have hm := cond_f hb hm
          have h_notches := dp_up s1 _ h_notches
          have h_names := dp_up s1 _ h_names
          have h_notch := dp_up s1 _ h_notch
          have sg := sg.trans s1
          have sl7 := sl7.trans s1
          refine q_nilU ?_
          refine q_nil ?_
          cases hm
          exact hN _ _ _ _ sl7 ok ⟨_, _, rfl, hB⟩
      · obtain ⟨y_place, y_notch, rfl, hB⟩ := hj
        have h_notches := dp_up s1 _ h_notches
        have h_names := dp_up s1 _ h_names
        have sg := sg.trans s1
        refine q_nil ?_
        cases hm
        exact q _ _ _ sg (ok.less hB) .non
/-! ### Peal___init__ -/
theorem sc_Peal___init__ : FnScope ["self", "bells", "notches", "name", "other", "number", "bell"] ["self", "bells", "notches"] (defScope s_Peal___init__) := ⟨rfl, rfl, rfl, by decide +kernel, rfl, by decide +kernel, by decide +kernel⟩
def a_Peal___init__ (K : PySem.W.Frag) (a : (List (Str × Int)) × (List (Str × Str × Int))) : List V → Hp → Prop := conP (DD K ((eT (eP2 Dat.str Dat.int)) a.1)) (conP (DD K ((eT (eP3 Dat.str Dat.str Dat.int)) a.2)) (nilP))
def m_Peal___init__ (a : (List (Str × Int)) × (List (Str × Str × Int))) : Option ((List (Str × Int)) × (List (Str × Str × Int)) × (List (Str × Int)) × (List ((Str × Str) × Int))) :=
  (m_check_bells a.1).bind fun t1 => (lcO (fun x2 : (Str × Int) => some x2.1) a.1).bind fun t8 => (m_check_notches (a.2, t8)).bind fun t9 => (dictO a.1).bind fun t10 => (dcO (fun x11 : (Str × Str × Int) => some ((x11.1, x11.2.1), x11.2.2)) a.2).bind fun t20 => some (a.1, a.2, t10, t20)
abbrev sp_Peal___init__ (K : PySem.W.Frag) : Sp := spI K (clsAt K "Peal") ["bells", "notches", "sizes", "turning"] (fun r => [(eT (eP2 Dat.str Dat.int)) r.1, (eT (eP3 Dat.str Dat.str Dat.int)) r.2.1, (eDS Dat.int) r.2.2.1, (eDP Dat.int) r.2.2.2]) (a_Peal___init__ K) m_Peal___init__
theorem ok_Peal___init__ {P : Program} {w : World} {K : PySem.W.Frag} {mg : Str → Option Value} {base : Heap} (T : Txt K mg) (O_check_bells : FnOk P w K mg base CX0 4 T.a_check_bells T.d_check_bells ["bells"] (sp_check_bells K)) (O_check_notches : FnOk P w K mg base CX0 4 T.a_check_notches T.d_check_notches ["notches", "names"] (sp_check_notches K)) : FnOk P w K mg base CX0 (5) T.a_Peal___init__ T.d_Peal___init__ ["self", "bells", "notches"] (sp_Peal___init__ K) := by
  refine T.F_Peal___init__.ex.ok sc_Peal___init__ (fun vs H Q E h => ?_) (fun cdv A outer s0 H vs Q E hr h => ?_)
  · obtain ⟨G, M0, x, dx, ws, a, r, rfl, ok, hx0, ⟨v_bells, _, rfl, h_bells, v_notches, _, rfl, h_notches, rfl⟩, hm, q⟩ := h
    rfl
  · obtain ⟨G, M0, x, dx, ws, a, r, rfl, ok, hx0, ⟨v_bells, _, rfl, h_bells, v_notches, _, rfl, h_notches, rfl⟩, hm, q⟩ := h
    unfold m_Peal___init__ at hm
    have sg := Same.refl G
    have hB := Same.refl M0
    refine ⟨_, (pss_cons (ps_expr (pe_call O_check_bells (hr.mono (by decide)) (by rfl) T.g_check_bells T.F_check_bells.kp T.b_check_bells .nil pass0 (pa_cons (pv 1) pa_nil))) (pss_cons (ps_expr (pe_call O_check_notches (hr.mono (by decide)) (by rfl) T.g_check_notches T.F_check_notches.kp T.b_check_notches .nil pass0 (pa_cons (pv 2) (pa_cons (pe_lc (own := [("bell", 6)]) (g := (gName 6)) (tt := tYes) rfl sc_Peal___init__.nd (pi_tupK (K := K) (pv 1)) (blkOk_by (own := [("bell", 6)]) (N := ["self", "bells", "notches", "name", "other", "number", "bell"]) (sc := defScope s_Peal___init__) (by decide +kernel)) (fun _ _ _ _ _ => (pg_name (i := 6) sc_Peal___init__.nd rfl (by first | exact .inl rfl | exact .inr rfl))) (fun _ _ _ _ _ => pts_nil) (fun _ _ _ _ _ => (pe_ix (ix_tupK (K := K)) (pv 6) pe_int (fun _ _ => rfl)))) pa_nil)))) (pss_cons (ps_fld (pv 0) (pv 1) rfl) (pss_cons (ps_fld (pv 0) (pv 2) rfl) (pss_cons (ps_fld (pv 0) (pe_callTy (cl_dictTK (K := K) rfl) (by rfl) T.n_dict (by decide +kernel) (pa_cons (pv 1) pa_nil)) rfl) (pss_cons (ps_fld (pv 0) (pe_dcB true (own := [("name", 3), ("other", 4), ("number", 5)]) (g := (gTup K 3 (gCons (gName 3) (gCons (gName 4) (gCons (gName 5) gNil))))) (tt := tYes) (hu_of hr) rfl sc_Peal___init__.nd (pi_tupK (K := K) (pv 2)) (blkOk_by (own := [("name", 3), ("other", 4), ("number", 5)]) (N := ["self", "bells", "notches", "name", "other", "number", "bell"]) (sc := defScope s_Peal___init__) (by decide +kernel)) (fun _ _ _ _ _ => (pg_tup rfl (pgs_cons (pg_name (i := 3) sc_Peal___init__.nd rfl (by first | exact .inl rfl | exact .inr rfl)) (pgs_cons (pg_name (i := 4) sc_Peal___init__.nd rfl (by first | exact .inl rfl | exact .inr rfl)) (pgs_cons (pg_name (i := 5) sc_Peal___init__.nd rfl (by first | exact .inl rfl | exact .inr rfl)) pgs_nil))))) (fun _ _ _ _ _ => pts_nil) (fun _ _ _ _ _ => (pe_tup (pa_cons (pv 3) (pa_cons (pv 4) pa_nil)))) (fun _ _ _ _ _ => (pv 5))) rfl) pss_nil)))))), ?_⟩
    refine nrm (σ' := [some (.ref x), some v_bells, some v_notches, none, none, none, none]) rfl ?_
    obtain ⟨t1, e_t1, hm⟩ := bs hm
    refine q_expr (ev_callP (res := fun r => DD K (eN r)) (a := a.1) e_t1 (ea_d (ev_d (K := K) rfl h_bells) ea_nil)) ok (fun G H s1 ok => ?_)
    have h_bells := dp_up s1 _ h_bells
    have h_notches := dp_up s1 _ h_notches
    have sg := sg.trans s1
    obtain ⟨t8, e_t8, hm⟩ := bs hm
    obtain ⟨t9, e_t9, hm⟩ := bs hm
    refine q_expr (ev_callP (res := fun r => DD K (eN r)) (a := (a.2, t8)) e_t9 (ea_d (ev_d (K := K) rfl h_notches) (ea_d (EvL.ev (el_lcM (ea := (eP2 Dat.str Dat.int)) (eb := Dat.str) (xs := a.1) (ys := t8) (hf := e_t8) (src_tup (ev_d (K := K) rfl h_bells)) (fun x2 _ Mx6 _ _ he7 sM5 sG4 hv3 => by cases he7; exact (tg_name ⟨rfl, (ev_ixT (d := Dat.str x2.1) rfl (ev_d (K := K) rfl hv3) ev_int)⟩)))) ea_nil))) ok (fun G H s1 ok => ?_)
    have h_bells := dp_up s1 _ h_bells
    have h_notches := dp_up s1 _ h_notches
    have sg := sg.trans s1
    refine q_fld (K := K) (ns := []) T.cl_Peal T.na_Peal_bells (ev_d (K := K) rfl h_bells) (ev_own rfl) rfl (by decide +kernel) (by decide) ok (fun vf_bells G H s1 ok hf_bells => ?_)
    have h_bells := dp_up s1 _ h_bells
    have h_notches := dp_up s1 _ h_notches
    have sg := sg.trans s1
    refine q_fld (K := K) (ns := ["bells"]) T.cl_Peal T.na_Peal_notches (ev_d (K := K) rfl h_notches) (ev_own rfl) rfl (by decide +kernel) (by decide) ok (fun vf_notches G H s1 ok hf_notches => ?_)
    have h_bells := dp_up s1 _ h_bells
    have h_notches := dp_up s1 _ h_notches
    have hf_bells := dp_up s1 _ hf_bells
    have sg := sg.trans s1
    obtain ⟨t10, e_t10, hm⟩ := bs hm
    refine q_fld (K := K) (ns := ["bells", "notches"]) T.cl_Peal T.na_Peal_sizes (ev_dictT (e := Dat.int) e_t10 (ea_d (ev_d (K := K) rfl h_bells) ea_nil)) (ev_own rfl) rfl (by decide +kernel) (by decide) ok (fun vf_sizes G H s1 ok hf_sizes => ?_)
    have h_bells := dp_up s1 _ h_bells
    have h_notches := dp_up s1 _ h_notches
    have hf_bells := dp_up s1 _ hf_bells
    have hf_notches := dp_up s1 _ hf_notches
    have sg := sg.trans s1
    obtain ⟨t20, e_t20, hm⟩ := bs hm
    refine q_fld (K := K) (ns := ["bells", "notches", "sizes"]) T.cl_Peal T.na_Peal_turning (ev_dcP (e := Dat.int) (ea := (eP3 Dat.str Dat.str Dat.int)) (xs := a.2) (hf := e_t20) (src_tup (ev_d (K := K) rfl h_notches)) (fun x11 _ Mx15 _ _ he16 sM14 sG13 hv12 => by cases he16; exact (tg_t3 hv12 fun _ _ _ h17 h18 h19 => (tg_name (tg_name (tg_name ⟨rfl, (ev_rtup (ea_consD (ev_d (K := K) rfl h17) (ea_consD (ev_d (K := K) rfl h18) (ea_nilD (K := K))))), (ev_d (K := K) rfl h19)⟩)))))) (ev_own rfl) rfl (by decide +kernel) (by decide) ok (fun vf_turning G H s1 ok hf_turning => ?_)
    have h_bells := dp_up s1 _ h_bells
    have h_notches := dp_up s1 _ h_notches
    have hf_bells := dp_up s1 _ hf_bells
    have hf_notches := dp_up s1 _ hf_notches
    have hf_sizes := dp_up s1 _ hf_sizes
    have sg := sg.trans s1
    refine q_nil ?_
    cases hm
    exact q _ _ _ sg ok rfl (.cons hf_bells (.cons hf_notches (.cons hf_sizes (.cons hf_turning .nil))))
/-! ### check_peal -/
theorem sc_check_peal : FnScope ["thing"] ["thing"] (defScope s_check_peal) := ⟨rfl, rfl, rfl, by decide +kernel, rfl, by decide +kernel, by decide +kernel⟩
def a_check_peal (K : PySem.W.Frag) (a : ((List (Str × Int)) × (List (Str × Str × Int)) × (List (Str × Int)) × (List ((Str × Str) × Int)))) : List V → Hp → Prop := conP (DD K (eX_Peal a)) (nilP)
def m_check_peal (a : ((List (Str × Int)) × (List (Str × Str × Int)) × (List (Str × Int)) × (List ((Str × Str) × Int)))) : Option Unit :=
  cond (!true) (none) (some ())
abbrev sp_check_peal (K : PySem.W.Frag) : Sp := spP (a_check_peal K) (m_check_peal) fun r => DD K (eN r)
theorem ok_check_peal {P : Program} {w : World} {K : PySem.W.Frag} {mg : Str → Option Value} {base : Heap} (T : Txt K mg) : FnOk P w K mg base CX0 (1) T.a_check_peal T.d_check_peal ["thing"] (sp_check_peal K) := by
  refine T.F_check_peal.ok sc_check_peal (fun vs H Q E h => ?_) (fun cdv A outer s0 H vs Q E hr h => ?_)
  · obtain ⟨G, M0, a, r, ok, ⟨v_thing, _, rfl, h_thing, rfl⟩, hm, q⟩ := h
    rfl
  · obtain ⟨G, M0, a, r, ok, ⟨v_thing, _, rfl, h_thing, rfl⟩, hm, q⟩ := h
    unfold m_check_peal at hm
    have sg := Same.refl G
    have hB := Same.refl M0
    refine ⟨_, (pss_cons (ps_if (pt_not (pt_val (pe_callB (call_isiKK (K := K)) (by rfl) T.n_isinstance (by decide +kernel) (pa_cons (pv 0) (pa_cons (pe_glob (v := .ref (clsAt K "Peal")) (by rfl) T.mg_Peal rfl) pa_nil))))) (pss_cons ps_never pss_nil) pss_nil) pss_nil), ?_⟩
    refine nrm (σ' := [some v_thing]) rfl ?_
    refine q_if (et_not (et_B (ev_isiX (b := true) T.co_Peal T.ki_Peal (ea_d (ev_d (K := K) rfl h_thing) (ea_cons mo_clx ev_clx ea_nil))))) ok (fun hb G H s1 ok => ?_) (fun hb G H s1 ok => ?_)
    · have hm := cond_t hb hm
      have h_thing := dp_up s1 _ h_thing
      have sg := sg.trans s1
      cases hm
    · have hm := cond_f hb hm
      have h_thing := dp_up s1 _ h_thing
      have sg := sg.trans s1
      refine q_nilU ?_
      refine q_nil ?_
      cases hm
      exact q _ _ _ sg (ok.less hB) .non
/-! ### parts_in -/
theorem sc_parts_in : FnScope ["peal", "thing", "within", "many", "part", "inner"] ["peal", "thing", "within"] (defScope s_parts_in) := ⟨rfl, rfl, rfl, by decide +kernel, rfl, by decide +kernel, by decide +kernel⟩
def a_parts_in (K : PySem.W.Frag) (a : ((List (Str × Int)) × (List (Str × Str × Int)) × (List (Str × Int)) × (List ((Str × Str) × Int))) × Dat × Int) : List V → Hp → Prop := conP (DD K (eX_Peal a.1)) (conP (DD K (id a.2.1)) (conP (DD K (Dat.int a.2.2)) (nilP)))
def m_parts_in : Nat → (((List (Str × Int)) × (List (Str × Str × Int)) × (List (Str × Int)) × (List ((Str × Str) × Int))) × Dat × Int) → Option (Option Int)
  | 0, _ => none
  | n + 1, a => (isO1 "Peal" isT a.2.1).bind fun t1 => cond ((!t1) || (decide ((5 : Int) < a.2.2))) (some (none : (Option Int))) ((tupD a.2.1).bind fun t2 => (forR (R := (Option Int)) (fun (st4 : Int) (x5 : Dat) => (isO1 "Peal" isS x5).bind fun t10 => (cond t10 ((strD x5).bind fun t13 => some (cond (hasA a.1.2.2.1 t13) (some (0 : Int)) (none : (Option Int)))) ((isO1 "Peal" isT x5).bind fun t15 => (cond t15 ((lenD x5).bind fun t16 => (cond (decide (t16 = (2 : Int))) ((atD x5 (1 : Int)).bind fun t17 => (m_is_within_2 (t17, (1 : Int), (1000000000000000000000000000000 : Int))).bind fun t18 => some t18) (some false)).bind fun t19 => some t19) (some false)).bind fun t20 => cond t20 ((atD x5 (0 : Int)).bind fun t21 => (m_parts_in n (a.1, t21, (a.2.2 + (1 : Int)))).bind fun t22 => some t22) (some (none : (Option Int))))).bind fun j11 => cond (j11).isNone (some (.inr (none : (Option Int)))) ((j11).bind fun t23 => some (.inl (st4 + ((1 : Int) + t23))))) t2 (0 : Int)).bind fun fin3 => orR fin3 (fun fin3s => some (some fin3s)) (fun r => some r))
abbrev sp_parts_in (K : PySem.W.Frag) (n : Nat) : Sp := spP (a_parts_in K) (m_parts_in n) fun r => DD K ((eO Dat.int) r)
theorem ok_parts_in {P : Program} {w : World} {K : PySem.W.Frag} {mg : Str → Option Value} {base : Heap} (T : Txt K mg) (O_is_within_2 : FnOk P w K mg base CX0 2 T.a_is_within T.d_is_within ["thing", "low", "high"] (sp_is_within_2 K)) : ∀ n : Nat, FnOk P w K mg base CX0 (n + 3) T.a_parts_in T.d_parts_in ["peal", "thing", "within"] (sp_parts_in K n)
  | 0 => by
    refine T.F_parts_in.ok sc_parts_in (fun vs H Q E h => ?_) (fun cdv A outer s0 H vs Q E hr h => ?_)
    · obtain ⟨G, M0, a, r, ok, ⟨v_peal, _, rfl, h_peal, v_thing, _, rfl, h_thing, v_within, _, rfl, h_within, rfl⟩, hm, q⟩ := h
      unfold m_parts_in at hm
      cases hm
    · obtain ⟨G, M0, a, r, ok, ⟨v_peal, _, rfl, h_peal, v_thing, _, rfl, h_thing, v_within, _, rfl, h_within, rfl⟩, hm, q⟩ := h
      unfold m_parts_in at hm
      cases hm
  | n + 1 => by
    have O_parts_in := ok_parts_in (P := P) (w := w) (base := base) T O_is_within_2 n
    refine T.F_parts_in.ok sc_parts_in (fun vs H Q E h => ?_) (fun cdv A outer s0 H vs Q E hr h => ?_)
    · obtain ⟨G, M0, a, r, ok, ⟨v_peal, _, rfl, h_peal, v_thing, _, rfl, h_thing, v_within, _, rfl, h_within, rfl⟩, hm, q⟩ := h
      rfl
    · obtain ⟨G, M0, a, r, ok, ⟨v_peal, _, rfl, h_peal, v_thing, _, rfl, h_thing, v_within, _, rfl, h_within, rfl⟩, hm, q⟩ := h
      unfold m_parts_in at hm
      have sg := Same.refl G
      have hB := Same.refl M0
      refine ⟨_, (pss_cons (ps_if (PW.pt (pw_or (pt_not (pt_val (pe_callB (call_isiKK (K := K)) (by rfl) T.n_isinstance (by decide +kernel) (pa_cons (pv 1) (pa_cons (pe_bltn (v := .ty "tuple") (by rfl) T.n_tuple (by decide +kernel) rfl) pa_nil))))) (pw_or1 (pt_cmpR op_gt (pv 2) (pe_glob (v := .int 5) (by rfl) T.c_MOST_WITHIN ⟨_, rfl⟩) (nomark _))))) (pss_cons (ps_ret pe_non) pss_nil) pss_nil) (pss_cons (ps_set (i := 3) sc_parts_in.nd rfl (.inl rfl) pe_int) (pss_cons (ps_for PassesOwn.never rfl (pi_tupK (K := K) (pv 1)) (pg_name (i := 4) sc_parts_in.nd rfl (.inl rfl)) (pss_cons (ps_if (pt_val (pe_callB (call_isiKK (K := K)) (by rfl) T.n_isinstance (by decide +kernel) (pa_cons (pv 4) (pa_cons (pe_bltn (v := .ty "str") (by rfl) T.n_str (by decide +kernel) rfl) pa_nil)))) (pss_cons (ps_set (i := 5) sc_parts_in.nd rfl (.inl rfl) (pe_ifExp (pt_cmp (pc_din (hu_of hr) (pv 4) (pe_fldK (K := K) (pv 0)))) pe_int pe_non)) pss_nil) (pss_cons (ps_if (PW.pt (pw_and (pt_val (pe_callB (call_isiKK (K := K)) (by rfl) T.n_isinstance (by decide +kernel) (pa_cons (pv 4) (pa_cons (pe_bltn (v := .ty "tuple") (by rfl) T.n_tuple (by decide +kernel) rfl) pa_nil)))) (pw_and (pt_cmpR op_eq (pe_callB (cl_lenK (K := K)) (by rfl) T.n_len (by decide +kernel) (pa_cons (pv 4) pa_nil)) pe_int (nomark _)) (pw_and1 (pt_val (pe_call O_is_within_2 (hr.mono (by omega)) (by rfl) T.g_is_within T.F_is_within.kp T.b_is_within .nil pass0 (pa_cons (pe_ix (ix_seqK (K := K)) (pv 4) pe_int (fun _ _ => rfl)) (pa_cons pe_int (pa_cons (pe_glob (v := .int 1000000000000000000000000000000) (by rfl) T.c_MOST_TIMES ⟨_, rfl⟩) pa_nil))))))))) (pss_cons (ps_set (i := 5) sc_parts_in.nd rfl (.inl rfl) (pe_call O_parts_in (hr.mono (by omega)) (by rfl) T.g_parts_in T.F_parts_in.kp T.b_parts_in .nil pass0 (pa_cons (pv 0) (pa_cons (pe_ix (ix_seqK (K := K)) (pv 4) pe_int (fun _ _ => rfl)) (pa_cons (pe_op op_add (pv 2) pe_int) pa_nil))))) pss_nil) (pss_cons (ps_set (i := 5) sc_parts_in.nd rfl (.inl rfl) pe_non) pss_nil)) pss_nil)) (pss_cons (ps_if (pt_cmpR op_isN (pv 5) pe_non (nomark _)) (pss_cons (ps_ret pe_non) pss_nil) pss_nil) (pss_cons (ps_aug (i := 3) sc_parts_in.nd rfl (.inl rfl) (pe_op op_add pe_int (pv 5)) ip_add) pss_nil)))) (pss_cons (ps_ret (pv 3)) pss_nil)))), ?_⟩
      cases h_within
      refine nrm (σ' := [some v_peal, some v_thing, some (.int a.2.2), none, none, none]) rfl ?_
      obtain ⟨t1, e_t1, hm⟩ := bs hm
      refine q_if (et_or (et_not (et_B (ev_isiD1 isc_T isn_T T.co_Peal (kn_T T.cn_Peal) e_t1 (ea_d (ev_d (K := K) rfl h_thing) (ea_cons mo_cls ev_cls ea_nil))))) fun _ => (et_test (ev_gt (ev_d (K := K) rfl (.int _)) (ev_int (K := K))))) ok (fun hb G H s1 ok => ?_) (fun hb G H s1 ok => ?_)
      · have hm := cond_t hb hm
        have h_peal := dp_up s1 _ h_peal
        have h_thing := dp_up s1 _ h_thing
        have sg := sg.trans s1
        refine q_ret (ev_non (K := K)) ok (fun v G H s1 ok hv => ?_)
        have sg := sg.trans s1
        cases hm
        exact q v G H sg (ok.less hB) hv
      · have hm := cond_f hb hm
        have h_peal := dp_up s1 _ h_peal
        have h_thing := dp_up s1 _ h_thing
        have sg := sg.trans s1
        refine q_nilU ?_
        refine q_set (σ' := fun v => [some v_peal, some v_thing, some (.int a.2.2), some v, none, none]) (ev_int (K := K)) ok (fun _ => rfl) (fun v_many G H s1 ok h_many => ?_)
        have h_peal := dp_up s1 _ h_peal
        have h_thing := dp_up s1 _ h_thing
        have sg := sg.trans s1
        cases h_many
        obtain ⟨t2, e_t2, hm⟩ := bs hm
        obtain ⟨fin3, e_fin3, hm⟩ := bs hm
        have hmo6 := hm
        refine q_forR (ea := id) (src_tup (ev_tupD e_t2 (ev_d (K := K) rfl h_thing))) ok (fun (st4 : Int) σ1 G1 M1 => ∃ (y_inner : Option V) (y_part : Option V), σ1 = [some v_peal, some v_thing, some (.int a.2.2), some (.int st4), y_part, y_inner] ∧ (Same M0 M1)) e_fin3 (fun G1 s1 => ⟨_, _, rfl, hB⟩) (by rintro _ _ _ _ _ ⟨y_inner, y_part, rfl, hB⟩ s2; exact ⟨_, _, rfl, hB⟩) (fun x5 xv8 st4 st' σ1 G M H N hm hret7 hj s1 ok hv hN => ?_) (fun fin3s σ1 G M H hfin s1 ok hj => ?_)
        · obtain ⟨y_inner, y_part, rfl, hB⟩ := hj
          have h_peal := dp_up s1 _ h_peal
          have h_thing := dp_up s1 _ h_thing
          have sg := sg.trans s1
          have sl9 := Same.refl G
          refine gn ?_
          have h_part := hv
          refine nrm (σ' := [some v_peal, some v_thing, some (.int a.2.2), some (.int st4), some xv8, y_inner]) rfl ?_
          obtain ⟨t10, e_t10, hm⟩ := bs hm
          obtain ⟨j11, e_j11, hm⟩ := bs hm
          refine q_ifJ (fun σ1 G1 M1 => ∃ (v_inner : V), σ1 = [some v_peal, some v_thing, some (.int a.2.2), some (.int st4), some xv8, some v_inner] ∧ (Dq K G1 v_inner ((eO Dat.int) j11)) ∧ (Same M0 M1)) (et_B (ev_isiD1 isc_S isn_S T.co_Peal (kn_S T.cn_Peal) e_t10 (ea_d (ev_d (K := K) rfl h_part) (ea_cons mo_cls ev_cls ea_nil)))) ok (fun hb G H D1 s1 ok _ _ _ kD => ?_) (fun hb G H D1 s1 ok _ _ _ kD => ?_) (fun σ1 G M H s1 ok hj => ?_)
          · have hm := cond_t hb e_j11
            have h_peal := dp_up s1 _ h_peal
            have h_thing := dp_up s1 _ h_thing
            have h_part := dp_up s1 _ h_part
            have sg := sg.trans s1
            have sl9 := sl9.trans s1
            have sl12 := Same.refl G
            obtain ⟨t13, e_t13, hm⟩ := bs hm
            refine q_set (σ' := fun v => [some v_peal, some v_thing, some (.int a.2.2), some (.int st4), some xv8, some v]) (ev_ifC (e := (eO Dat.int)) (x := (some (0 : Int))) (y := (none : (Option Int))) (et_B (ev_dinS (e := Dat.int) (xs := a.1.2.2.1) (ev_strD e_t13 (ev_d (K := K) rfl h_part)) (ev_fld (d := (eDS Dat.int) a.1.2.2.1) (i := 2) T.cl_Peal T.na_Peal_sizes (by decide +kernel) rfl (ev_d (K := K) rfl h_peal)))) (fun _ => (ev_int (K := K))) (fun _ => (ev_non (K := K)))) ok (fun _ => rfl) (fun v_inner G H s1 ok h_inner => ?_)
            have h_peal := dp_up s1 _ h_peal
            have h_thing := dp_up s1 _ h_thing
            have h_part := dp_up s1 _ h_part
            have sg := sg.trans s1
            have sl12 := sl12.trans s1
            have sl9 := sl9.trans s1
            refine q_nil ?_
            cases hm
            exact kD _ _ _ _ sl12 ok ⟨_, rfl, h_inner, hB⟩
          · have hm := cond_f hb e_j11
            have h_peal := dp_up s1 _ h_peal
            have h_thing := dp_up s1 _ h_thing
            have h_part := dp_up s1 _ h_part
            have sg := sg.trans s1
            have sl9 := sl9.trans s1
            have sl14 := Same.refl G
            obtain ⟨t15, e_t15, hm⟩ := bs hm
            obtain ⟨t20, e_t20, hm⟩ := bs hm
            refine q_if (et_andG (c := t20) (et_B (ev_isiD1 isc_T isn_T T.co_Peal (kn_T T.cn_Peal) e_t15 (ea_d (ev_d (K := K) rfl h_part) (ea_cons mo_cls ev_cls ea_nil)))) (fun eb => by have e1 := cond_t eb e_t20; (obtain ⟨t16, e_t16, e1⟩ := bs e1); (obtain ⟨t19, e_t19, e1⟩ := bs e1); (have e1 := Option.some.inj e1); subst e1; exact (et_andG (c := t19) (et_test (ev_eqI (ev_lenD e_t16 (ea_d (ev_d (K := K) rfl h_part) ea_nil)) (ev_int (K := K)))) (fun eb => by have e1 := cond_t eb e_t19; (obtain ⟨t17, e_t17, e1⟩ := bs e1); (obtain ⟨t18, e_t18, e1⟩ := bs e1); (have e1 := Option.some.inj e1); subst e1; exact (et_B (ev_callP (res := fun r => DD K (Dat.bool r)) (a := (t17, (1 : Int), (1000000000000000000000000000000 : Int))) e_t18 (ea_d (ev_ixD e_t17 (ev_d (K := K) rfl h_part) (ev_int (K := K))) (ea_d (ev_int (K := K)) (ea_d (ev_int (K := K)) ea_nil)))))) (fun eb => by have e1 := cond_f eb e_t19; cases e1; exact ⟨rfl, rfl⟩))) (fun eb => by have e1 := cond_f eb e_t20; cases e1; exact ⟨rfl, rfl⟩)) ok (fun hb G H s1 ok => ?_) (fun hb G H s1 ok => ?_)
            · have hm := cond_t hb hm
              have h_peal := dp_up s1 _ h_peal
              have h_thing := dp_up s1 _ h_thing
              have h_part := dp_up s1 _ h_part
              have sg := sg.trans s1
              have sl14 := sl14.trans s1
              have sl9 := sl9.trans s1
              obtain ⟨t21, e_t21, hm⟩ := bs hm
              obtain ⟨t22, e_t22, hm⟩ := bs hm
              refine q_set (σ' := fun v => [some v_peal, some v_thing, some (.int a.2.2), some (.int st4), some xv8, some v]) (ev_callP (res := fun r => DD K ((eO Dat.int) r)) (a := (a.1, t21, (a.2.2 + (1 : Int)))) e_t22 (ea_d (ev_d (K := K) rfl h_peal) (ea_d (ev_ixD e_t21 (ev_d (K := K) rfl h_part) (ev_int (K := K))) (ea_d (ev_add (ev_d (K := K) rfl (.int _)) (ev_int (K := K))) ea_nil)))) ok (fun _ => rfl) (fun v_inner G H s1 ok h_inner => ?_)
              have h_peal := dp_up s1 _ h_peal
              have h_thing := dp_up s1 _ h_thing
              have h_part := dp_up s1 _ h_part
              have sg := sg.trans s1
              have sl14 := sl14.trans s1
              have sl9 := sl9.trans s1
              refine q_nilU ?_
              refine q_nil ?_
              cases hm
              exact kD _ _ _ _ sl14 ok ⟨_, rfl, h_inner, hB⟩
            · have hm := cond_f hb hm
              have h_peal := dp_up s1 _ h_peal
              have h_thing := dp_up s1 _ h_thing
              have h_part := dp_up s1 _ h_part
              have sg := sg.trans s1
              have sl14 := sl14.trans s1
              have sl9 := sl9.trans s1
              refine q_set (σ' := fun v => [some v_peal, some v_thing, some (.int a.2.2), some (.int st4), some xv8, some v]) (ev_non (K := K)) ok (fun _ => rfl) (fun v_inner G H s1 ok h_inner => ?_)
              have h_peal := dp_up s1 _ h_peal
              have h_thing := dp_up s1 _ h_thing
              have h_part := dp_up s1 _ h_part
              have sg := sg.trans s1
              have sl14 := sl14.trans s1
              have sl9 := sl9.trans s1
              refine q_nilU ?_
              refine q_nil ?_
              cases hm
              exact kD _ _ _ _ sl14 ok ⟨_, rfl, h_inner, hB⟩
          · obtain ⟨v_inner, rfl, h_inner, hB⟩ := hj
            have h_peal := dp_up s1 _ h_peal
            have h_thing := dp_up s1 _ h_thing
            have h_part := dp_up s1 _ h_part
            have sg := sg.trans s1
            have sl9 := sl9.trans s1
            refine q_if (et_test (ev_isNO (e := Dat.int) (o := j11) (fun _ h => Dat.noConfusion h) (ev_d (K := K) rfl h_inner) (ev_non (K := K)))) ok (fun hb G H s1 ok => ?_) (fun hb G H s1 ok => ?_)
            · have hm := cond_t hb hm
              have h_peal := dp_up s1 _ h_peal
              have h_thing := dp_up s1 _ h_thing
              have h_part := dp_up s1 _ h_part
              have h_inner := dp_up s1 _ h_inner
              have sg := sg.trans s1
              have sl9 := sl9.trans s1
              refine q_ret (ev_non (K := K)) ok (fun v G H s1 ok hv => ?_)
              have sg := sg.trans s1
              cases hm
              have hf0 := hret7 _ rfl
              rw [hf0] at hmo6
              have hmx0 := hmo6
              cases hmx0
              exact q v G H sg (ok.less hB) hv
            · have hm := cond_f hb hm
              have h_peal := dp_up s1 _ h_peal
              have h_thing := dp_up s1 _ h_thing
              have h_part := dp_up s1 _ h_part
              have h_inner := dp_up s1 _ h_inner
              have sg := sg.trans s1
              have sl9 := sl9.trans s1
              refine q_nilU ?_
              obtain ⟨t23, e_t23, hm⟩ := bs hm
              refine q_augI (σ' := fun v => [some v_peal, some v_thing, some (.int a.2.2), some v, some xv8, some v_inner]) rfl (ev_add (ev_int (K := K)) (ev_unO (e := Dat.int) e_t23 (ev_d (K := K) rfl h_inner))) ok rfl (fun G H s1 ok => ?_)
              have h_peal := dp_up s1 _ h_peal
              have h_thing := dp_up s1 _ h_thing
              have h_part := dp_up s1 _ h_part
              have h_inner := dp_up s1 _ h_inner
              have sg := sg.trans s1
              have sl9 := sl9.trans s1
              refine q_nil ?_
              cases hm
              exact hN _ _ _ _ _ rfl sl9 ok ⟨_, _, rfl, hB⟩
        · obtain ⟨y_inner, y_part, rfl, hB⟩ := hj
          have h_peal := dp_up s1 _ h_peal
          have h_thing := dp_up s1 _ h_thing
          have sg := sg.trans s1
          rw [hfin] at hm
          have hm := orR_l hm
          refine q_ret (ev_d (K := K) rfl (.int _)) ok (fun v G H s1 ok hv => ?_)
          have sg := sg.trans s1
          cases hm
          exact q v G H sg (ok.less hB) hv
/-! ### fits_course -/
theorem sc_fits_course : FnScope ["peal", "thing", "many"] ["peal", "thing"] (defScope s_fits_course) := ⟨rfl, rfl, rfl, by decide +kernel, rfl, by decide +kernel, by decide +kernel⟩
def a_fits_course (K : PySem.W.Frag) (a : ((List (Str × Int)) × (List (Str × Str × Int)) × (List (Str × Int)) × (List ((Str × Str) × Int))) × Dat) : List V → Hp → Prop := conP (DD K (eX_Peal a.1)) (conP (DD K (id a.2)) (nilP))
def m_fits_course (a : ((List (Str × Int)) × (List (Str × Str × Int)) × (List (Str × Int)) × (List ((Str × Str) × Int))) × Dat) : Option Bool :=
  (m_parts_in 8 (a.1, a.2, (1 : Int))).bind fun t1 => (cond (t1).isSome ((t1).bind fun t2 => some (decide (t2 ≤ (120 : Int)))) (some false)).bind fun t3 => some t3
abbrev sp_fits_course (K : PySem.W.Frag) : Sp := spP (a_fits_course K) (m_fits_course) fun r => DD K (Dat.bool r)
theorem ok_fits_course {P : Program} {w : World} {K : PySem.W.Frag} {mg : Str → Option Value} {base : Heap} (T : Txt K mg) (O_parts_in : FnOk P w K mg base CX0 11 T.a_parts_in T.d_parts_in ["peal", "thing", "within"] (sp_parts_in K 8)) : FnOk P w K mg base CX0 (12) T.a_fits_course T.d_fits_course ["peal", "thing"] (sp_fits_course K) := by
  refine T.F_fits_course.ok sc_fits_course (fun vs H Q E h => ?_) (fun cdv A outer s0 H vs Q E hr h => ?_)
  · obtain ⟨G, M0, a, r, ok, ⟨v_peal, _, rfl, h_peal, v_thing, _, rfl, h_thing, rfl⟩, hm, q⟩ := h
    rfl
  · obtain ⟨G, M0, a, r, ok, ⟨v_peal, _, rfl, h_peal, v_thing, _, rfl, h_thing, rfl⟩, hm, q⟩ := h
    unfold m_fits_course at hm
    have sg := Same.refl G
    have hB := Same.refl M0
    refine ⟨_, (pss_cons (ps_set (i := 2) sc_fits_course.nd rfl (.inl rfl) (pe_call O_parts_in (hr.mono (by decide)) (by rfl) T.g_parts_in T.F_parts_in.kp T.b_parts_in .nil pass0 (pa_cons (pv 0) (pa_cons (pv 1) (pa_cons pe_int pa_nil))))) (pss_cons (ps_ret (pe_and (pe_cmpR op_notN (pv 2) pe_non (nomark _)) (pe_one (pe_cmpR op_le (pv 2) (pe_glob (v := .int 120) (by rfl) T.c_MOST_PARTS ⟨_, rfl⟩) (nomark _))))) pss_nil)), ?_⟩
    refine nrm (σ' := [some v_peal, some v_thing, none]) rfl ?_
    obtain ⟨t1, e_t1, hm⟩ := bs hm
    refine q_set (σ' := fun v => [some v_peal, some v_thing, some v]) (ev_callP (res := fun r => DD K ((eO Dat.int) r)) (a := (a.1, a.2, (1 : Int))) e_t1 (ea_d (ev_d (K := K) rfl h_peal) (ea_d (ev_d (K := K) rfl h_thing) (ea_d (ev_int (K := K)) ea_nil)))) ok (fun _ => rfl) (fun v_many G H s1 ok h_many => ?_)
    have h_peal := dp_up s1 _ h_peal
    have h_thing := dp_up s1 _ h_thing
    have sg := sg.trans s1
    obtain ⟨t3, e_t3, hm⟩ := bs hm
    refine q_ret (ev_andG (c := t3) (ev_notNO (e := Dat.int) (o := t1) (fun _ h => Dat.noConfusion h) (ev_d (K := K) rfl h_many) (ev_non (K := K))) (fun eb => by have e1 := cond_t eb e_t3; (obtain ⟨t2, e_t2, e1⟩ := bs e1); (have e1 := Option.some.inj e1); subst e1; exact (ev_le (ev_unO (e := Dat.int) e_t2 (ev_d (K := K) rfl h_many)) (ev_int (K := K)))) (fun eb => by have e1 := cond_f eb e_t3; cases e1; exact ⟨rfl, rfl⟩)) ok (fun v G H s1 ok hv => ?_)
    have sg := sg.trans s1
    cases hm
    exact q v G H sg (ok.less hB) hv
/-! ### is_course -/
theorem sc_is_course : FnScope ["peal", "thing"] ["peal", "thing"] (defScope s_is_course) := ⟨rfl, rfl, rfl, by decide +kernel, rfl, by decide +kernel, by decide +kernel⟩
def a_is_course (K : PySem.W.Frag) (a : ((List (Str × Int)) × (List (Str × Str × Int)) × (List (Str × Int)) × (List ((Str × Str) × Int))) × Dat) : List V → Hp → Prop := conP (DD K (eX_Peal a.1)) (conP (DD K (id a.2)) (nilP))
def m_is_course (a : ((List (Str × Int)) × (List (Str × Str × Int)) × (List (Str × Int)) × (List ((Str × Str) × Int))) × Dat) : Option Bool :=
  (m_check_peal a.1).bind fun t1 => (m_fits_course (a.1, a.2)).bind fun t2 => some t2
abbrev sp_is_course (K : PySem.W.Frag) : Sp := spP (a_is_course K) (m_is_course) fun r => DD K (Dat.bool r)
theorem ok_is_course {P : Program} {w : World} {K : PySem.W.Frag} {mg : Str → Option Value} {base : Heap} (T : Txt K mg) (O_check_peal : FnOk P w K mg base CX0 1 T.a_check_peal T.d_check_peal ["thing"] (sp_check_peal K)) (O_fits_course : FnOk P w K mg base CX0 12 T.a_fits_course T.d_fits_course ["peal", "thing"] (sp_fits_course K)) : FnOk P w K mg base CX0 (13) T.a_is_course T.d_is_course ["peal", "thing"] (sp_is_course K) := by
  refine T.F_is_course.ok sc_is_course (fun vs H Q E h => ?_) (fun cdv A outer s0 H vs Q E hr h => ?_)
  · obtain ⟨G, M0, a, r, ok, ⟨v_peal, _, rfl, h_peal, v_thing, _, rfl, h_thing, rfl⟩, hm, q⟩ := h
    rfl
  · obtain ⟨G, M0, a, r, ok, ⟨v_peal, _, rfl, h_peal, v_thing, _, rfl, h_thing, rfl⟩, hm, q⟩ := h
    unfold m_is_course at hm
    have sg := Same.refl G
    have hB := Same.refl M0
    refine ⟨_, (pss_cons (ps_expr (pe_call O_check_peal (hr.mono (by decide)) (by rfl) T.g_check_peal T.F_check_peal.kp T.b_check_peal .nil pass0 (pa_cons (pv 0) pa_nil))) (pss_cons (ps_ret (pe_call O_fits_course (hr.mono (by decide)) (by rfl) T.g_fits_course T.F_fits_course.kp T.b_fits_course .nil pass0 (pa_cons (pv 0) (pa_cons (pv 1) pa_nil)))) pss_nil)), ?_⟩
    refine nrm (σ' := [some v_peal, some v_thing]) rfl ?_
    obtain ⟨t1, e_t1, hm⟩ := bs hm
    refine q_expr (ev_callP (res := fun r => DD K (eN r)) (a := a.1) e_t1 (ea_d (ev_d (K := K) rfl h_peal) ea_nil)) ok (fun G H s1 ok => ?_)
    have h_peal := dp_up s1 _ h_peal
    have h_thing := dp_up s1 _ h_thing
    have sg := sg.trans s1
    obtain ⟨t2, e_t2, hm⟩ := bs hm
    refine q_ret (ev_callP (res := fun r => DD K (Dat.bool r)) (a := (a.1, a.2)) e_t2 (ea_d (ev_d (K := K) rfl h_peal) (ea_d (ev_d (K := K) rfl h_thing) ea_nil))) ok (fun v G H s1 ok hv => ?_)
    have sg := sg.trans s1
    cases hm
    exact q v G H sg (ok.less hB) hv
/-! ### _law_opened -/
theorem sc__law_opened : FnScope ["_law_script", "_law_k", "_law_cell", "_law_great"] ["_law_script", "_law_k"] (defScope s__law_opened) := ⟨rfl, rfl, rfl, by decide +kernel, rfl, by decide +kernel, by decide +kernel⟩
def a__law_opened (K : PySem.W.Frag) (a : (List Int) × Int) : List V → Hp → Prop := conP (SCP K a.1) (conP (DD K (Dat.int a.2)) (nilP))
def m__law_opened (a : (List Int) × Int) : Option Sto :=
  (mulO (90901 : Int) a.2).bind fun t1 => (cond (decide (a.2 < (a.1.length : Int))) ((atI a.1 a.2).bind fun t4 => some t4) (some (t1 + (433 : Int)))).bind fun j2 => (cond (decide (j2 < (0 : Int))) (some true) ((powO (10 : Int) (17 : Int)).bind fun t6 => some (decide (t6 < j2)))).bind fun t7 => (mulO (if j2 < 0 then -j2 else j2) (if t7 then 1 else 0 : Int)).bind fun t8 => (mulO (2 : Int) (if j2 < 0 then -j2 else j2)).bind fun t9 => (mulO (7919 : Int) a.2).bind fun t10 => (modO (((t9 + (if t7 then 1 else 0 : Int)) + t10) + (13 : Int)) (998244353 : Int)).bind fun t11 => some (t8, (t11 + (1 : Int)), (0 : Int))
abbrev sp__law_opened (K : PySem.W.Frag) : Sp := spO (a__law_opened K) m__law_opened
theorem ok__law_opened {P : Program} {w : World} {K : PySem.W.Frag} {mg : Str → Option Value} {base : Heap} (T : Txt K mg) : FnOk P w K mg base CX0 (1) T.a__law_opened T.d__law_opened ["_law_script", "_law_k"] (sp__law_opened K) := by
  refine T.F__law_opened.ok sc__law_opened (fun vs H Q E h => ?_) (fun cdv A outer s0 H vs Q E hr h => ?_)
  · obtain ⟨G, M0, a, r, ok, ⟨v_l_script, _, rfl, h_l_script, v_l_k, _, rfl, h_l_k, rfl⟩, hm, q⟩ := h
    rfl
  · obtain ⟨G, M0, a, r, ok, ⟨v_l_script, _, rfl, h_l_script, v_l_k, _, rfl, h_l_k, rfl⟩, hm, q⟩ := h
    unfold m__law_opened at hm
    have sg := Same.refl G
    have hB := Same.refl M0
    refine ⟨_, (pss_cons (ps_set (i := 2) sc__law_opened.nd rfl (.inl rfl) (pe_op op_add (pe_op op_mulO pe_int (pv 1)) pe_int)) (pss_cons (ps_if (pt_cmpR op_lt (pv 1) (pe_callB (cl_lenK (K := K)) (by rfl) T.n_len (by decide +kernel) (pa_cons (pv 0) pa_nil)) (nomark _)) (pss_cons (ps_set (i := 2) sc__law_opened.nd rfl (.inl rfl) (pe_ix (ix_listK (K := K)) (pv 0) (pv 1) (fun _ _ => rfl))) pss_nil) pss_nil) (pss_cons (ps_set (i := 3) sc__law_opened.nd rfl (.inl rfl) (pe_callTy cl_int (by rfl) T.n_int (by decide +kernel) (pa_cons (pe_or (pe_cmpR op_lt (pv 2) pe_int (nomark _)) (pe_one (pe_cmpR op_gt (pv 2) (pe_op op_pow pe_int pe_int) (nomark _)))) pa_nil))) (pss_cons (ps_ret (pe_lst (pa_cons (pe_op op_mulO (pe_callB cl_abs (by rfl) T.n_abs (by decide +kernel) (pa_cons (pv 2) pa_nil)) (pv 3)) (pa_cons (pe_op op_add (pe_op op_modN (pe_op op_add (pe_op op_add (pe_op op_add (pe_op op_mulO pe_int (pe_callB cl_abs (by rfl) T.n_abs (by decide +kernel) (pa_cons (pv 2) pa_nil))) (pv 3)) (pe_op op_mulO pe_int (pv 1))) pe_int) pe_int) pe_int) (pa_cons pe_int pa_nil))))) pss_nil)))), ?_⟩
    cases h_l_k
    refine nrm (σ' := [some v_l_script, some (.int a.2), none, none]) rfl ?_
    obtain ⟨t1, e_t1, hm⟩ := bs hm
    refine q_set (σ' := fun v => [some v_l_script, some (.int a.2), some v, none]) (ev_add (ev_mulO e_t1 (ev_int (K := K)) (ev_d (K := K) rfl (.int _))) (ev_int (K := K))) ok (fun _ => rfl) (fun v_l_cell G H s1 ok h_l_cell => ?_)
    have h_l_script := mo_scp _ _ _ s1 h_l_script
    have sg := sg.trans s1
    cases h_l_cell
    obtain ⟨j2, e_j2, hm⟩ := bs hm
    refine q_ifJ (fun σ1 G1 M1 => σ1 = [some v_l_script, some (.int a.2), some (.int j2), none] ∧ (Same M0 M1)) (et_test (ev_lt (ev_d (K := K) rfl (.int _)) (ev_lenScr (ea_cons mo_scp (ev_var rfl mo_scp h_l_script) ea_nil)))) ok (fun hb G H D1 s1 ok _ _ _ kD => ?_) (fun hb G H D1 s1 ok _ _ _ kD => ?_) (fun σ1 G M H s1 ok hj => ?_)
    · have hm := cond_t hb e_j2
      have h_l_script := mo_scp _ _ _ s1 h_l_script
      have sg := sg.trans s1
      have sl3 := Same.refl G
      obtain ⟨t4, e_t4, hm⟩ := bs hm
      refine q_set (σ' := fun v => [some v_l_script, some (.int a.2), some v, none]) (ev_ixScr e_t4 (ev_var rfl mo_scp h_l_script) (ev_d (K := K) rfl (.int _))) ok (fun _ => rfl) (fun v_l_cell G H s1 ok h_l_cell => ?_)
      have h_l_script := mo_scp _ _ _ s1 h_l_script
      have sg := sg.trans s1
      have sl3 := sl3.trans s1
      cases h_l_cell
      refine q_nil ?_
      cases hm
      exact kD _ _ _ _ sl3 ok ⟨rfl, hB⟩
    · have hm := cond_f hb e_j2
      have h_l_script := mo_scp _ _ _ s1 h_l_script
      have sg := sg.trans s1
      have sl5 := Same.refl G
      refine q_nil ?_
      cases hm
      exact kD _ _ _ _ sl5 ok ⟨rfl, hB⟩
    · obtain ⟨rfl, hB⟩ := hj
      have h_l_script := mo_scp _ _ _ s1 h_l_script
      have sg := sg.trans s1
      obtain ⟨t7, e_t7, hm⟩ := bs hm
      refine q_set (σ' := fun v => [some v_l_script, some (.int a.2), some (.int j2), some v]) (ev_intB (ea_d (ev_orG (c := t7) (ev_lt (ev_d (K := K) rfl (.int _)) (ev_int (K := K))) (fun eb => by have e1 := cond_f eb e_t7; (obtain ⟨t6, e_t6, e1⟩ := bs e1); (have e1 := Option.some.inj e1); subst e1; exact (ev_gt (ev_d (K := K) rfl (.int _)) (ev_powO e_t6 (ev_int (K := K)) (ev_int (K := K))))) (fun eb => by have e1 := cond_t eb e_t7; cases e1; exact ⟨rfl, rfl⟩)) ea_nil)) ok (fun _ => rfl) (fun v_l_great G H s1 ok h_l_great => ?_)
      have h_l_script := mo_scp _ _ _ s1 h_l_script
      have sg := sg.trans s1
      cases h_l_great
      obtain ⟨t8, e_t8, hm⟩ := bs hm
      obtain ⟨t9, e_t9, hm⟩ := bs hm
      obtain ⟨t10, e_t10, hm⟩ := bs hm
      obtain ⟨t11, e_t11, hm⟩ := bs hm
      cases hm
      refine q_retL (el_lst (ea_consD (ev_mulO e_t8 (ev_abs (ea_d (ev_d (K := K) rfl (.int _)) ea_nil)) (ev_d (K := K) rfl (.int _))) (ea_consD (ev_add (ev_modO e_t11 (ev_add (ev_add (ev_add (ev_mulO e_t9 (ev_int (K := K)) (ev_abs (ea_d (ev_d (K := K) rfl (.int _)) ea_nil))) (ev_d (K := K) rfl (.int _))) (ev_mulO e_t10 (ev_int (K := K)) (ev_d (K := K) rfl (.int _)))) (ev_int (K := K))) (ev_int (K := K))) (ev_int (K := K))) (ea_consD (ev_int (K := K)) (ea_nilD (K := K)))))) ok (fun p vs G H s1 ok hp hd => ?_)
      have sg := sg.trans s1
      cases vs_sto hd
      exact q _ _ _ sg (ok.less (same_upd2 hB)) (hB.free hp)
/-! ### _law_pull -/
theorem sc__law_pull : FnScope ["_law_store", "_law_many", "_law_found", "_law_state"] ["_law_store", "_law_many"] (defScope s__law_pull) := ⟨rfl, rfl, rfl, by decide +kernel, rfl, by decide +kernel, by decide +kernel⟩
def a__law_pull (K : PySem.W.Frag) (a : Int) : List V → Hp → Prop := conP (DD K (Dat.int a)) (nilP)
def m__law_pull (a : Int) (z : Sto) : Option (Int × Sto) := pullM a z
abbrev sp__law_pull (K : PySem.W.Frag) : Sp := spD (a__law_pull K) m__law_pull fun r => DD K (Dat.int r)
theorem ok__law_pull {P : Program} {w : World} {K : PySem.W.Frag} {mg : Str → Option Value} {base : Heap} (T : Txt K mg) : FnOk P w K mg base CX0 1 T.a__law_pull T.d__law_pull ["_law_store", "_law_many"] (sp__law_pull K) := by
  refine T.F__law_pull.ok sc__law_pull (fun vs H Q E h => ?_) (fun cdv A outer s0 H vs Q E hr h => ?_)
  · obtain ⟨G, M0, s, z, z1, a, r, ws, rfl, ok, hs, ⟨v_m, _, rfl, h_m, rfl⟩, hm, q⟩ := h
    rfl
  · obtain ⟨G, M0, s, z, z1, a, r, ws, rfl, ok, hs, ⟨v_m, _, rfl, h_m, rfl⟩, hm, q⟩ := h
    cases h_m
    unfold m__law_pull pullM at hm
    refine ⟨_, (pss_cons (ps_asg (pe_op op_add (pe_ix (ix_listK (K := K)) (pv 0) pe_int (fun _ _ => rfl)) pe_int) (pg_sub (pv 0) pe_int set_list))
      (pss_cons (ps_if (pt_cmpR op_gt (pe_ix (ix_listK (K := K)) (pv 0) pe_int (fun _ _ => rfl)) pe_int (nomark _))
        (pss_cons (ps_asg (pe_callB cl_divmod (by rfl) T.n_divmod (by decide +kernel) (pa_cons (pe_ix (ix_listK (K := K)) (pv 0) pe_int (fun _ _ => rfl)) (pa_cons (pv 1) pa_nil))) (pg_tup rfl (pgs_cons (pg_sub (pv 0) pe_int set_list) (pgs_cons (pg_name (i := 2) sc__law_pull.nd rfl (.inl rfl)) pgs_nil))))
          (pss_cons (ps_ret (pv 2)) pss_nil)) pss_nil)
      (pss_cons (ps_set (i := 3) sc__law_pull.nd rfl (.inl rfl) (pe_ix (ix_listK (K := K)) (pv 0) pe_int (fun _ _ => rfl)))
      (pss_cons (ps_asg (pe_op op_modN (pe_op op_add (pe_op op_add (pe_op op_mulO (pv 3) (pe_op op_add (pe_op op_modN (pv 3) pe_int) pe_int)) (pe_op op_mulO pe_int (pe_ix (ix_listK (K := K)) (pv 0) pe_int (fun _ _ => rfl)))) pe_int) pe_int) (pg_sub (pv 0) pe_int set_list))
      (pss_cons (ps_ret (pe_op op_modN (pe_op op_fdivO (pe_ix (ix_listK (K := K)) (pv 0) pe_int (fun _ _ => rfl)) pe_int) (pv 1))) pss_nil))))), ?_⟩
    refine nrm (σ' := [some (.ref s), some (.int a), none, none]) rfl ?_
    have d3 : ∀ (x y z : Int) (G : Hp), DqAll K G [.int x, .int y, .int z] [.int x, .int y, .int z] := fun x y z G => .cons (.int x) (.cons (.int y) (.cons (.int z) .nil))
    refine q_setItem (K := K) (d := .int (z.2.2 + 1)) (ev_add (ev_ixO (ds := [.int z.1, .int z.2.1, .int z.2.2]) (d := .int z.2.2) (ev_own rfl) (ev_int (K := K)) hs (d3 _ _ _ _) rfl) (ev_int (K := K))) (ev_own rfl) (ev_int (K := K)) hs rfl ok (fun v G H s1 ok hv => ?_)
    cases hv
    have sg := s1
    have hs1 : (upd M0 s (.lst [.int z.1, .int z.2.1, .int (z.2.2 + 1)])) s = some (.lst [.int z.1, .int z.2.1, .int (z.2.2 + 1)]) := upd_same
    refine q_if (et_test (ev_gt (ev_ixO (ds := [.int z.1, .int z.2.1, .int (z.2.2 + 1)]) (d := .int z.1) (ev_own rfl) (ev_int (K := K)) hs1 (d3 _ _ _ _) rfl) (ev_int (K := K)))) ok (fun hb G H s1 ok => ?_) (fun hb G H s1 ok => ?_)
    · have hm := cond_t hb hm
      have sg := sg.trans s1
      obtain ⟨t1, e_t1, hm⟩ := bs hm
      refine q_asgG (ev_dmO e_t1 (ea_d (ev_ixO (ds := [.int z.1, .int z.2.1, .int (z.2.2 + 1)]) (d := .int z.1) (ev_own rfl) (ev_int (K := K)) hs1 (d3 _ _ _ _) rfl) (ea_d (ev_d (K := K) rfl (.int _)) ea_nil))) ok (fun v G H s1 ok hv => ?_)
      have sg := sg.trans s1
      refine gr2 hv ok.g (fun w1 w2 hw1 hw2 => ?_)
      cases hw1
      refine gs_list (K := K) (ev_own rfl) (ev_int (K := K)) hs1 rfl ok (fun G H s1 ok => ?_)
      have sg := sg.trans s1
      cases hw2
      refine gn ?_
      refine nrm (σ' := [some (.ref s), some (.int a), some (.int t1.2), none]) rfl ?_
      refine q_ret (ev_d (K := K) rfl (.int _)) ok (fun v G H s1 ok hv => ?_)
      cases hm
      rw [upd_upd] at ok
      exact q v G H (sg.trans s1) ok hv
    · have hm := cond_f hb hm
      have sg := sg.trans s1
      refine q_nilU ?_
      refine q_set (σ' := fun v => [some (.ref s), some (.int a), none, some v]) (ev_ixO (K := K) (ds := [.int z.1, .int z.2.1, .int (z.2.2 + 1)]) (d := .int z.2.1) (ev_own rfl) (ev_int (K := K)) hs1 (d3 _ _ _ _) rfl) ok (fun _ => rfl) (fun v G H s1 ok hv => ?_)
      cases hv
      have sg := sg.trans s1
      obtain ⟨t1, e_t1, hm⟩ := bs hm
      obtain ⟨t2, e_t2, hm⟩ := bs hm
      obtain ⟨t3, e_t3, hm⟩ := bs hm
      obtain ⟨t4, e_t4, hm⟩ := bs hm
      obtain ⟨t5, e_t5, hm⟩ := bs hm
      obtain ⟨t6, e_t6, hm⟩ := bs hm
      refine q_setItem (K := K) (ev_modO e_t4 (ev_add (ev_add (ev_mulO e_t2 (ev_d (K := K) rfl (.int _)) (ev_add (ev_modO e_t1 (ev_d (K := K) rfl (.int _)) (ev_int (K := K))) (ev_int (K := K)))) (ev_mulO e_t3 (ev_int (K := K)) (ev_ixO (ds := [.int z.1, .int z.2.1, .int (z.2.2 + 1)]) (d := .int (z.2.2 + 1)) (ev_own rfl) (ev_int (K := K)) hs1 (d3 _ _ _ _) rfl))) (ev_int (K := K))) (ev_int (K := K))) (ev_own rfl) (ev_int (K := K)) hs1 rfl ok (fun v G H s1 ok hv => ?_)
      cases hv
      have sg := sg.trans s1
      rw [upd_upd] at ok
      have hs2 : (upd M0 s (.lst [.int z.1, .int t4, .int (z.2.2 + 1)])) s = some (.lst [.int z.1, .int t4, .int (z.2.2 + 1)]) := upd_same
      refine q_ret (ev_modO e_t6 (ev_fdivO e_t5 (ev_ixO (K := K) (ds := [.int z.1, .int t4, .int (z.2.2 + 1)]) (d := .int t4) (ev_own rfl) (ev_int (K := K)) hs2 (d3 _ _ _ _) rfl) (ev_int (K := K))) (ev_d (K := K) rfl (.int _))) ok (fun v G H s1 ok hv => ?_)
      cases hm
      exact q v G H (sg.trans s1) ok hv
/-! ### _law_spelt -/
theorem sc__law_spelt : FnScope ["_law_figure_here", "_law_wide", "_law_word", "_law_turn"] ["_law_figure_here", "_law_wide"] (defScope s__law_spelt) := ⟨rfl, rfl, rfl, by decide +kernel, rfl, by decide +kernel, by decide +kernel⟩
def a__law_spelt (K : PySem.W.Frag) (a : Int × Int) : List V → Hp → Prop := conP (DD K (Dat.int a.1)) (conP (DD K (Dat.int a.2)) (nilP))
def m__law_spelt (a : Int × Int) : Option Str :=
  (rngO a.2).bind fun t1 => (forO (fun (st3 : Str × Int) (x4 : Int) => (modO st3.2 (26 : Int)).bind fun t9 => (atS (Str.ofString "abcdefghijklmnopqrstuvwxyz") t9).bind fun t10 => (addS t10 st3.1).bind fun t11 => (fdivO st3.2 (26 : Int)).bind fun t12 => some (t11, t12)) t1 ((Str.ofString ""), a.1)).bind fun fin2 => some fin2.1
abbrev sp__law_spelt (K : PySem.W.Frag) : Sp := spP (a__law_spelt K) (m__law_spelt) fun r => DD K (Dat.str r)
theorem ok__law_spelt {P : Program} {w : World} {K : PySem.W.Frag} {mg : Str → Option Value} {base : Heap} (T : Txt K mg) : FnOk P w K mg base CX0 (1) T.a__law_spelt T.d__law_spelt ["_law_figure_here", "_law_wide"] (sp__law_spelt K) := by
  refine T.F__law_spelt.ok sc__law_spelt (fun vs H Q E h => ?_) (fun cdv A outer s0 H vs Q E hr h => ?_)
  · obtain ⟨G, M0, a, r, ok, ⟨v_l_figure_here, _, rfl, h_l_figure_here, v_l_wide, _, rfl, h_l_wide, rfl⟩, hm, q⟩ := h
    rfl
  · obtain ⟨G, M0, a, r, ok, ⟨v_l_figure_here, _, rfl, h_l_figure_here, v_l_wide, _, rfl, h_l_wide, rfl⟩, hm, q⟩ := h
    unfold m__law_spelt at hm
    have sg := Same.refl G
    have hB := Same.refl M0
    refine ⟨_, (pss_cons (ps_set (i := 2) sc__law_spelt.nd rfl (.inl rfl) pe_str) (pss_cons (ps_for PassesOwn.never rfl (pi_range1 (by rfl) T.n_range (pa_cons (pv 1) pa_nil)) (pg_name (i := 3) sc__law_spelt.nd rfl (.inl rfl)) (pss_cons (ps_set (i := 2) sc__law_spelt.nd rfl (.inl rfl) (pe_op op_add_str (pe_ix ix_str pe_str (pe_op op_modN (pv 0) pe_int) (fun _ _ => rfl)) (pv 2))) (pss_cons (ps_set (i := 0) sc__law_spelt.nd rfl (.inl rfl) (pe_op op_fdivO (pv 0) pe_int)) pss_nil))) (pss_cons (ps_ret (pv 2)) pss_nil))), ?_⟩
    cases h_l_figure_here
    cases h_l_wide
    refine nrm (σ' := [some (.int a.1), some (.int a.2), none, none]) rfl ?_
    refine q_set (σ' := fun v => [some (.int a.1), some (.int a.2), some v, none]) (ev_str (K := K) (by decide +kernel)) ok (fun _ => rfl) (fun v_l_word G H s1 ok h_l_word => ?_)
    have sg := sg.trans s1
    obtain ⟨t1, e_t1, hm⟩ := bs hm
    obtain ⟨fin2, e_fin2, hm⟩ := bs hm
    have hmo5 := hm
    refine q_forO (ea := Dat.int) (src_rngO e_t1 (ea_d (ev_d (K := K) rfl (.int _)) ea_nil)) ok (fun (st3 : Str × Int) σ1 G1 M1 => ∃ (y_l_turn : Option V) (v_l_word : V), σ1 = [some (.int st3.2), some (.int a.2), some v_l_word, y_l_turn] ∧ (Dq K G1 v_l_word (Dat.str st3.1)) ∧ (Same M0 M1)) e_fin2 (fun G1 s1 => ⟨_, _, rfl, dp_up s1 _ h_l_word, hB⟩) (by rintro _ _ _ _ _ ⟨y_l_turn, v_l_word, rfl, h_l_word, hB⟩ s2; exact ⟨_, _, rfl, dp_up s2 _ h_l_word, hB⟩) (fun x4 xv7 st3 st' σ1 G M H N hm hj s1 ok hv hN => ?_) (fun σ1 G M H s1 ok hj => ?_)
    · obtain ⟨y_l_turn, v_l_word, rfl, h_l_word, hB⟩ := hj
      have sg := sg.trans s1
      have sl8 := Same.refl G
      refine gn ?_
      have h_l_turn := hv
      cases h_l_turn
      refine nrm (σ' := [some (.int st3.2), some (.int a.2), some v_l_word, some (.int x4)]) rfl ?_
      obtain ⟨t9, e_t9, hm⟩ := bs hm
      obtain ⟨t10, e_t10, hm⟩ := bs hm
      obtain ⟨t11, e_t11, hm⟩ := bs hm
      refine q_set (σ' := fun v => [some (.int st3.2), some (.int a.2), some v, some (.int x4)]) (ev_addS e_t11 (ev_ixS e_t10 (ev_str (K := K) (by decide +kernel)) (ev_modO e_t9 (ev_d (K := K) rfl (.int _)) (ev_int (K := K)))) (ev_d (K := K) rfl h_l_word)) ok (fun _ => rfl) (fun v_l_word G H s1 ok h_l_word => ?_)
      have sg := sg.trans s1
      have sl8 := sl8.trans s1
      obtain ⟨t12, e_t12, hm⟩ := bs hm
      refine q_set (σ' := fun v => [some v, some (.int a.2), some v_l_word, some (.int x4)]) (ev_fdivO e_t12 (ev_d (K := K) rfl (.int _)) (ev_int (K := K))) ok (fun _ => rfl) (fun v_l_figure_here G H s1 ok h_l_figure_here => ?_)
      have h_l_word := dp_up s1 _ h_l_word
      have sg := sg.trans s1
      have sl8 := sl8.trans s1
      cases h_l_figure_here
      refine q_nil ?_
      cases hm
      exact hN _ _ _ _ sl8 ok ⟨_, _, rfl, h_l_word, hB⟩
    · obtain ⟨y_l_turn, v_l_word, rfl, h_l_word, hB⟩ := hj
      have sg := sg.trans s1
      refine q_ret (ev_d (K := K) rfl h_l_word) ok (fun v G H s1 ok hv => ?_)
      have sg := sg.trans s1
      cases hm
      exact q v G H sg (ok.less hB) hv
/-! ### _law_calls -/
theorem sc__law_calls : FnScope ["_law_store", "_law_many", "_law_words", "_law_first", "_law_leap", "_law_wide", "_law_most", "_law_k"] ["_law_store", "_law_many"] (defScope s__law_calls) := ⟨rfl, rfl, rfl, by decide +kernel, rfl, by decide +kernel, by decide +kernel⟩
def a__law_calls (K : PySem.W.Frag) (a : Int) : List V → Hp → Prop := conP (DD K (Dat.int a)) (nilP)
def m__law_calls (a : Int) (z : Sto) : Option ((List Str) × Sto) :=
  (m__law_pull (5 : Int) z).bind fun t1 => cond (decide (t1.1 = (1 : Int))) ((m__law_pull (12 : Int) t1.2).bind fun t2 => (m__law_pull (4 : Int) t2.2).bind fun t3 => (atI ([(1 : Int), (5 : Int), (7 : Int), (11 : Int)] : (List Int)) t3.1).bind fun t4 => (rngO a).bind fun t5 => (lcO (fun x6 : Int => (mulO t4 x6).bind fun t12 => (modO (t2.1 + t12) (12 : Int)).bind fun t13 => (atI ([(Str.ofString "bell"), (Str.ofString "turns"), (Str.ofString "ring"), (Str.ofString "go"), (Str.ofString "tell"), (Str.ofString "hang"), (Str.ofString "down"), (Str.ofString "put"), (Str.ofString "strike"), (Str.ofString "back"), (Str.ofString "lots"), (Str.ofString "home")] : (List Str)) t13).bind fun t14 => some t14) t5).bind fun t15 => (sortS t15).bind fun t16 => some (t16, t3.2)) ((m__law_pull (6 : Int) t1.2).bind fun t17 => (m__law_pull (4 : Int) t17.2).bind fun t18 => (atI ([(1 : Int), (3 : Int), (7 : Int), (25 : Int)] : (List Int)) t18.1).bind fun t19 => (atI ([(26 : Int), (676 : Int), (17576 : Int), (456976 : Int), (11881376 : Int), (308915776 : Int)] : (List Int)) (((1 : Int) + t17.1) - (1 : Int))).bind fun t20 => (m__law_pull t20 t18.2).bind fun t21 => (rngO a).bind fun t22 => (lcO (fun x23 : Int => (mulO t19 x23).bind fun t29 => (modO (t21.1 + t29) t20).bind fun t30 => (m__law_spelt (t30, ((1 : Int) + t17.1))).bind fun t31 => some t31) t22).bind fun t32 => (sortS t32).bind fun t33 => some (t33, t21.2))
abbrev sp__law_calls (K : PySem.W.Frag) : Sp := spD (a__law_calls K) (m__law_calls) fun r => DD K ((eL Dat.str) r)
theorem ok__law_calls {P : Program} {w : World} {K : PySem.W.Frag} {mg : Str → Option Value} {base : Heap} (T : Txt K mg) (O__law_pull : FnOk P w K mg base CX0 1 T.a__law_pull T.d__law_pull ["_law_store", "_law_many"] (sp__law_pull K)) (O__law_spelt : FnOk P w K mg base CX0 1 T.a__law_spelt T.d__law_spelt ["_law_figure_here", "_law_wide"] (sp__law_spelt K)) : FnOk P w K mg base CX0 (2) T.a__law_calls T.d__law_calls ["_law_store", "_law_many"] (sp__law_calls K) := by
  refine T.F__law_calls.ok sc__law_calls (fun vs H Q E h => ?_) (fun cdv A outer s0 H vs Q E hr h => ?_)
  · obtain ⟨G, M0, s, z, z1, a, r, ws, rfl, ok, hs, ⟨v_l_many, _, rfl, h_l_many, rfl⟩, hm, q⟩ := h
    rfl
  · obtain ⟨G, M0, s, z, z1, a, r, ws, rfl, ok, hs, ⟨v_l_many, _, rfl, h_l_many, rfl⟩, hm, q⟩ := h
    unfold m__law_calls at hm
    have sg := Same.refl G
    have hB : ∀ a u, a ≠ s → M0 a = some u → M0 a = some u := fun _ _ _ h => h
    refine ⟨_, (pss_cons (ps_set (i := 2) sc__law_calls.nd rfl (.inr rfl) (pe_lst (pa_cons pe_str (pa_cons pe_str (pa_cons pe_str (pa_cons pe_str (pa_cons pe_str (pa_cons pe_str (pa_cons pe_str (pa_cons pe_str (pa_cons pe_str (pa_cons pe_str (pa_cons pe_str (pa_cons pe_str pa_nil)))))))))))))) (pss_cons (ps_if (pt_cmpR op_eq (pe_call O__law_pull (hr.mono (by decide)) (by rfl) T.g__law_pull T.F__law_pull.kp T.b__law_pull .nil pass0 (pa_cons (pv 0) (pa_cons pe_int pa_nil))) pe_int (nomark _)) (pss_cons (ps_asg (pe_tup (pa_cons (pe_call O__law_pull (hr.mono (by decide)) (by rfl) T.g__law_pull T.F__law_pull.kp T.b__law_pull .nil pass0 (pa_cons (pv 0) (pa_cons pe_int pa_nil))) (pa_cons (pe_ix (ix_listK (K := K)) (pe_lst (pa_cons pe_int (pa_cons pe_int (pa_cons pe_int (pa_cons pe_int pa_nil))))) (pe_call O__law_pull (hr.mono (by decide)) (by rfl) T.g__law_pull T.F__law_pull.kp T.b__law_pull .nil pass0 (pa_cons (pv 0) (pa_cons pe_int pa_nil))) (fun _ _ => rfl)) pa_nil))) (pg_tup rfl (pgs_cons (pg_name (i := 3) sc__law_calls.nd rfl (.inr rfl)) (pgs_cons (pg_name (i := 4) sc__law_calls.nd rfl (.inr rfl)) pgs_nil)))) (pss_cons (ps_ret (pe_callB (cr_sortedSK (K := K)) (by rfl) T.n_sorted (by decide +kernel) (pa_cons (pe_lc (own := [("_law_k", 7)]) (g := (gName 7)) (tt := tYes) rfl sc__law_calls.nd (pi_range1 (by rfl) T.n_range (pa_cons (pv 1) pa_nil)) (blkOk_by (own := [("_law_k", 7)]) (N := ["_law_store", "_law_many", "_law_words", "_law_first", "_law_leap", "_law_wide", "_law_most", "_law_k"]) (sc := defScope s__law_calls) (by decide +kernel)) (fun _ _ _ _ _ => (pg_name (i := 7) sc__law_calls.nd rfl (by first | exact .inl rfl | exact .inr rfl))) (fun _ _ _ _ _ => pts_nil) (fun _ _ _ _ _ => (pe_ix (ix_listK (K := K)) (pv 2) (pe_op op_modN (pe_op op_add (pv 3) (pe_op op_mulO (pv 4) (pv 7))) pe_int) (fun _ _ => rfl)))) pa_nil))) pss_nil)) pss_nil) (pss_cons (ps_asg (pe_tup (pa_cons (pe_op op_add pe_int (pe_call O__law_pull (hr.mono (by decide)) (by rfl) T.g__law_pull T.F__law_pull.kp T.b__law_pull .nil pass0 (pa_cons (pv 0) (pa_cons pe_int pa_nil)))) (pa_cons (pe_ix (ix_listK (K := K)) (pe_lst (pa_cons pe_int (pa_cons pe_int (pa_cons pe_int (pa_cons pe_int pa_nil))))) (pe_call O__law_pull (hr.mono (by decide)) (by rfl) T.g__law_pull T.F__law_pull.kp T.b__law_pull .nil pass0 (pa_cons (pv 0) (pa_cons pe_int pa_nil))) (fun _ _ => rfl)) pa_nil))) (pg_tup rfl (pgs_cons (pg_name (i := 5) sc__law_calls.nd rfl (.inr rfl)) (pgs_cons (pg_name (i := 4) sc__law_calls.nd rfl (.inr rfl)) pgs_nil)))) (pss_cons (ps_set (i := 6) sc__law_calls.nd rfl (.inr rfl) (pe_ix (ix_listK (K := K)) (pe_lst (pa_cons pe_int (pa_cons pe_int (pa_cons pe_int (pa_cons pe_int (pa_cons pe_int (pa_cons pe_int pa_nil))))))) (pe_op op_sub (pv 5) pe_int) (fun _ _ => rfl))) (pss_cons (ps_set (i := 3) sc__law_calls.nd rfl (.inr rfl) (pe_call O__law_pull (hr.mono (by decide)) (by rfl) T.g__law_pull T.F__law_pull.kp T.b__law_pull .nil pass0 (pa_cons (pv 0) (pa_cons (pv 6) pa_nil)))) (pss_cons (ps_ret (pe_callB (cr_sortedSK (K := K)) (by rfl) T.n_sorted (by decide +kernel) (pa_cons (pe_lc (own := [("_law_k", 7)]) (g := (gName 7)) (tt := tYes) rfl sc__law_calls.nd (pi_range1 (by rfl) T.n_range (pa_cons (pv 1) pa_nil)) (blkOk_by (own := [("_law_k", 7)]) (N := ["_law_store", "_law_many", "_law_words", "_law_first", "_law_leap", "_law_wide", "_law_most", "_law_k"]) (sc := defScope s__law_calls) (by decide +kernel)) (fun _ _ _ _ _ => (pg_name (i := 7) sc__law_calls.nd rfl (by first | exact .inl rfl | exact .inr rfl))) (fun _ _ _ _ _ => pts_nil) (fun _ _ _ _ _ => (pe_call O__law_spelt (hr.mono (by decide)) (by rfl) T.g__law_spelt T.F__law_spelt.kp T.b__law_spelt .nil pass0 (pa_cons (pe_op op_modN (pe_op op_add (pv 3) (pe_op op_mulO (pv 4) (pv 7))) (pv 6)) (pa_cons (pv 5) pa_nil))))) pa_nil))) pss_nil)))))), ?_⟩
    cases h_l_many
    refine nrm (σ' := [some (.ref s), some (.int a), none, none, none, none, none, none]) rfl ?_
    refine q_set (σ' := fun v => [some (.ref s), some (.int a), some v, none, none, none, none, none]) (EvL.ev (el_lst (ea_consD (ev_str (K := K) (by decide +kernel)) (ea_consD (ev_str (K := K) (by decide +kernel)) (ea_consD (ev_str (K := K) (by decide +kernel)) (ea_consD (ev_str (K := K) (by decide +kernel)) (ea_consD (ev_str (K := K) (by decide +kernel)) (ea_consD (ev_str (K := K) (by decide +kernel)) (ea_consD (ev_str (K := K) (by decide +kernel)) (ea_consD (ev_str (K := K) (by decide +kernel)) (ea_consD (ev_str (K := K) (by decide +kernel)) (ea_consD (ev_str (K := K) (by decide +kernel)) (ea_consD (ev_str (K := K) (by decide +kernel)) (ea_consD (ev_str (K := K) (by decide +kernel)) (ea_nilD (K := K)))))))))))))))) ok (fun _ => rfl) (fun v_l_words G H s1 ok h_l_words => ?_)
    have sg := sg.trans s1
    obtain ⟨t1, e_t1, hm⟩ := bs hm
    refine q_if (et_test (ev_eqI (ev_callD (a := (5 : Int)) (r := t1.1) (z' := t1.2) hs e_t1 (ea_cons mo_ow (ev_own rfl) (ea_d (ev_int (K := K)) ea_nil))) (ev_int (K := K)))) ok (fun hb G H s1 ok => ?_) (fun hb G H s1 ok => ?_)
    · have hm := cond_t hb hm
      have h_l_words := dp_up s1 _ h_l_words
      have sg := sg.trans s1
      have ok : Ok _ (upd M0 s (sto t1.2)) _ := ok
      have hs : (upd M0 s (sto t1.2)) s = some (sto t1.2) := upd_same
      have hB : ∀ a u, a ≠ s → M0 a = some u → (upd M0 s (sto t1.2)) a = some u := (hB_draw hB)
      obtain ⟨M, eM⟩ : ∃ m, m = (upd M0 s (sto t1.2)) := ⟨_, rfl⟩
      rw [← eM] at ok hs hB
      clear eM
      obtain ⟨t2, e_t2, hm⟩ := bs hm
      obtain ⟨t3, e_t3, hm⟩ := bs hm
      obtain ⟨t4, e_t4, hm⟩ := bs hm
      refine q_tupDD (σ' := fun v w => [some (.ref s), some (.int a), some v_l_words, some v, some w, none, none, none]) (ev_callD (a := (12 : Int)) (r := t2.1) (z' := t2.2) hs e_t2 (ea_cons mo_ow (ev_own rfl) (ea_d (ev_int (K := K)) ea_nil))) mo_dd (ev_ixLM (e := Dat.int) e_t4 (EvL.ev (el_lst (ea_consD (ev_int (K := K)) (ea_consD (ev_int (K := K)) (ea_consD (ev_int (K := K)) (ea_consD (ev_int (K := K)) (ea_nilD (K := K)))))))) (ev_callD (a := (4 : Int)) (r := t3.1) (z' := t3.2) upd_same e_t3 (ea_cons mo_ow (ev_own rfl) (ea_d (ev_int (K := K)) ea_nil)))) mo_dd ok (fun _ _ => rfl) (fun v_l_first v_l_leap G H s1 ok h_l_first h_l_leap => ?_)
      have h_l_words := dp_up s1 _ h_l_words
      have sg := sg.trans s1
      cases h_l_first
      cases h_l_leap
      have ok : Ok _ (upd (upd M s (sto t2.2)) s (sto t3.2)) _ := ok
      have hs : (upd (upd M s (sto t2.2)) s (sto t3.2)) s = some (sto t3.2) := upd_same
      have hB : ∀ a u, a ≠ s → M0 a = some u → (upd (upd M s (sto t2.2)) s (sto t3.2)) a = some u := (hB_draw (hB_draw hB))
      obtain ⟨M, eM⟩ : ∃ m, m = (upd (upd M s (sto t2.2)) s (sto t3.2)) := ⟨_, rfl⟩
      rw [← eM] at ok hs hB
      clear eM
      obtain ⟨t5, e_t5, hm⟩ := bs hm
      obtain ⟨t15, e_t15, hm⟩ := bs hm
      obtain ⟨t16, e_t16, hm⟩ := bs hm
      refine q_ret (EvL.ev (el_sortedS e_t16 (ea_d (EvL.ev (el_lcM (ea := Dat.int) (eb := Dat.str) (xs := t5) (ys := t15) (hf := e_t15) (src_rngO e_t5 (ea_d (ev_d (K := K) rfl (.int _)) ea_nil)) (fun x6 _ Mx10 _ _ he11 sM9 sG8 hv7 => by (obtain ⟨t12, e_t12, he11⟩ := bs he11); (obtain ⟨t13, e_t13, he11⟩ := bs he11); (obtain ⟨t14, e_t14, he11⟩ := bs he11); cases he11; exact (tg_name ⟨rfl, (ev_ixLM (e := Dat.str) e_t14 (ev_d (K := K) rfl (dp_up sG8 _ h_l_words)) (ev_modO e_t13 (ev_add (ev_d (K := K) rfl (.int _)) (ev_mulO e_t12 (ev_d (K := K) rfl (.int _)) (ev_d (K := K) rfl hv7))) (ev_int (K := K))))⟩)))) ea_nil))) ok (fun v G H s1 ok hv => ?_)
      have sg := sg.trans s1
      cases hm
      exact q v G H sg (ok.less (same_fin hB hs)) hv
    · have hm := cond_f hb hm
      have h_l_words := dp_up s1 _ h_l_words
      have sg := sg.trans s1
      have ok : Ok _ (upd M0 s (sto t1.2)) _ := ok
      have hs : (upd M0 s (sto t1.2)) s = some (sto t1.2) := upd_same
      have hB : ∀ a u, a ≠ s → M0 a = some u → (upd M0 s (sto t1.2)) a = some u := (hB_draw hB)
      obtain ⟨M, eM⟩ : ∃ m, m = (upd M0 s (sto t1.2)) := ⟨_, rfl⟩
      rw [← eM] at ok hs hB
      clear eM
      refine q_nilU ?_
      obtain ⟨t17, e_t17, hm⟩ := bs hm
      obtain ⟨t18, e_t18, hm⟩ := bs hm
      obtain ⟨t19, e_t19, hm⟩ := bs hm
      refine q_tupDD (σ' := fun v w => [some (.ref s), some (.int a), some v_l_words, none, some w, some v, none, none]) (ev_add (ev_int (K := K)) (ev_callD (a := (6 : Int)) (r := t17.1) (z' := t17.2) hs e_t17 (ea_cons mo_ow (ev_own rfl) (ea_d (ev_int (K := K)) ea_nil)))) mo_dd (ev_ixLM (e := Dat.int) e_t19 (EvL.ev (el_lst (ea_consD (ev_int (K := K)) (ea_consD (ev_int (K := K)) (ea_consD (ev_int (K := K)) (ea_consD (ev_int (K := K)) (ea_nilD (K := K)))))))) (ev_callD (a := (4 : Int)) (r := t18.1) (z' := t18.2) upd_same e_t18 (ea_cons mo_ow (ev_own rfl) (ea_d (ev_int (K := K)) ea_nil)))) mo_dd ok (fun _ _ => rfl) (fun v_l_wide v_l_leap G H s1 ok h_l_wide h_l_leap => ?_)
      have h_l_words := dp_up s1 _ h_l_words
      have sg := sg.trans s1
      cases h_l_wide
      cases h_l_leap
      have ok : Ok _ (upd (upd M s (sto t17.2)) s (sto t18.2)) _ := ok
      have hs : (upd (upd M s (sto t17.2)) s (sto t18.2)) s = some (sto t18.2) := upd_same
      have hB : ∀ a u, a ≠ s → M0 a = some u → (upd (upd M s (sto t17.2)) s (sto t18.2)) a = some u := (hB_draw (hB_draw hB))
      obtain ⟨M, eM⟩ : ∃ m, m = (upd (upd M s (sto t17.2)) s (sto t18.2)) := ⟨_, rfl⟩
      rw [← eM] at ok hs hB
      clear eM
      obtain ⟨t20, e_t20, hm⟩ := bs hm
      refine q_set (σ' := fun v => [some (.ref s), some (.int a), some v_l_words, none, some (.int t19), some (.int ((1 : Int) + t17.1)), some v, none]) (ev_ixLM (e := Dat.int) e_t20 (EvL.ev (el_lst (ea_consD (ev_int (K := K)) (ea_consD (ev_int (K := K)) (ea_consD (ev_int (K := K)) (ea_consD (ev_int (K := K)) (ea_consD (ev_int (K := K)) (ea_consD (ev_int (K := K)) (ea_nilD (K := K)))))))))) (ev_sub (ev_d (K := K) rfl (.int _)) (ev_int (K := K)))) ok (fun _ => rfl) (fun v_l_most G H s1 ok h_l_most => ?_)
      have h_l_words := dp_up s1 _ h_l_words
      have sg := sg.trans s1
      cases h_l_most
      obtain ⟨t21, e_t21, hm⟩ := bs hm
      refine q_set (σ' := fun v => [some (.ref s), some (.int a), some v_l_words, some v, some (.int t19), some (.int ((1 : Int) + t17.1)), some (.int t20), none]) (ev_callD (a := t20) (r := t21.1) (z' := t21.2) hs e_t21 (ea_cons mo_ow (ev_own rfl) (ea_d (ev_d (K := K) rfl (.int _)) ea_nil))) ok (fun _ => rfl) (fun v_l_first G H s1 ok h_l_first => ?_)
      have h_l_words := dp_up s1 _ h_l_words
      have sg := sg.trans s1
      cases h_l_first
      have ok : Ok _ (upd M s (sto t21.2)) _ := ok
      have hs : (upd M s (sto t21.2)) s = some (sto t21.2) := upd_same
      have hB : ∀ a u, a ≠ s → M0 a = some u → (upd M s (sto t21.2)) a = some u := (hB_draw hB)
      obtain ⟨M, eM⟩ : ∃ m, m = (upd M s (sto t21.2)) := ⟨_, rfl⟩
      rw [← eM] at ok hs hB
      clear eM
      obtain ⟨t22, e_t22, hm⟩ := bs hm
      obtain ⟨t32, e_t32, hm⟩ := bs hm
      obtain ⟨t33, e_t33, hm⟩ := bs hm
      refine q_ret (EvL.ev (el_sortedS e_t33 (ea_d (EvL.ev (el_lcM (ea := Dat.int) (eb := Dat.str) (xs := t22) (ys := t32) (hf := e_t32) (src_rngO e_t22 (ea_d (ev_d (K := K) rfl (.int _)) ea_nil)) (fun x23 _ Mx27 _ _ he28 sM26 sG25 hv24 => by (obtain ⟨t29, e_t29, he28⟩ := bs he28); (obtain ⟨t30, e_t30, he28⟩ := bs he28); (obtain ⟨t31, e_t31, he28⟩ := bs he28); cases he28; exact (tg_name ⟨rfl, (ev_callP (res := fun r => DD K (Dat.str r)) (a := (t30, ((1 : Int) + t17.1))) e_t31 (ea_d (ev_modO e_t30 (ev_add (ev_d (K := K) rfl (.int _)) (ev_mulO e_t29 (ev_d (K := K) rfl (.int _)) (ev_d (K := K) rfl hv24))) (ev_d (K := K) rfl (.int _))) (ea_d (ev_d (K := K) rfl (.int _)) ea_nil)))⟩)))) ea_nil))) ok (fun v G H s1 ok hv => ?_)
      have sg := sg.trans s1
      cases hm
      exact q v G H sg (ok.less (same_fin hB hs)) hv
/-! ### _law_figure -/
theorem sc__law_figure : FnScope ["_law_store", "_law_mode", "_law_size", "_law_some"] ["_law_store", "_law_mode", "_law_size"] (defScope s__law_figure) := ⟨rfl, rfl, rfl, by decide +kernel, rfl, by decide +kernel, by decide +kernel⟩
def a__law_figure (K : PySem.W.Frag) (a : Int × Int) : List V → Hp → Prop := conP (DD K (Dat.int a.1)) (conP (DD K (Dat.int a.2)) (nilP))
def m__law_figure (a : Int × Int) (z : Sto) : Option (Int × Sto) :=
  (m__law_pull a.2 z).bind fun t1 => (m__law_pull (99 : Int) t1.2).bind fun t2 => (mulO (2 : Int) a.2).bind fun t3 => (fdivO a.2 (2 : Int)).bind fun t4 => (m__law_pull (4 : Int) t2.2).bind fun t5 => (atI ([(0 : Int), a.2, t3, t4] : (List Int)) t5.1).bind fun t6 => (appO ([(1 : Int), ((1 : Int) + t1.1), ((1 : Int) + t2.1)] : (List Int)) t6).bind fun t7 => cond (decide (a.1 < (4 : Int))) ((atI t7 a.1).bind fun t8 => some (t8, t5.2)) ((atI t7 (1 : Int)).bind fun t9 => (m__law_pull (a.1 - (2 : Int)) t5.2).bind fun t10 => (mulO t9 (if (decide (t10.1 = (0 : Int))) then 1 else 0 : Int)).bind fun t11 => some (t11, t10.2))
abbrev sp__law_figure (K : PySem.W.Frag) : Sp := spD (a__law_figure K) (m__law_figure) fun r => DD K (Dat.int r)
theorem ok__law_figure {P : Program} {w : World} {K : PySem.W.Frag} {mg : Str → Option Value} {base : Heap} (T : Txt K mg) (O__law_pull : FnOk P w K mg base CX0 1 T.a__law_pull T.d__law_pull ["_law_store", "_law_many"] (sp__law_pull K)) : FnOk P w K mg base CX0 (2) T.a__law_figure T.d__law_figure ["_law_store", "_law_mode", "_law_size"] (sp__law_figure K) := by
  refine T.F__law_figure.ok sc__law_figure (fun vs H Q E h => ?_) (fun cdv A outer s0 H vs Q E hr h => ?_)
  · obtain ⟨G, M0, s, z, z1, a, r, ws, rfl, ok, hs, ⟨v_l_mode, _, rfl, h_l_mode, v_l_size, _, rfl, h_l_size, rfl⟩, hm, q⟩ := h
    rfl
  · obtain ⟨G, M0, s, z, z1, a, r, ws, rfl, ok, hs, ⟨v_l_mode, _, rfl, h_l_mode, v_l_size, _, rfl, h_l_size, rfl⟩, hm, q⟩ := h
    unfold m__law_figure at hm
    have sg := Same.refl G
    have hB : ∀ a u, a ≠ s → M0 a = some u → M0 a = some u := fun _ _ _ h => h
    refine ⟨_, (pss_cons (ps_set (i := 3) sc__law_figure.nd rfl (.inl rfl) (pe_lst (pa_cons pe_int (pa_cons (pe_op op_add pe_int (pe_call O__law_pull (hr.mono (by decide)) (by rfl) T.g__law_pull T.F__law_pull.kp T.b__law_pull .nil pass0 (pa_cons (pv 0) (pa_cons (pv 2) pa_nil)))) (pa_cons (pe_op op_add pe_int (pe_call O__law_pull (hr.mono (by decide)) (by rfl) T.g__law_pull T.F__law_pull.kp T.b__law_pull .nil pass0 (pa_cons (pv 0) (pa_cons pe_int pa_nil)))) pa_nil))))) (pss_cons (ps_expr (pe_bm PySem.F.plainAttrs_list PySem.F.slot_list_append PySem.F.type_list_append mt_append (pv 3) (pa_cons (pe_ix (ix_listK (K := K)) (pe_lst (pa_cons pe_int (pa_cons (pv 2) (pa_cons (pe_op op_mulO pe_int (pv 2)) (pa_cons (pe_op op_fdivO (pv 2) pe_int) pa_nil))))) (pe_call O__law_pull (hr.mono (by decide)) (by rfl) T.g__law_pull T.F__law_pull.kp T.b__law_pull .nil pass0 (pa_cons (pv 0) (pa_cons pe_int pa_nil))) (fun _ _ => rfl)) pa_nil))) (pss_cons (ps_if (pt_cmpR op_lt (pv 1) pe_int (nomark _)) (pss_cons (ps_ret (pe_ix (ix_listK (K := K)) (pv 3) (pv 1) (fun _ _ => rfl))) pss_nil) pss_nil) (pss_cons (ps_ret (pe_op op_mulO (pe_ix (ix_listK (K := K)) (pv 3) pe_int (fun _ _ => rfl)) (pe_callTy cl_int (by rfl) T.n_int (by decide +kernel) (pa_cons (pe_cmpR op_eq (pe_call O__law_pull (hr.mono (by decide)) (by rfl) T.g__law_pull T.F__law_pull.kp T.b__law_pull .nil pass0 (pa_cons (pv 0) (pa_cons (pe_op op_sub (pv 1) pe_int) pa_nil))) pe_int (nomark _)) pa_nil)))) pss_nil)))), ?_⟩
    cases h_l_mode
    cases h_l_size
    refine nrm (σ' := [some (.ref s), some (.int a.1), some (.int a.2), none]) rfl ?_
    obtain ⟨t1, e_t1, hm⟩ := bs hm
    obtain ⟨t2, e_t2, hm⟩ := bs hm
    refine q_setL (σ' := fun v => [some (.ref s), some (.int a.1), some (.int a.2), some v]) (el_lst (ea_consD (ev_int (K := K)) (ea_consD (ev_add (ev_int (K := K)) (ev_callD (a := a.2) (r := t1.1) (z' := t1.2) hs e_t1 (ea_cons mo_ow (ev_own rfl) (ea_d (ev_d (K := K) rfl (.int _)) ea_nil)))) (ea_consD (ev_add (ev_int (K := K)) (ev_callD (a := (99 : Int)) (r := t2.1) (z' := t2.2) upd_same e_t2 (ea_cons mo_ow (ev_own rfl) (ea_d (ev_int (K := K)) ea_nil)))) (ea_nilD (K := K)))))) ok (fun _ => rfl) (fun p_l_some vs_l_some G H s1 ok hn hd_l_some => ?_)
    have sg := sg.trans s1
    have n_l_store_l_some : s ≠ p_l_some := ne_of_none upd_same hn
    have n_l_some_l_store := n_l_store_l_some.symm
    have h0_l_some : M0 p_l_some = none := hB_none (M := (upd (upd M0 s (sto t1.2)) s (sto t2.2))) (hB_draw (hB_draw hB)) upd_same hn
    have hd_l_some : DqAll K G vs_l_some (([(1 : Int), ((1 : Int) + t1.1), ((1 : Int) + t2.1)] : (List Int)).map Dat.int) := hd_l_some
    have ok : Ok _ (upd (upd (upd M0 s (sto t1.2)) s (sto t2.2)) p_l_some (.lst vs_l_some)) _ := ok
    have hs : (upd (upd (upd M0 s (sto t1.2)) s (sto t2.2)) p_l_some (.lst vs_l_some)) s = some (sto t2.2) := (up_ne n_l_store_l_some upd_same)
    have hB : ∀ a u, a ≠ s → M0 a = some u → (upd (upd (upd M0 s (sto t1.2)) s (sto t2.2)) p_l_some (.lst vs_l_some)) a = some u := (hB_own (hB_draw (hB_draw hB)) h0_l_some)
    have hp_l_some : (upd (upd (upd M0 s (sto t1.2)) s (sto t2.2)) p_l_some (.lst vs_l_some)) p_l_some = some (.lst vs_l_some) := upd_same
    obtain ⟨M, eM⟩ : ∃ m, m = (upd (upd (upd M0 s (sto t1.2)) s (sto t2.2)) p_l_some (.lst vs_l_some)) := ⟨_, rfl⟩
    rw [← eM] at ok hs hB hp_l_some
    clear eM
    obtain ⟨t3, e_t3, hm⟩ := bs hm
    obtain ⟨t4, e_t4, hm⟩ := bs hm
    obtain ⟨t5, e_t5, hm⟩ := bs hm
    obtain ⟨t6, e_t6, hm⟩ := bs hm
    obtain ⟨t7, e_t7, hm⟩ := bs hm
    obtain ⟨hl_t7, ea_t7⟩ := appO_of e_t7
    refine q_append (ev_own rfl) (ea_d (ev_ixLM (e := Dat.int) e_t6 (EvL.ev (el_lst (ea_consD (ev_int (K := K)) (ea_consD (ev_d (K := K) rfl (.int _)) (ea_consD (ev_mulO e_t3 (ev_int (K := K)) (ev_d (K := K) rfl (.int _))) (ea_consD (ev_fdivO e_t4 (ev_d (K := K) rfl (.int _)) (ev_int (K := K))) (ea_nilD (K := K)))))))) (ev_callD (a := (4 : Int)) (r := t5.1) (z' := t5.2) hs e_t5 (ea_cons mo_ow (ev_own rfl) (ea_d (ev_int (K := K)) ea_nil)))) ea_nil) hp_l_some (up_ne n_l_some_l_store hp_l_some) (by rw [dpAll_len hd_l_some, List.length_map]; exact szlt hl_t7) ok (fun v G H s1 ok hv => ?_)
    have hd_l_some := dpAll_up s1 _ hd_l_some
    have sg := sg.trans s1
    have hd_l_some : DqAll K G (vs_l_some ++ [v]) (t7.map Dat.int) := by rw [ea_t7, List.map_append]; exact dpAll_app hd_l_some (.cons hv .nil)
    have ok : Ok _ (upd (upd M s (sto t5.2)) p_l_some (.lst (vs_l_some ++ [v]))) _ := ok
    have hs : (upd (upd M s (sto t5.2)) p_l_some (.lst (vs_l_some ++ [v]))) s = some (sto t5.2) := (up_ne n_l_store_l_some upd_same)
    have hB : ∀ a u, a ≠ s → M0 a = some u → (upd (upd M s (sto t5.2)) p_l_some (.lst (vs_l_some ++ [v]))) a = some u := (hB_own (hB_draw hB) h0_l_some)
    have hp_l_some : (upd (upd M s (sto t5.2)) p_l_some (.lst (vs_l_some ++ [v]))) p_l_some = some (.lst (vs_l_some ++ [v])) := upd_same
    obtain ⟨M, eM⟩ : ∃ m, m = (upd (upd M s (sto t5.2)) p_l_some (.lst (vs_l_some ++ [v]))) := ⟨_, rfl⟩
    rw [← eM] at ok hs hB hp_l_some
    clear eM
    obtain ⟨vs_l_some, e_vs⟩ : ∃ m, m = (vs_l_some ++ [v]) := ⟨_, rfl⟩
    rw [← e_vs] at hp_l_some hd_l_some
    clear e_vs
    refine q_if (et_test (ev_lt (ev_d (K := K) rfl (.int _)) (ev_int (K := K)))) ok (fun hb G H s1 ok => ?_) (fun hb G H s1 ok => ?_)
    · have hm := cond_t hb hm
      have hd_l_some := dpAll_up s1 _ hd_l_some
      have sg := sg.trans s1
      obtain ⟨t8, e_t8, hm⟩ := bs hm
      refine q_ret (ev_ixOM (e := Dat.int) e_t8 hp_l_some hd_l_some (ev_own rfl) (ev_d (K := K) rfl (.int _))) ok (fun v G H s1 ok hv => ?_)
      have sg := sg.trans s1
      cases hm
      exact q v G H sg (ok.less (same_fin hB hs)) hv
    · have hm := cond_f hb hm
      have hd_l_some := dpAll_up s1 _ hd_l_some
      have sg := sg.trans s1
      refine q_nilU ?_
      obtain ⟨t9, e_t9, hm⟩ := bs hm
      obtain ⟨t10, e_t10, hm⟩ := bs hm
      obtain ⟨t11, e_t11, hm⟩ := bs hm
      refine q_ret (ev_mulO e_t11 (ev_ixOM (e := Dat.int) e_t9 hp_l_some hd_l_some (ev_own rfl) (ev_int (K := K))) (ev_intB (ea_d (ev_eqI (ev_callD (a := (a.1 - (2 : Int))) (r := t10.1) (z' := t10.2) hs e_t10 (ea_cons mo_ow (ev_own rfl) (ea_d (ev_sub (ev_d (K := K) rfl (.int _)) (ev_int (K := K))) ea_nil))) (ev_int (K := K))) ea_nil))) ok (fun v G H s1 ok hv => ?_)
      have sg := sg.trans s1
      have ok : Ok _ (upd M s (sto t10.2)) _ := ok
      have hs : (upd M s (sto t10.2)) s = some (sto t10.2) := upd_same
      have hB : ∀ a u, a ≠ s → M0 a = some u → (upd M s (sto t10.2)) a = some u := (hB_draw hB)
      have hp_l_some : (upd M s (sto t10.2)) p_l_some = some (.lst vs_l_some) := (up_ne n_l_some_l_store hp_l_some)
      obtain ⟨M, eM⟩ : ∃ m, m = (upd M s (sto t10.2)) := ⟨_, rfl⟩
      rw [← eM] at ok hs hB hp_l_some
      clear eM
      cases hm
      exact q v G H sg (ok.less (same_fin hB hs)) hv
/-! ### _law_kit -/
theorem sc__law_kit : FnScope ["_law_store", "_law_upto", "_law_most", "_law_calls_here", "_law_alike", "_law_same", "_law_mode", "_law_sizes", "_law_found", "_law_call", "_law_k", "_law_figure_here"] ["_law_store", "_law_upto", "_law_most"] (defScope s__law_kit) := ⟨rfl, rfl, rfl, by decide +kernel, rfl, by decide +kernel, by decide +kernel⟩
def a__law_kit (K : PySem.W.Frag) (a : Int × Int) : List V → Hp → Prop := conP (DD K (Dat.int a.1)) (conP (DD K (Dat.int a.2)) (nilP))
def m__law_kit (a : Int × Int) (z : Sto) : Option (((List (Str × Int)) × (List (Str × Str × Int))) × Sto) :=
  (m__law_pull a.1 z).bind fun t1 => (m__law_calls ((1 : Int) + t1.1) t1.2).bind fun t2 => (m__law_pull (a.2 - (1 : Int)) t2.2).bind fun t3 => (m__law_pull (4 : Int) t3.2).bind fun t4 => (m__law_pull (6 : Int) t4.2).bind fun t5 => (lcS (fun (x6 : Str) (x6z : Sto) => (cond (decide (t4.1 = (0 : Int))) (some (((2 : Int) + t3.1), x6z)) ((m__law_pull (a.2 - (1 : Int)) x6z).bind fun t12 => some (((2 : Int) + t12.1), t12.2))).bind fun t13 => some (t13.1, t13.2)) t2.1 t5.2).bind fun t14 => (forO (fun (st16 : (List (Str × Str × Int)) × Sto) (x17 : Str) => (rngO (t2.1.length : Int)).bind fun t22 => (forO (fun (st24 : (List (Str × Str × Int)) × Sto) (x25 : Int) => (atI t14.1 x25).bind fun t30 => (m__law_figure (t5.1, t30) st24.2).bind fun t31 => (atI t2.1 x25).bind fun t32 => cond ((!decide (t32 = x17)) && (decide ((0 : Int) < t31.1))) ((atI t2.1 x25).bind fun t33 => (appO st24.1 (x17, t33, t31.1)).bind fun t34 => some (t34, t31.2)) (some (st24.1, t31.2))) t22 (st16.1, st16.2)).bind fun fin23 => some (fin23.1, fin23.2)) t2.1 (([] : (List (Str × Str × Int))), t14.2)).bind fun fin15 => (rngO (t2.1.length : Int)).bind fun t35 => (lcO (fun x36 : Int => (atI t2.1 x36).bind fun t42 => (atI t14.1 x36).bind fun t43 => some (t42, t43)) t35).bind fun t44 => some ((t44, fin15.1), fin15.2)
abbrev sp__law_kit (K : PySem.W.Frag) : Sp := spD (a__law_kit K) (m__law_kit) fun r => DD K ((eP2 (eT (eP2 Dat.str Dat.int)) (eT (eP3 Dat.str Dat.str Dat.int))) r)
theorem ok__law_kit {P : Program} {w : World} {K : PySem.W.Frag} {mg : Str → Option Value} {base : Heap} (T : Txt K mg) (O__law_calls : FnOk P w K mg base CX0 2 T.a__law_calls T.d__law_calls ["_law_store", "_law_many"] (sp__law_calls K)) (O__law_pull : FnOk P w K mg base CX0 1 T.a__law_pull T.d__law_pull ["_law_store", "_law_many"] (sp__law_pull K)) (O__law_figure : FnOk P w K mg base CX0 2 T.a__law_figure T.d__law_figure ["_law_store", "_law_mode", "_law_size"] (sp__law_figure K)) : FnOk P w K mg base CX0 (3) T.a__law_kit T.d__law_kit ["_law_store", "_law_upto", "_law_most"] (sp__law_kit K) := by
  refine T.F__law_kit.ok sc__law_kit (fun vs H Q E h => ?_) (fun cdv A outer s0 H vs Q E hr h => ?_)
  · obtain ⟨G, M0, s, z, z1, a, r, ws, rfl, ok, hs, ⟨v_l_upto, _, rfl, h_l_upto, v_l_most, _, rfl, h_l_most, rfl⟩, hm, q⟩ := h
    rfl
  · obtain ⟨G, M0, s, z, z1, a, r, ws, rfl, ok, hs, ⟨v_l_upto, _, rfl, h_l_upto, v_l_most, _, rfl, h_l_most, rfl⟩, hm, q⟩ := h
    unfold m__law_kit at hm
    have sg := Same.refl G
    have hB : ∀ a u, a ≠ s → M0 a = some u → M0 a = some u := fun _ _ _ h => h
    refine ⟨_, (pss_cons (ps_asg (pe_tup (pa_cons (pe_call O__law_calls (hr.mono (by decide)) (by rfl) T.g__law_calls T.F__law_calls.kp T.b__law_calls .nil pass0 (pa_cons (pv 0) (pa_cons (pe_op op_add pe_int (pe_call O__law_pull (hr.mono (by decide)) (by rfl) T.g__law_pull T.F__law_pull.kp T.b__law_pull .nil pass0 (pa_cons (pv 0) (pa_cons (pv 1) pa_nil)))) pa_nil))) (pa_cons (pe_op op_add pe_int (pe_call O__law_pull (hr.mono (by decide)) (by rfl) T.g__law_pull T.F__law_pull.kp T.b__law_pull .nil pass0 (pa_cons (pv 0) (pa_cons (pe_op op_sub (pv 2) pe_int) pa_nil)))) pa_nil))) (pg_tup rfl (pgs_cons (pg_name (i := 3) sc__law_kit.nd rfl (.inr rfl)) (pgs_cons (pg_name (i := 4) sc__law_kit.nd rfl (.inr rfl)) pgs_nil)))) (pss_cons (ps_asg (pe_tup (pa_cons (pe_cmpR op_eq (pe_call O__law_pull (hr.mono (by decide)) (by rfl) T.g__law_pull T.F__law_pull.kp T.b__law_pull .nil pass0 (pa_cons (pv 0) (pa_cons pe_int pa_nil))) pe_int (nomark _)) (pa_cons (pe_call O__law_pull (hr.mono (by decide)) (by rfl) T.g__law_pull T.F__law_pull.kp T.b__law_pull .nil pass0 (pa_cons (pv 0) (pa_cons pe_int pa_nil))) pa_nil))) (pg_tup rfl (pgs_cons (pg_name (i := 5) sc__law_kit.nd rfl (.inr rfl)) (pgs_cons (pg_name (i := 6) sc__law_kit.nd rfl (.inl rfl)) pgs_nil)))) (pss_cons (ps_set (i := 7) sc__law_kit.nd rfl (.inr rfl) (pe_lc (own := [("_law_call", 9)]) (g := (gName 9)) (tt := tYes) rfl sc__law_kit.nd (pi_listK (K := K) (pv 3)) (blkOk_by (own := [("_law_call", 9)]) (N := ["_law_store", "_law_upto", "_law_most", "_law_calls_here", "_law_alike", "_law_same", "_law_mode", "_law_sizes", "_law_found", "_law_call", "_law_k", "_law_figure_here"]) (sc := defScope s__law_kit) (by decide +kernel)) (fun _ _ _ _ _ => (pg_name (i := 9) sc__law_kit.nd rfl (by first | exact .inl rfl | exact .inr rfl))) (fun _ _ _ _ _ => pts_nil) (fun _ _ _ _ _ => (pe_ifExp (pt_val (pv 5)) (pv 4) (pe_op op_add pe_int (pe_call O__law_pull (hr.mono (by decide)) (by rfl) T.g__law_pull T.F__law_pull.kp T.b__law_pull .nil pass0 (pa_cons (pv 0) (pa_cons (pe_op op_sub (pv 2) pe_int) pa_nil)))))))) (pss_cons (ps_set (i := 8) sc__law_kit.nd rfl (.inl rfl) (pe_lst pa_nil)) (pss_cons (ps_for PassesOwn.never rfl (pi_listK (K := K) (pv 3)) (pg_name (i := 9) sc__law_kit.nd rfl (.inl rfl)) (pss_cons (ps_for PassesOwn.never rfl (pi_range1 (by rfl) T.n_range (pa_cons (pe_callB (cl_lenK (K := K)) (by rfl) T.n_len (by decide +kernel) (pa_cons (pv 3) pa_nil)) pa_nil)) (pg_name (i := 10) sc__law_kit.nd rfl (.inl rfl)) (pss_cons (ps_set (i := 11) sc__law_kit.nd rfl (.inl rfl) (pe_call O__law_figure (hr.mono (by decide)) (by rfl) T.g__law_figure T.F__law_figure.kp T.b__law_figure .nil pass0 (pa_cons (pv 0) (pa_cons (pv 6) (pa_cons (pe_ix (ix_listK (K := K)) (pv 7) (pv 10) (fun _ _ => rfl)) pa_nil))))) (pss_cons (ps_if (PW.pt (pw_and (pt_cmpR op_ne (pe_ix (ix_listK (K := K)) (pv 3) (pv 10) (fun _ _ => rfl)) (pv 9) (nomark _)) (pw_and1 (pt_cmpR op_gt (pv 11) pe_int (nomark _))))) (pss_cons (ps_expr (pe_bm PySem.F.plainAttrs_list PySem.F.slot_list_append PySem.F.type_list_append mt_append (pv 8) (pa_cons (pe_tupF (pa_cons (pv 9) (pa_cons (pe_ix (ix_listK (K := K)) (pv 3) (pv 10) (fun _ _ => rfl)) (pa_cons (pv 11) pa_nil)))) pa_nil))) pss_nil) pss_nil) pss_nil))) pss_nil)) (pss_cons (ps_ret (pe_tupF (pa_cons (pe_callTy (cl_tupleK (K := K)) (by rfl) T.n_tuple (by decide +kernel) (pa_cons (pe_lc (own := [("_law_k", 10)]) (g := (gName 10)) (tt := tYes) rfl sc__law_kit.nd (pi_range1 (by rfl) T.n_range (pa_cons (pe_callB (cl_lenK (K := K)) (by rfl) T.n_len (by decide +kernel) (pa_cons (pv 3) pa_nil)) pa_nil)) (blkOk_by (own := [("_law_k", 10)]) (N := ["_law_store", "_law_upto", "_law_most", "_law_calls_here", "_law_alike", "_law_same", "_law_mode", "_law_sizes", "_law_found", "_law_call", "_law_k", "_law_figure_here"]) (sc := defScope s__law_kit) (by decide +kernel)) (fun _ _ _ _ _ => (pg_name (i := 10) sc__law_kit.nd rfl (by first | exact .inl rfl | exact .inr rfl))) (fun _ _ _ _ _ => pts_nil) (fun _ _ _ _ _ => (pe_tupF (pa_cons (pe_ix (ix_listK (K := K)) (pv 3) (pv 10) (fun _ _ => rfl)) (pa_cons (pe_ix (ix_listK (K := K)) (pv 7) (pv 10) (fun _ _ => rfl)) pa_nil))))) pa_nil)) (pa_cons (pe_callTy (cl_tupleK (K := K)) (by rfl) T.n_tuple (by decide +kernel) (pa_cons (pv 8) pa_nil)) pa_nil)))) pss_nil)))))), ?_⟩
    cases h_l_upto
    cases h_l_most
    refine nrm (σ' := [some (.ref s), some (.int a.1), some (.int a.2), none, none, none, none, none, none, none, none, none]) rfl ?_
    obtain ⟨t1, e_t1, hm⟩ := bs hm
    obtain ⟨t2, e_t2, hm⟩ := bs hm
    obtain ⟨t3, e_t3, hm⟩ := bs hm
    refine q_tupDD (σ' := fun v w => [some (.ref s), some (.int a.1), some (.int a.2), some v, some w, none, none, none, none, none, none, none]) (ev_callD (a := ((1 : Int) + t1.1)) (r := t2.1) (z' := t2.2) upd_same e_t2 (ea_cons mo_ow (ev_own rfl) (ea_d (ev_add (ev_int (K := K)) (ev_callD (a := a.1) (r := t1.1) (z' := t1.2) hs e_t1 (ea_cons mo_ow (ev_own rfl) (ea_d (ev_d (K := K) rfl (.int _)) ea_nil)))) ea_nil))) mo_dd (ev_add (ev_int (K := K)) (ev_callD (a := (a.2 - (1 : Int))) (r := t3.1) (z' := t3.2) upd_same e_t3 (ea_cons mo_ow (ev_own rfl) (ea_d (ev_sub (ev_d (K := K) rfl (.int _)) (ev_int (K := K))) ea_nil)))) mo_dd ok (fun _ _ => rfl) (fun v_l_calls_here v_l_alike G H s1 ok h_l_calls_here h_l_alike => ?_)
    have sg := sg.trans s1
    cases h_l_alike
    have ok : Ok _ (upd (upd (upd M0 s (sto t1.2)) s (sto t2.2)) s (sto t3.2)) _ := ok
    have hs : (upd (upd (upd M0 s (sto t1.2)) s (sto t2.2)) s (sto t3.2)) s = some (sto t3.2) := upd_same
    have hB : ∀ a u, a ≠ s → M0 a = some u → (upd (upd (upd M0 s (sto t1.2)) s (sto t2.2)) s (sto t3.2)) a = some u := (hB_draw (hB_draw (hB_draw hB)))
    obtain ⟨M, eM⟩ : ∃ m, m = (upd (upd (upd M0 s (sto t1.2)) s (sto t2.2)) s (sto t3.2)) := ⟨_, rfl⟩
    rw [← eM] at ok hs hB
    clear eM
    obtain ⟨t4, e_t4, hm⟩ := bs hm
    obtain ⟨t5, e_t5, hm⟩ := bs hm
    refine q_tupDD (σ' := fun v w => [some (.ref s), some (.int a.1), some (.int a.2), some v_l_calls_here, some (.int ((2 : Int) + t3.1)), some v, some w, none, none, none, none, none]) (ev_eqI (ev_callD (a := (4 : Int)) (r := t4.1) (z' := t4.2) hs e_t4 (ea_cons mo_ow (ev_own rfl) (ea_d (ev_int (K := K)) ea_nil))) (ev_int (K := K))) mo_dd (ev_callD (a := (6 : Int)) (r := t5.1) (z' := t5.2) upd_same e_t5 (ea_cons mo_ow (ev_own rfl) (ea_d (ev_int (K := K)) ea_nil))) mo_dd ok (fun _ _ => rfl) (fun v_l_same v_l_mode G H s1 ok h_l_same h_l_mode => ?_)
    have h_l_calls_here := dp_up s1 _ h_l_calls_here
    have sg := sg.trans s1
    cases h_l_same
    cases h_l_mode
    have ok : Ok _ (upd (upd M s (sto t4.2)) s (sto t5.2)) _ := ok
    have hs : (upd (upd M s (sto t4.2)) s (sto t5.2)) s = some (sto t5.2) := upd_same
    have hB : ∀ a u, a ≠ s → M0 a = some u → (upd (upd M s (sto t4.2)) s (sto t5.2)) a = some u := (hB_draw (hB_draw hB))
    obtain ⟨M, eM⟩ : ∃ m, m = (upd (upd M s (sto t4.2)) s (sto t5.2)) := ⟨_, rfl⟩
    rw [← eM] at ok hs hB
    clear eM
    obtain ⟨t14, e_t14, hm⟩ := bs hm
    refine q_set (σ' := fun v => [some (.ref s), some (.int a.1), some (.int a.2), some v_l_calls_here, some (.int ((2 : Int) + t3.1)), some (.bl (decide (t4.1 = (0 : Int)))), some (.int t5.1), some v, none, none, none, none]) (EvL.ev (el_lcMD (ea := Dat.str) (eb := Dat.int) (xs := t2.1) (r := t14) (hf := e_t14) (src_list (ev_d (K := K) rfl h_l_calls_here)) hs (fun x6 _ x6z _ Mx10 _ _ he11 sM9 hzx6 sG8 hv7 => by (obtain ⟨t13, e_t13, he11⟩ := bs he11); cases he11; exact (tg_name ⟨rfl, (ev_if (P := DD K (Dat.int t13.1)) (et_B (ev_d (K := K) rfl (.bl _))) (fun eb => by have e1 := cond_t eb e_t13; cases e1; rw [upd_back hzx6]; exact (ev_d (K := K) rfl (.int _))) (fun eb => by have e1 := cond_f eb e_t13; (obtain ⟨t12, e_t12, e1⟩ := bs e1); cases e1; exact (ev_add (ev_int (K := K)) (ev_callD (a := (a.2 - (1 : Int))) (r := t12.1) (z' := t12.2) hzx6 e_t12 (ea_cons mo_ow (ev_own rfl) (ea_d (ev_sub (ev_d (K := K) rfl (.int _)) (ev_int (K := K))) ea_nil))))))⟩)))) ok (fun _ => rfl) (fun v_l_sizes G H s1 ok h_l_sizes => ?_)
    have h_l_calls_here := dp_up s1 _ h_l_calls_here
    have sg := sg.trans s1
    have ok : Ok _ (upd M s (sto t14.2)) _ := ok
    have hs : (upd M s (sto t14.2)) s = some (sto t14.2) := upd_same
    have hB : ∀ a u, a ≠ s → M0 a = some u → (upd M s (sto t14.2)) a = some u := (hB_draw hB)
    obtain ⟨M, eM⟩ : ∃ m, m = (upd M s (sto t14.2)) := ⟨_, rfl⟩
    rw [← eM] at ok hs hB
    clear eM
    refine q_setL (σ' := fun v => [some (.ref s), some (.int a.1), some (.int a.2), some v_l_calls_here, some (.int ((2 : Int) + t3.1)), some (.bl (decide (t4.1 = (0 : Int)))), some (.int t5.1), some v_l_sizes, some v, none, none, none]) (el_lst (ea_nilD (K := K))) ok (fun _ => rfl) (fun p_l_found vs_l_found G H s1 ok hn hd_l_found => ?_)
    have h_l_calls_here := dp_up s1 _ h_l_calls_here
    have h_l_sizes := dp_up s1 _ h_l_sizes
    have sg := sg.trans s1
    have n_l_store_l_found : s ≠ p_l_found := ne_of_none hs hn
    have n_l_found_l_store := n_l_store_l_found.symm
    have h0_l_found : M0 p_l_found = none := hB_none (M := M) hB hs hn
    have hd_l_found : DqAll K G vs_l_found (([] : (List (Str × Str × Int))).map (eP3 Dat.str Dat.str Dat.int)) := hd_l_found
    have ok : Ok _ (upd M p_l_found (.lst vs_l_found)) _ := ok
    have hs : (upd M p_l_found (.lst vs_l_found)) s = some (sto t14.2) := (up_ne n_l_store_l_found hs)
    have hB : ∀ a u, a ≠ s → M0 a = some u → (upd M p_l_found (.lst vs_l_found)) a = some u := (hB_own hB h0_l_found)
    have hp_l_found : (upd M p_l_found (.lst vs_l_found)) p_l_found = some (.lst vs_l_found) := upd_same
    obtain ⟨M, eM⟩ : ∃ m, m = (upd M p_l_found (.lst vs_l_found)) := ⟨_, rfl⟩
    rw [← eM] at ok hs hB hp_l_found
    clear eM
    obtain ⟨fin15, e_fin15, hm⟩ := bs hm
    have hmo18 := hm
    refine q_forO (ea := Dat.str) (src_list (ev_d (K := K) rfl h_l_calls_here)) ok (fun (st16 : (List (Str × Str × Int)) × Sto) σ1 G1 M1 => ∃ (y_l_k : Option V) (y_l_figure_here : Option V) (y_l_call : Option V) (vs_l_found : List V), σ1 = [some (.ref s), some (.int a.1), some (.int a.2), some v_l_calls_here, some (.int ((2 : Int) + t3.1)), some (.bl (decide (t4.1 = (0 : Int)))), some (.int t5.1), some v_l_sizes, some (.ref p_l_found), y_l_call, y_l_k, y_l_figure_here] ∧ (DqAll K G1 vs_l_found (st16.1.map (eP3 Dat.str Dat.str Dat.int))) ∧ (M1 p_l_found = some (.lst vs_l_found)) ∧ (M1 s = some (sto st16.2)) ∧ (∀ a u, a ≠ s → M0 a = some u → M1 a = some u)) e_fin15 (fun G1 s1 => ⟨_, _, _, _, rfl, dpAll_up s1 _ hd_l_found, hp_l_found, hs, hB⟩) (by rintro _ _ _ _ _ ⟨y_l_k, y_l_figure_here, y_l_call, vs_l_found, rfl, hd_l_found, hp_l_found, hs, hB⟩ s2; exact ⟨_, _, _, _, rfl, dpAll_up s2 _ hd_l_found, hp_l_found, hs, hB⟩) (fun x17 xv20 st16 st' σ1 G M H N hm hj s1 ok hv hN => ?_) (fun σ1 G M H s1 ok hj => ?_)
    · obtain ⟨y_l_k, y_l_figure_here, y_l_call, vs_l_found, rfl, hd_l_found, hp_l_found, hs, hB⟩ := hj
      have h_l_calls_here := dp_up s1 _ h_l_calls_here
      have h_l_sizes := dp_up s1 _ h_l_sizes
      have sg := sg.trans s1
      have sl21 := Same.refl G
      refine gn ?_
      have h_l_call := hv
      refine nrm (σ' := [some (.ref s), some (.int a.1), some (.int a.2), some v_l_calls_here, some (.int ((2 : Int) + t3.1)), some (.bl (decide (t4.1 = (0 : Int)))), some (.int t5.1), some v_l_sizes, some (.ref p_l_found), some xv20, y_l_k, y_l_figure_here]) rfl ?_
      obtain ⟨t22, e_t22, hm⟩ := bs hm
      obtain ⟨fin23, e_fin23, hm⟩ := bs hm
      have hmo26 := hm
      refine q_forO (ea := Dat.int) (src_rngO e_t22 (ea_d (ev_lenLM (e := Dat.str) (ea_d (ev_d (K := K) rfl h_l_calls_here) ea_nil)) ea_nil)) ok (fun (st24 : (List (Str × Str × Int)) × Sto) σ1 G1 M1 => ∃ (y_l_figure_here : Option V) (y_l_k : Option V) (vs_l_found : List V), σ1 = [some (.ref s), some (.int a.1), some (.int a.2), some v_l_calls_here, some (.int ((2 : Int) + t3.1)), some (.bl (decide (t4.1 = (0 : Int)))), some (.int t5.1), some v_l_sizes, some (.ref p_l_found), some xv20, y_l_k, y_l_figure_here] ∧ (DqAll K G1 vs_l_found (st24.1.map (eP3 Dat.str Dat.str Dat.int))) ∧ (M1 p_l_found = some (.lst vs_l_found)) ∧ (M1 s = some (sto st24.2)) ∧ (∀ a u, a ≠ s → M0 a = some u → M1 a = some u)) e_fin23 (fun G1 s1 => ⟨_, _, _, rfl, dpAll_up s1 _ hd_l_found, hp_l_found, hs, hB⟩) (by rintro _ _ _ _ _ ⟨y_l_figure_here, y_l_k, vs_l_found, rfl, hd_l_found, hp_l_found, hs, hB⟩ s2; exact ⟨_, _, _, rfl, dpAll_up s2 _ hd_l_found, hp_l_found, hs, hB⟩) (fun x25 xv28 st24 st' σ1 G M H N hm hj s1 ok hv hN => ?_) (fun σ1 G M H s1 ok hj => ?_)
      · obtain ⟨y_l_figure_here, y_l_k, vs_l_found, rfl, hd_l_found, hp_l_found, hs, hB⟩ := hj
        have h_l_calls_here := dp_up s1 _ h_l_calls_here
        have h_l_sizes := dp_up s1 _ h_l_sizes
        have h_l_call := dp_up s1 _ h_l_call
        have sg := sg.trans s1
        have sl21 := sl21.trans s1
        have sl29 := Same.refl G
        refine gn ?_
        have h_l_k := hv
        cases h_l_k
        refine nrm (σ' := [some (.ref s), some (.int a.1), some (.int a.2), some v_l_calls_here, some (.int ((2 : Int) + t3.1)), some (.bl (decide (t4.1 = (0 : Int)))), some (.int t5.1), some v_l_sizes, some (.ref p_l_found), some xv20, some (.int x25), y_l_figure_here]) rfl ?_
        obtain ⟨t30, e_t30, hm⟩ := bs hm
        obtain ⟨t31, e_t31, hm⟩ := bs hm
        refine q_set (σ' := fun v => [some (.ref s), some (.int a.1), some (.int a.2), some v_l_calls_here, some (.int ((2 : Int) + t3.1)), some (.bl (decide (t4.1 = (0 : Int)))), some (.int t5.1), some v_l_sizes, some (.ref p_l_found), some xv20, some (.int x25), some v]) (ev_callD (a := (t5.1, t30)) (r := t31.1) (z' := t31.2) hs e_t31 (ea_cons mo_ow (ev_own rfl) (ea_d (ev_d (K := K) rfl (.int _)) (ea_d (ev_ixLM (e := Dat.int) e_t30 (ev_d (K := K) rfl h_l_sizes) (ev_d (K := K) rfl (.int _))) ea_nil)))) ok (fun _ => rfl) (fun v_l_figure_here G H s1 ok h_l_figure_here => ?_)
        have h_l_calls_here := dp_up s1 _ h_l_calls_here
        have h_l_sizes := dp_up s1 _ h_l_sizes
        have hd_l_found := dpAll_up s1 _ hd_l_found
        have h_l_call := dp_up s1 _ h_l_call
        have sg := sg.trans s1
        have sl29 := sl29.trans s1
        have sl21 := sl21.trans s1
        cases h_l_figure_here
        have ok : Ok _ (upd M s (sto t31.2)) _ := ok
        have hs : (upd M s (sto t31.2)) s = some (sto t31.2) := upd_same
        have hB : ∀ a u, a ≠ s → M0 a = some u → (upd M s (sto t31.2)) a = some u := (hB_draw hB)
        have hp_l_found : (upd M s (sto t31.2)) p_l_found = some (.lst vs_l_found) := (up_ne n_l_found_l_store hp_l_found)
        obtain ⟨M, eM⟩ : ∃ m, m = (upd M s (sto t31.2)) := ⟨_, rfl⟩
        rw [← eM] at ok hs hB hp_l_found
        clear eM
        obtain ⟨t32, e_t32, hm⟩ := bs hm
        refine q_if (et_and (et_test (ev_neS (ev_ixLM (e := Dat.str) e_t32 (ev_d (K := K) rfl h_l_calls_here) (ev_d (K := K) rfl (.int _))) (ev_d (K := K) rfl h_l_call))) fun _ => (et_test (ev_gt (ev_d (K := K) rfl (.int _)) (ev_int (K := K))))) ok (fun hb G H s1 ok => ?_) (fun hb G H s1 ok => ?_)
        · have hm := cond_t hb hm
          have h_l_calls_here := dp_up s1 _ h_l_calls_here
          have h_l_sizes := dp_up s1 _ h_l_sizes
          have hd_l_found := dpAll_up s1 _ hd_l_found
          have h_l_call := dp_up s1 _ h_l_call
          have sg := sg.trans s1
          have sl29 := sl29.trans s1
          have sl21 := sl21.trans s1
          obtain ⟨t33, e_t33, hm⟩ := bs hm
          obtain ⟨t34, e_t34, hm⟩ := bs hm
          obtain ⟨hl_t34, ea_t34⟩ := appO_of e_t34
          refine q_append (ev_own rfl) (ea_d (ev_tup (ea_consD (ev_d (K := K) rfl h_l_call) (ea_consD (ev_ixLM (e := Dat.str) e_t33 (ev_d (K := K) rfl h_l_calls_here) (ev_d (K := K) rfl (.int _))) (ea_consD (ev_d (K := K) rfl (.int _)) (ea_nilD (K := K)))))) ea_nil) hp_l_found hp_l_found (by rw [dpAll_len hd_l_found, List.length_map]; exact szlt hl_t34) ok (fun v G H s1 ok hv => ?_)
          have h_l_calls_here := dp_up s1 _ h_l_calls_here
          have h_l_sizes := dp_up s1 _ h_l_sizes
          have hd_l_found := dpAll_up s1 _ hd_l_found
          have h_l_call := dp_up s1 _ h_l_call
          have sg := sg.trans s1
          have sl29 := sl29.trans s1
          have sl21 := sl21.trans s1
          have hd_l_found : DqAll K G (vs_l_found ++ [v]) (t34.map (eP3 Dat.str Dat.str Dat.int)) := by rw [ea_t34, List.map_append]; exact dpAll_app hd_l_found (.cons hv .nil)
          have ok : Ok _ (upd M p_l_found (.lst (vs_l_found ++ [v]))) _ := ok
          have hs : (upd M p_l_found (.lst (vs_l_found ++ [v]))) s = some (sto t31.2) := (up_ne n_l_store_l_found hs)
          have hB : ∀ a u, a ≠ s → M0 a = some u → (upd M p_l_found (.lst (vs_l_found ++ [v]))) a = some u := (hB_own hB h0_l_found)
          have hp_l_found : (upd M p_l_found (.lst (vs_l_found ++ [v]))) p_l_found = some (.lst (vs_l_found ++ [v])) := upd_same
          obtain ⟨M, eM⟩ : ∃ m, m = (upd M p_l_found (.lst (vs_l_found ++ [v]))) := ⟨_, rfl⟩
          rw [← eM] at ok hs hB hp_l_found
          clear eM
          obtain ⟨vs_l_found, e_vs⟩ : ∃ m, m = (vs_l_found ++ [v]) := ⟨_, rfl⟩
          rw [← e_vs] at hp_l_found hd_l_found
          clear e_vs
          refine q_nilU ?_
          refine q_nil ?_
          cases hm
          exact hN _ _ _ _ sl29 ok ⟨_, _, _, rfl, hd_l_found, hp_l_found, hs, hB⟩
        · have hm := cond_f hb hm
          have h_l_calls_here := dp_up s1 _ h_l_calls_here
          have h_l_sizes := dp_up s1 _ h_l_sizes
          have hd_l_found := dpAll_up s1 _ hd_l_found
          have h_l_call := dp_up s1 _ h_l_call
          have sg := sg.trans s1
          have sl29 := sl29.trans s1
          have sl21 := sl21.trans s1
          refine q_nilU ?_
          refine q_nil ?_
          cases hm
          exact hN _ _ _ _ sl29 ok ⟨_, _, _, rfl, hd_l_found, hp_l_found, hs, hB⟩
      · obtain ⟨y_l_figure_here, y_l_k, vs_l_found, rfl, hd_l_found, hp_l_found, hs, hB⟩ := hj
        have h_l_calls_here := dp_up s1 _ h_l_calls_here
        have h_l_sizes := dp_up s1 _ h_l_sizes
        have h_l_call := dp_up s1 _ h_l_call
        have sg := sg.trans s1
        have sl21 := sl21.trans s1
        refine q_nil ?_
        cases hm
        exact hN _ _ _ _ sl21 ok ⟨_, _, _, _, rfl, hd_l_found, hp_l_found, hs, hB⟩
    · obtain ⟨y_l_k, y_l_figure_here, y_l_call, vs_l_found, rfl, hd_l_found, hp_l_found, hs, hB⟩ := hj
      have h_l_calls_here := dp_up s1 _ h_l_calls_here
      have h_l_sizes := dp_up s1 _ h_l_sizes
      have sg := sg.trans s1
      obtain ⟨t35, e_t35, hm⟩ := bs hm
      obtain ⟨t44, e_t44, hm⟩ := bs hm
      refine q_ret (ev_tup (ea_consD (ev_tupL (ea_d (EvL.ev (el_lcM (ea := Dat.int) (eb := (eP2 Dat.str Dat.int)) (xs := t35) (ys := t44) (hf := e_t44) (src_rngO e_t35 (ea_d (ev_lenLM (e := Dat.str) (ea_d (ev_d (K := K) rfl h_l_calls_here) ea_nil)) ea_nil)) (fun x36 _ Mx40 _ _ he41 sM39 sG38 hv37 => by (obtain ⟨t42, e_t42, he41⟩ := bs he41); (obtain ⟨t43, e_t43, he41⟩ := bs he41); cases he41; exact (tg_name ⟨rfl, (ev_tup (ea_consD (ev_ixLM (e := Dat.str) e_t42 (ev_d (K := K) rfl (dp_up sG38 _ h_l_calls_here)) (ev_d (K := K) rfl hv37)) (ea_consD (ev_ixLM (e := Dat.int) e_t43 (ev_d (K := K) rfl (dp_up sG38 _ h_l_sizes)) (ev_d (K := K) rfl hv37)) (ea_nilD (K := K)))))⟩)))) ea_nil)) (ea_consD (ev_tupO hp_l_found hd_l_found (ea_cons mo_ow (ev_own rfl) ea_nil)) (ea_nilD (K := K))))) ok (fun v G H s1 ok hv => ?_)
      have sg := sg.trans s1
      cases hm
      exact q v G H sg (ok.less (same_fin hB hs)) hv
/-! ### _law_tune -/
theorem sc__law_tune : FnScope ["_law_store", "_law_kit_here", "_law_deep", "_law_wide", "_law_often", "_law_found", "_law_turn"] ["_law_store", "_law_kit_here", "_law_deep", "_law_wide", "_law_often"] (defScope s__law_tune) := ⟨rfl, rfl, rfl, by decide +kernel, rfl, by decide +kernel, by decide +kernel⟩
def a__law_tune (K : PySem.W.Frag) (a : ((List (Str × Int)) × (List (Str × Str × Int))) × Int × Int × Int) : List V → Hp → Prop := conP (DD K ((eP2 (eT (eP2 Dat.str Dat.int)) (eT (eP3 Dat.str Dat.str Dat.int))) a.1)) (conP (DD K (Dat.int a.2.1)) (conP (DD K (Dat.int a.2.2.1)) (conP (DD K (Dat.int a.2.2.2)) (nilP))))
def m__law_tune : Nat → (((List (Str × Int)) × (List (Str × Str × Int))) × Int × Int × Int) → Sto → Option ((List Dat) × Sto)
  | 0, _, _ => none
  | n + 1, a, z => (m__law_pull (a.2.2.1 + (1 : Int)) z).bind fun t1 => (rngO t1.1).bind fun t2 => (forO (fun (st4 : (List Dat) × Sto) (x5 : Int) => (cond (decide ((1 : Int) < a.2.1)) ((m__law_pull (3 : Int) st4.2).bind fun t10 => some ((decide (t10.1 = (0 : Int))), t10.2)) (some (false, st4.2))).bind fun t11 => cond t11.1 ((m__law_tune n (a.1, (a.2.1 - (1 : Int)), a.2.2.1, a.2.2.2) t11.2).bind fun t12 => (m__law_pull a.2.2.2 t12.2).bind fun t13 => (appO st4.1 ((eP2 (eT id) Dat.int) (t12.1, ((1 : Int) + t13.1)))).bind fun t14 => some (t14, t13.2)) ((m__law_pull (a.1.1.length : Int) t11.2).bind fun t15 => (atI a.1.1 t15.1).bind fun t16 => (appO st4.1 (Dat.str t16.1)).bind fun t17 => some (t17, t15.2))) t2 (([] : (List Dat)), t1.2)).bind fun fin3 => some (fin3.1, fin3.2)
abbrev sp__law_tune (K : PySem.W.Frag) (n : Nat) : Sp := spD (a__law_tune K) (m__law_tune n) fun r => DD K ((eT id) r)
theorem ok__law_tune {P : Program} {w : World} {K : PySem.W.Frag} {mg : Str → Option Value} {base : Heap} (T : Txt K mg) (O__law_pull : FnOk P w K mg base CX0 1 T.a__law_pull T.d__law_pull ["_law_store", "_law_many"] (sp__law_pull K)) : ∀ n : Nat, FnOk P w K mg base CX0 (n + 2) T.a__law_tune T.d__law_tune ["_law_store", "_law_kit_here", "_law_deep", "_law_wide", "_law_often"] (sp__law_tune K n)
  | 0 => by
    refine T.F__law_tune.ok sc__law_tune (fun vs H Q E h => ?_) (fun cdv A outer s0 H vs Q E hr h => ?_)
    · obtain ⟨G, M0, s, z, z1, a, r, ws, rfl, ok, hs, ⟨v_l_kit_here, _, rfl, h_l_kit_here, v_l_deep, _, rfl, h_l_deep, v_l_wide, _, rfl, h_l_wide, v_l_often, _, rfl, h_l_often, rfl⟩, hm, q⟩ := h
      unfold m__law_tune at hm
      cases hm
    · obtain ⟨G, M0, s, z, z1, a, r, ws, rfl, ok, hs, ⟨v_l_kit_here, _, rfl, h_l_kit_here, v_l_deep, _, rfl, h_l_deep, v_l_wide, _, rfl, h_l_wide, v_l_often, _, rfl, h_l_often, rfl⟩, hm, q⟩ := h
      unfold m__law_tune at hm
      cases hm
  | n + 1 => by
    have O__law_tune := ok__law_tune (P := P) (w := w) (base := base) T O__law_pull n
    refine T.F__law_tune.ok sc__law_tune (fun vs H Q E h => ?_) (fun cdv A outer s0 H vs Q E hr h => ?_)
    · obtain ⟨G, M0, s, z, z1, a, r, ws, rfl, ok, hs, ⟨v_l_kit_here, _, rfl, h_l_kit_here, v_l_deep, _, rfl, h_l_deep, v_l_wide, _, rfl, h_l_wide, v_l_often, _, rfl, h_l_often, rfl⟩, hm, q⟩ := h
      rfl
    · obtain ⟨G, M0, s, z, z1, a, r, ws, rfl, ok, hs, ⟨v_l_kit_here, _, rfl, h_l_kit_here, v_l_deep, _, rfl, h_l_deep, v_l_wide, _, rfl, h_l_wide, v_l_often, _, rfl, h_l_often, rfl⟩, hm, q⟩ := h
      unfold m__law_tune at hm
      have sg := Same.refl G
      have hB : ∀ a u, a ≠ s → M0 a = some u → M0 a = some u := fun _ _ _ h => h
      refine ⟨_, (pss_cons (ps_set (i := 5) sc__law_tune.nd rfl (.inl rfl) (pe_lst pa_nil)) (pss_cons (ps_for PassesOwn.never rfl (pi_range1 (by rfl) T.n_range (pa_cons (pe_call O__law_pull (hr.mono (by omega)) (by rfl) T.g__law_pull T.F__law_pull.kp T.b__law_pull .nil pass0 (pa_cons (pv 0) (pa_cons (pe_op op_add (pv 3) pe_int) pa_nil))) pa_nil)) (pg_name (i := 6) sc__law_tune.nd rfl (.inl rfl)) (pss_cons (ps_if (PW.pt (pw_and (pt_cmpR op_gt (pv 2) pe_int (nomark _)) (pw_and1 (pt_cmpR op_eq (pe_call O__law_pull (hr.mono (by omega)) (by rfl) T.g__law_pull T.F__law_pull.kp T.b__law_pull .nil pass0 (pa_cons (pv 0) (pa_cons pe_int pa_nil))) pe_int (nomark _))))) (pss_cons (ps_expr (pe_bm PySem.F.plainAttrs_list PySem.F.slot_list_append PySem.F.type_list_append mt_append (pv 5) (pa_cons (pe_tupF (pa_cons (pe_call O__law_tune (hr.mono (by omega)) (by rfl) T.g__law_tune T.F__law_tune.kp T.b__law_tune .nil pass0 (pa_cons (pv 0) (pa_cons (pv 1) (pa_cons (pe_op op_sub (pv 2) pe_int) (pa_cons (pv 3) (pa_cons (pv 4) pa_nil)))))) (pa_cons (pe_op op_add pe_int (pe_call O__law_pull (hr.mono (by omega)) (by rfl) T.g__law_pull T.F__law_pull.kp T.b__law_pull .nil pass0 (pa_cons (pv 0) (pa_cons (pv 4) pa_nil)))) pa_nil))) pa_nil))) pss_nil) (pss_cons (ps_expr (pe_bm PySem.F.plainAttrs_list PySem.F.slot_list_append PySem.F.type_list_append mt_append (pv 5) (pa_cons (pe_ix (ix_tupK (K := K)) (pe_ix (ix_tupK (K := K)) (pe_ix (ix_tupK (K := K)) (pv 1) pe_int (fun _ _ => rfl)) (pe_call O__law_pull (hr.mono (by omega)) (by rfl) T.g__law_pull T.F__law_pull.kp T.b__law_pull .nil pass0 (pa_cons (pv 0) (pa_cons (pe_callB (cl_lenK (K := K)) (by rfl) T.n_len (by decide +kernel) (pa_cons (pe_ix (ix_tupK (K := K)) (pv 1) pe_int (fun _ _ => rfl)) pa_nil)) pa_nil))) (fun _ _ => rfl)) pe_int (fun _ _ => rfl)) pa_nil))) pss_nil)) pss_nil)) (pss_cons (ps_ret (pe_callTy (cl_tupleK (K := K)) (by rfl) T.n_tuple (by decide +kernel) (pa_cons (pv 5) pa_nil))) pss_nil))), ?_⟩
      cases h_l_deep
      cases h_l_wide
      cases h_l_often
      refine nrm (σ' := [some (.ref s), some v_l_kit_here, some (.int a.2.1), some (.int a.2.2.1), some (.int a.2.2.2), none, none]) rfl ?_
      refine q_setL (σ' := fun v => [some (.ref s), some v_l_kit_here, some (.int a.2.1), some (.int a.2.2.1), some (.int a.2.2.2), some v, none]) (el_lst (ea_nilD (K := K))) ok (fun _ => rfl) (fun p_l_found vs_l_found G H s1 ok hn hd_l_found => ?_)
      have h_l_kit_here := dp_up s1 _ h_l_kit_here
      have sg := sg.trans s1
      have n_l_store_l_found : s ≠ p_l_found := ne_of_none hs hn
      have n_l_found_l_store := n_l_store_l_found.symm
      have h0_l_found : M0 p_l_found = none := hB_none (M := M0) hB hs hn
      have hd_l_found : DqAll K G vs_l_found (([] : (List Dat)).map id) := hd_l_found
      have ok : Ok _ (upd M0 p_l_found (.lst vs_l_found)) _ := ok
      have hs : (upd M0 p_l_found (.lst vs_l_found)) s = some (sto z) := (up_ne n_l_store_l_found hs)
      have hB : ∀ a u, a ≠ s → M0 a = some u → (upd M0 p_l_found (.lst vs_l_found)) a = some u := (hB_own hB h0_l_found)
      have hp_l_found : (upd M0 p_l_found (.lst vs_l_found)) p_l_found = some (.lst vs_l_found) := upd_same
      obtain ⟨M, eM⟩ : ∃ m, m = (upd M0 p_l_found (.lst vs_l_found)) := ⟨_, rfl⟩
      rw [← eM] at ok hs hB hp_l_found
      clear eM
      obtain ⟨t1, e_t1, hm⟩ := bs hm
      obtain ⟨t2, e_t2, hm⟩ := bs hm
      obtain ⟨fin3, e_fin3, hm⟩ := bs hm
      have hmo6 := hm
      refine q_forO (ea := Dat.int) (src_rngO e_t2 (ea_d (ev_callD (a := (a.2.2.1 + (1 : Int))) (r := t1.1) (z' := t1.2) hs e_t1 (ea_cons mo_ow (ev_own rfl) (ea_d (ev_add (ev_d (K := K) rfl (.int _)) (ev_int (K := K))) ea_nil))) ea_nil)) ok (fun (st4 : (List Dat) × Sto) σ1 G1 M1 => ∃ (y_l_turn : Option V) (vs_l_found : List V), σ1 = [some (.ref s), some v_l_kit_here, some (.int a.2.1), some (.int a.2.2.1), some (.int a.2.2.2), some (.ref p_l_found), y_l_turn] ∧ (DqAll K G1 vs_l_found (st4.1.map id)) ∧ (M1 p_l_found = some (.lst vs_l_found)) ∧ (M1 s = some (sto st4.2)) ∧ (∀ a u, a ≠ s → M0 a = some u → M1 a = some u)) e_fin3 (fun G1 s1 => ⟨_, _, rfl, dpAll_up s1 _ hd_l_found, (up_ne n_l_found_l_store hp_l_found), upd_same, (hB_draw hB)⟩) (by rintro _ _ _ _ _ ⟨y_l_turn, vs_l_found, rfl, hd_l_found, hp_l_found, hs, hB⟩ s2; exact ⟨_, _, rfl, dpAll_up s2 _ hd_l_found, hp_l_found, hs, hB⟩) (fun x5 xv8 st4 st' σ1 G M H N hm hj s1 ok hv hN => ?_) (fun σ1 G M H s1 ok hj => ?_)
      · obtain ⟨y_l_turn, vs_l_found, rfl, hd_l_found, hp_l_found, hs, hB⟩ := hj
        have h_l_kit_here := dp_up s1 _ h_l_kit_here
        have sg := sg.trans s1
        have sl9 := Same.refl G
        refine gn ?_
        have h_l_turn := hv
        cases h_l_turn
        refine nrm (σ' := [some (.ref s), some v_l_kit_here, some (.int a.2.1), some (.int a.2.2.1), some (.int a.2.2.2), some (.ref p_l_found), some (.int x5)]) rfl ?_
        obtain ⟨t11, e_t11, hm⟩ := bs hm
        refine q_if (et_andG (c := t11.1) (M2 := upd M s (sto t11.2)) (et_test (ev_gt (ev_d (K := K) rfl (.int _)) (ev_int (K := K)))) (fun eb => by have e1 := cond_t eb e_t11; (obtain ⟨t10, e_t10, e1⟩ := bs e1); cases e1; exact (et_test (ev_eqI (ev_callD (a := (3 : Int)) (r := t10.1) (z' := t10.2) hs e_t10 (ea_cons mo_ow (ev_own rfl) (ea_d (ev_int (K := K)) ea_nil))) (ev_int (K := K))))) (fun eb => by have e1 := cond_f eb e_t11; cases e1; exact ⟨rfl, upd_back hs⟩)) ok (fun hb G H s1 ok => ?_) (fun hb G H s1 ok => ?_)
        · have hm := cond_t hb hm
          have h_l_kit_here := dp_up s1 _ h_l_kit_here
          have hd_l_found := dpAll_up s1 _ hd_l_found
          have sg := sg.trans s1
          have sl9 := sl9.trans s1
          have ok : Ok _ (upd M s (sto t11.2)) _ := ok
          have hs : (upd M s (sto t11.2)) s = some (sto t11.2) := upd_same
          have hB : ∀ a u, a ≠ s → M0 a = some u → (upd M s (sto t11.2)) a = some u := (hB_draw hB)
          have hp_l_found : (upd M s (sto t11.2)) p_l_found = some (.lst vs_l_found) := (up_ne n_l_found_l_store hp_l_found)
          obtain ⟨M, eM⟩ : ∃ m, m = (upd M s (sto t11.2)) := ⟨_, rfl⟩
          rw [← eM] at ok hs hB hp_l_found
          clear eM
          obtain ⟨t12, e_t12, hm⟩ := bs hm
          obtain ⟨t13, e_t13, hm⟩ := bs hm
          obtain ⟨t14, e_t14, hm⟩ := bs hm
          obtain ⟨hl_t14, ea_t14⟩ := appO_of e_t14
          refine q_append (ev_own rfl) (ea_d (ev_tup (ea_consD (ev_callD (a := (a.1, (a.2.1 - (1 : Int)), a.2.2.1, a.2.2.2)) (r := t12.1) (z' := t12.2) hs e_t12 (ea_cons mo_ow (ev_own rfl) (ea_d (ev_d (K := K) rfl h_l_kit_here) (ea_d (ev_sub (ev_d (K := K) rfl (.int _)) (ev_int (K := K))) (ea_d (ev_d (K := K) rfl (.int _)) (ea_d (ev_d (K := K) rfl (.int _)) ea_nil)))))) (ea_consD (ev_add (ev_int (K := K)) (ev_callD (a := a.2.2.2) (r := t13.1) (z' := t13.2) upd_same e_t13 (ea_cons mo_ow (ev_own rfl) (ea_d (ev_d (K := K) rfl (.int _)) ea_nil)))) (ea_nilD (K := K))))) ea_nil) hp_l_found (up_ne n_l_found_l_store (up_ne n_l_found_l_store hp_l_found)) (by rw [dpAll_len hd_l_found, List.length_map]; exact szlt hl_t14) ok (fun v G H s1 ok hv => ?_)
          have h_l_kit_here := dp_up s1 _ h_l_kit_here
          have hd_l_found := dpAll_up s1 _ hd_l_found
          have sg := sg.trans s1
          have sl9 := sl9.trans s1
          have hd_l_found : DqAll K G (vs_l_found ++ [v]) (t14.map id) := by rw [ea_t14, List.map_append]; exact dpAll_app hd_l_found (.cons hv .nil)
          have ok : Ok _ (upd (upd (upd M s (sto t12.2)) s (sto t13.2)) p_l_found (.lst (vs_l_found ++ [v]))) _ := ok
          have hs : (upd (upd (upd M s (sto t12.2)) s (sto t13.2)) p_l_found (.lst (vs_l_found ++ [v]))) s = some (sto t13.2) := (up_ne n_l_store_l_found upd_same)
          have hB : ∀ a u, a ≠ s → M0 a = some u → (upd (upd (upd M s (sto t12.2)) s (sto t13.2)) p_l_found (.lst (vs_l_found ++ [v]))) a = some u := (hB_own (hB_draw (hB_draw hB)) h0_l_found)
          have hp_l_found : (upd (upd (upd M s (sto t12.2)) s (sto t13.2)) p_l_found (.lst (vs_l_found ++ [v]))) p_l_found = some (.lst (vs_l_found ++ [v])) := upd_same
          obtain ⟨M, eM⟩ : ∃ m, m = (upd (upd (upd M s (sto t12.2)) s (sto t13.2)) p_l_found (.lst (vs_l_found ++ [v]))) := ⟨_, rfl⟩
          rw [← eM] at ok hs hB hp_l_found
          clear eM
          obtain ⟨vs_l_found, e_vs⟩ : ∃ m, m = (vs_l_found ++ [v]) := ⟨_, rfl⟩
          rw [← e_vs] at hp_l_found hd_l_found
          clear e_vs
          refine q_nilU ?_
          refine q_nil ?_
          cases hm
          exact hN _ _ _ _ sl9 ok ⟨_, _, rfl, hd_l_found, hp_l_found, hs, hB⟩
        · have hm := cond_f hb hm
          have h_l_kit_here := dp_up s1 _ h_l_kit_here
          have hd_l_found := dpAll_up s1 _ hd_l_found
          have sg := sg.trans s1
          have sl9 := sl9.trans s1
          have ok : Ok _ (upd M s (sto t11.2)) _ := ok
          have hs : (upd M s (sto t11.2)) s = some (sto t11.2) := upd_same
          have hB : ∀ a u, a ≠ s → M0 a = some u → (upd M s (sto t11.2)) a = some u := (hB_draw hB)
          have hp_l_found : (upd M s (sto t11.2)) p_l_found = some (.lst vs_l_found) := (up_ne n_l_found_l_store hp_l_found)
          obtain ⟨M, eM⟩ : ∃ m, m = (upd M s (sto t11.2)) := ⟨_, rfl⟩
          rw [← eM] at ok hs hB hp_l_found
          clear eM
          obtain ⟨t15, e_t15, hm⟩ := bs hm
          obtain ⟨t16, e_t16, hm⟩ := bs hm
          obtain ⟨t17, e_t17, hm⟩ := bs hm
          obtain ⟨hl_t17, ea_t17⟩ := appO_of e_t17
          refine q_append (ev_own rfl) (ea_d (ev_ixT (d := Dat.str t16.1) rfl (ev_ixTM (e := (eP2 Dat.str Dat.int)) e_t16 (ev_ixT (d := (eT (eP2 Dat.str Dat.int)) a.1.1) rfl (ev_d (K := K) rfl h_l_kit_here) ev_int) (ev_callD (a := (a.1.1.length : Int)) (r := t15.1) (z' := t15.2) hs e_t15 (ea_cons mo_ow (ev_own rfl) (ea_d (ev_lenTM (e := (eP2 Dat.str Dat.int)) (ea_d (ev_ixT (d := (eT (eP2 Dat.str Dat.int)) a.1.1) rfl (ev_d (K := K) rfl h_l_kit_here) ev_int) ea_nil)) ea_nil)))) ev_int) ea_nil) hp_l_found (up_ne n_l_found_l_store hp_l_found) (by rw [dpAll_len hd_l_found, List.length_map]; exact szlt hl_t17) ok (fun v G H s1 ok hv => ?_)
          have h_l_kit_here := dp_up s1 _ h_l_kit_here
          have hd_l_found := dpAll_up s1 _ hd_l_found
          have sg := sg.trans s1
          have sl9 := sl9.trans s1
          have hd_l_found : DqAll K G (vs_l_found ++ [v]) (t17.map id) := by rw [ea_t17, List.map_append]; exact dpAll_app hd_l_found (.cons hv .nil)
          have ok : Ok _ (upd (upd M s (sto t15.2)) p_l_found (.lst (vs_l_found ++ [v]))) _ := ok
          have hs : (upd (upd M s (sto t15.2)) p_l_found (.lst (vs_l_found ++ [v]))) s = some (sto t15.2) := (up_ne n_l_store_l_found upd_same)
          have hB : ∀ a u, a ≠ s → M0 a = some u → (upd (upd M s (sto t15.2)) p_l_found (.lst (vs_l_found ++ [v]))) a = some u := (hB_own (hB_draw hB) h0_l_found)
          have hp_l_found : (upd (upd M s (sto t15.2)) p_l_found (.lst (vs_l_found ++ [v]))) p_l_found = some (.lst (vs_l_found ++ [v])) := upd_same
          obtain ⟨M, eM⟩ : ∃ m, m = (upd (upd M s (sto t15.2)) p_l_found (.lst (vs_l_found ++ [v]))) := ⟨_, rfl⟩
          rw [← eM] at ok hs hB hp_l_found
          clear eM
          obtain ⟨vs_l_found, e_vs⟩ : ∃ m, m = (vs_l_found ++ [v]) := ⟨_, rfl⟩
          rw [← e_vs] at hp_l_found hd_l_found
          clear e_vs
          refine q_nilU ?_
          refine q_nil ?_
          cases hm
          exact hN _ _ _ _ sl9 ok ⟨_, _, rfl, hd_l_found, hp_l_found, hs, hB⟩
      · obtain ⟨y_l_turn, vs_l_found, rfl, hd_l_found, hp_l_found, hs, hB⟩ := hj
        have h_l_kit_here := dp_up s1 _ h_l_kit_here
        have sg := sg.trans s1
        refine q_ret (ev_tupO hp_l_found hd_l_found (ea_cons mo_ow (ev_own rfl) ea_nil)) ok (fun v G H s1 ok hv => ?_)
        have sg := sg.trans s1
        cases hm
        exact q v G H sg (ok.less (same_fin hB hs)) hv
/-! ### _law_is_times -/
theorem sc__law_is_times : FnScope ["_law_item"] ["_law_item"] (defScope s__law_is_times) := ⟨rfl, rfl, rfl, by decide +kernel, rfl, by decide +kernel, by decide +kernel⟩
def a__law_is_times (K : PySem.W.Frag) (a : Dat) : List V → Hp → Prop := conP (DD K (id a)) (nilP)
def m__law_is_times (a : Dat) : Option Bool :=
  (isO1 "Peal" isI a).bind fun t1 => (cond t1 ((isO1 "Peal" isB a).bind fun t2 => (cond (!t2) ((powO (10 : Int) (30 : Int)).bind fun t3 => (intD a).bind fun t4 => some ((decide ((1 : Int) ≤ t4)) && (decide (t4 ≤ t3)))) (some false)).bind fun t5 => some t5) (some false)).bind fun t6 => some t6
abbrev sp__law_is_times (K : PySem.W.Frag) : Sp := spP (a__law_is_times K) (m__law_is_times) fun r => DD K (Dat.bool r)
theorem ok__law_is_times {P : Program} {w : World} {K : PySem.W.Frag} {mg : Str → Option Value} {base : Heap} (T : Txt K mg) : FnOk P w K mg base CX0 (1) T.a__law_is_times T.d__law_is_times ["_law_item"] (sp__law_is_times K) := by
  refine T.F__law_is_times.ok sc__law_is_times (fun vs H Q E h => ?_) (fun cdv A outer s0 H vs Q E hr h => ?_)
  · obtain ⟨G, M0, a, r, ok, ⟨v_l_item, _, rfl, h_l_item, rfl⟩, hm, q⟩ := h
    rfl
  · obtain ⟨G, M0, a, r, ok, ⟨v_l_item, _, rfl, h_l_item, rfl⟩, hm, q⟩ := h
    unfold m__law_is_times at hm
    have sg := Same.refl G
    have hB := Same.refl M0
    refine ⟨_, (pss_cons (ps_ret (pe_and (pe_callB (call_isiKK (K := K)) (by rfl) T.n_isinstance (by decide +kernel) (pa_cons (pv 0) (pa_cons (pe_bltn (v := .ty "int") (by rfl) T.n_int (by decide +kernel) rfl) pa_nil))) (pe_and (pe_not (pe_callB (call_isiKK (K := K)) (by rfl) T.n_isinstance (by decide +kernel) (pa_cons (pv 0) (pa_cons (pe_bltn (v := .ty "bool") (by rfl) T.n_bool (by decide +kernel) rfl) pa_nil)))) (pe_one (pe_chain op_le op_le pe_int (pv 0) (pe_op op_pow pe_int pe_int)))))) pss_nil), ?_⟩
    refine nrm (σ' := [some v_l_item]) rfl ?_
    obtain ⟨t1, e_t1, hm⟩ := bs hm
    obtain ⟨t6, e_t6, hm⟩ := bs hm
    refine q_ret (ev_andG (c := t6) (ev_isiD1 isc_I isn_I T.co_Peal (kn_I T.cn_Peal) e_t1 (ea_d (ev_d (K := K) rfl h_l_item) (ea_cons mo_cls ev_cls ea_nil))) (fun eb => by have e1 := cond_t eb e_t6; (obtain ⟨t2, e_t2, e1⟩ := bs e1); (obtain ⟨t5, e_t5, e1⟩ := bs e1); (have e1 := Option.some.inj e1); subst e1; exact (ev_andG (c := t5) (ev_not (ev_isiD1 isc_B isn_B T.co_Peal (kn_B T.cn_Peal) e_t2 (ea_d (ev_d (K := K) rfl h_l_item) (ea_cons mo_cls ev_cls ea_nil)))) (fun eb => by have e1 := cond_t eb e_t5; (obtain ⟨t3, e_t3, e1⟩ := bs e1); (obtain ⟨t4, e_t4, e1⟩ := bs e1); (have e1 := Option.some.inj e1); subst e1; exact (ev_chainI (ev_int (K := K)) (ev_intD e_t4 (ev_d (K := K) rfl h_l_item)) (ev_powO e_t3 (ev_int (K := K)) (ev_int (K := K))))) (fun eb => by have e1 := cond_f eb e_t5; cases e1; exact ⟨rfl, rfl⟩))) (fun eb => by have e1 := cond_f eb e_t6; cases e1; exact ⟨rfl, rfl⟩)) ok (fun v G H s1 ok hv => ?_)
    have sg := sg.trans s1
    cases hm
    exact q v G H sg (ok.less hB) hv
/-! ### _law_parts_in -/
theorem sc__law_parts_in : FnScope ["_law_kit_here", "_law_item", "_law_within", "_law_calls_here", "_law_many", "_law_part", "_law_inner", "_law_bell"] ["_law_kit_here", "_law_item", "_law_within"] (defScope s__law_parts_in) := ⟨rfl, rfl, rfl, by decide +kernel, rfl, by decide +kernel, by decide +kernel⟩
def a__law_parts_in (K : PySem.W.Frag) (a : ((List (Str × Int)) × (List (Str × Str × Int))) × Dat × Int) : List V → Hp → Prop := conP (DD K ((eP2 (eT (eP2 Dat.str Dat.int)) (eT (eP3 Dat.str Dat.str Dat.int))) a.1)) (conP (DD K (id a.2.1)) (conP (DD K (Dat.int a.2.2)) (nilP)))
def m__law_parts_in : Nat → (((List (Str × Int)) × (List (Str × Str × Int))) × Dat × Int) → Option Int
  | 0, _ => none
  | n + 1, a => (isO1 "Peal" isT a.2.1).bind fun t1 => cond ((!t1) || (decide ((5 : Int) < a.2.2))) (some ((0 : Int) - (1 : Int))) ((lcO (fun x2 : (Str × Int) => some x2.1) a.1.1).bind fun t8 => (tupD a.2.1).bind fun t9 => (forR (R := Int) (fun (st11 : Int) (x12 : Dat) => (isO1 "Peal" isS x12).bind fun t17 => (cond t17 ((strD x12).bind fun t18 => some (memB t18 t8)) (some false)).bind fun t19 => cond t19 (some (.inl (st11 + (1 : Int)))) ((isO1 "Peal" isT x12).bind fun t20 => (cond t20 ((lenD x12).bind fun t21 => (cond (decide (t21 = (2 : Int))) ((atD x12 (1 : Int)).bind fun t22 => (m__law_is_times t22).bind fun t23 => some t23) (some false)).bind fun t24 => some t24) (some false)).bind fun t25 => cond t25 ((atD x12 (0 : Int)).bind fun t26 => (m__law_parts_in n (a.1, t26, (a.2.2 + (1 : Int)))).bind fun t27 => cond (decide (t27 < (0 : Int))) (some (.inr ((0 : Int) - (1 : Int)))) (some (.inl ((st11 + (1 : Int)) + t27)))) (some (.inr ((0 : Int) - (1 : Int)))))) t9 (0 : Int)).bind fun fin10 => orR fin10 (fun fin10s => some fin10s) (fun r => some r))
abbrev sp__law_parts_in (K : PySem.W.Frag) (n : Nat) : Sp := spP (a__law_parts_in K) (m__law_parts_in n) fun r => DD K (Dat.int r)
theorem ok__law_parts_in {P : Program} {w : World} {K : PySem.W.Frag} {mg : Str → Option Value} {base : Heap} (T : Txt K mg) (O__law_is_times : FnOk P w K mg base CX0 1 T.a__law_is_times T.d__law_is_times ["_law_item"] (sp__law_is_times K)) : ∀ n : Nat, FnOk P w K mg base CX0 (n + 2) T.a__law_parts_in T.d__law_parts_in ["_law_kit_here", "_law_item", "_law_within"] (sp__law_parts_in K n)
  | 0 => by
    refine T.F__law_parts_in.ok sc__law_parts_in (fun vs H Q E h => ?_) (fun cdv A outer s0 H vs Q E hr h => ?_)
    · obtain ⟨G, M0, a, r, ok, ⟨v_l_kit_here, _, rfl, h_l_kit_here, v_l_item, _, rfl, h_l_item, v_l_within, _, rfl, h_l_within, rfl⟩, hm, q⟩ := h
      unfold m__law_parts_in at hm
      cases hm
    · obtain ⟨G, M0, a, r, ok, ⟨v_l_kit_here, _, rfl, h_l_kit_here, v_l_item, _, rfl, h_l_item, v_l_within, _, rfl, h_l_within, rfl⟩, hm, q⟩ := h
      unfold m__law_parts_in at hm
      cases hm
  | n + 1 => by
    have O__law_parts_in := ok__law_parts_in (P := P) (w := w) (base := base) T O__law_is_times n
    refine T.F__law_parts_in.ok sc__law_parts_in (fun vs H Q E h => ?_) (fun cdv A outer s0 H vs Q E hr h => ?_)
    · obtain ⟨G, M0, a, r, ok, ⟨v_l_kit_here, _, rfl, h_l_kit_here, v_l_item, _, rfl, h_l_item, v_l_within, _, rfl, h_l_within, rfl⟩, hm, q⟩ := h
      rfl
    · obtain ⟨G, M0, a, r, ok, ⟨v_l_kit_here, _, rfl, h_l_kit_here, v_l_item, _, rfl, h_l_item, v_l_within, _, rfl, h_l_within, rfl⟩, hm, q⟩ := h
      unfold m__law_parts_in at hm
      have sg := Same.refl G
      have hB := Same.refl M0
      refine ⟨_, (pss_cons (ps_if (PW.pt (pw_or (pt_not (pt_val (pe_callB (call_isiKK (K := K)) (by rfl) T.n_isinstance (by decide +kernel) (pa_cons (pv 1) (pa_cons (pe_bltn (v := .ty "tuple") (by rfl) T.n_tuple (by decide +kernel) rfl) pa_nil))))) (pw_or1 (pt_cmpR op_gt (pv 2) pe_int (nomark _))))) (pss_cons (ps_ret (pe_op op_sub pe_int pe_int)) pss_nil) pss_nil) (pss_cons (ps_par (i := 3) (j := 4) rfl sc__law_parts_in.nd rfl rfl (by decide) rfl rfl (pa_cons (pe_lc (own := [("_law_bell", 7)]) (g := (gName 7)) (tt := tYes) rfl sc__law_parts_in.nd (pi_tupK (K := K) (pe_ix (ix_tupK (K := K)) (pv 0) pe_int (fun _ _ => rfl))) (blkOk_by (own := [("_law_bell", 7)]) (N := ["_law_kit_here", "_law_item", "_law_within", "_law_calls_here", "_law_many", "_law_part", "_law_inner", "_law_bell"]) (sc := defScope s__law_parts_in) (by decide +kernel)) (fun _ _ _ _ _ => (pg_name (i := 7) sc__law_parts_in.nd rfl (by first | exact .inl rfl | exact .inr rfl))) (fun _ _ _ _ _ => pts_nil) (fun _ _ _ _ _ => (pe_ix (ix_tupK (K := K)) (pv 7) pe_int (fun _ _ => rfl)))) (pa_cons pe_int pa_nil)) (by rfl)) (pss_cons (ps_for PassesOwn.never rfl (pi_tupK (K := K) (pv 1)) (pg_name (i := 5) sc__law_parts_in.nd rfl (.inl rfl)) (pss_cons (ps_if (PW.pt (pw_and (pt_val (pe_callB (call_isiKK (K := K)) (by rfl) T.n_isinstance (by decide +kernel) (pa_cons (pv 5) (pa_cons (pe_bltn (v := .ty "str") (by rfl) T.n_str (by decide +kernel) rfl) pa_nil)))) (pw_and1 (pt_cmpR (op_inSK (K := K)) (pv 5) (pv 3) (by rfl))))) (pss_cons (ps_set (i := 4) sc__law_parts_in.nd rfl (.inl rfl) (pe_op op_add (pv 4) pe_int)) pss_nil) (pss_cons (ps_if (PW.pt (pw_and (pt_val (pe_callB (call_isiKK (K := K)) (by rfl) T.n_isinstance (by decide +kernel) (pa_cons (pv 5) (pa_cons (pe_bltn (v := .ty "tuple") (by rfl) T.n_tuple (by decide +kernel) rfl) pa_nil)))) (pw_and (pt_cmpR op_eq (pe_callB (cl_lenK (K := K)) (by rfl) T.n_len (by decide +kernel) (pa_cons (pv 5) pa_nil)) pe_int (nomark _)) (pw_and1 (pt_val (pe_call O__law_is_times (hr.mono (by omega)) (by rfl) T.g__law_is_times T.F__law_is_times.kp T.b__law_is_times .nil pass0 (pa_cons (pe_ix (ix_seqK (K := K)) (pv 5) pe_int (fun _ _ => rfl)) pa_nil))))))) (pss_cons (ps_set (i := 6) sc__law_parts_in.nd rfl (.inl rfl) (pe_call O__law_parts_in (hr.mono (by omega)) (by rfl) T.g__law_parts_in T.F__law_parts_in.kp T.b__law_parts_in .nil pass0 (pa_cons (pv 0) (pa_cons (pe_ix (ix_seqK (K := K)) (pv 5) pe_int (fun _ _ => rfl)) (pa_cons (pe_op op_add (pv 2) pe_int) pa_nil))))) (pss_cons (ps_if (pt_cmpR op_lt (pv 6) pe_int (nomark _)) (pss_cons (ps_ret (pe_op op_sub pe_int pe_int)) pss_nil) pss_nil) (pss_cons (ps_set (i := 4) sc__law_parts_in.nd rfl (.inl rfl) (pe_op op_add (pe_op op_add (pv 4) pe_int) (pv 6))) pss_nil))) (pss_cons (ps_ret (pe_op op_sub pe_int pe_int)) pss_nil)) pss_nil)) pss_nil)) (pss_cons (ps_ret (pv 4)) pss_nil)))), ?_⟩
      cases h_l_within
      refine nrm (σ' := [some v_l_kit_here, some v_l_item, some (.int a.2.2), none, none, none, none, none]) rfl ?_
      obtain ⟨t1, e_t1, hm⟩ := bs hm
      refine q_if (et_or (et_not (et_B (ev_isiD1 isc_T isn_T T.co_Peal (kn_T T.cn_Peal) e_t1 (ea_d (ev_d (K := K) rfl h_l_item) (ea_cons mo_cls ev_cls ea_nil))))) fun _ => (et_test (ev_gt (ev_d (K := K) rfl (.int _)) (ev_int (K := K))))) ok (fun hb G H s1 ok => ?_) (fun hb G H s1 ok => ?_)
      · have hm := cond_t hb hm
        have h_l_kit_here := dp_up s1 _ h_l_kit_here
        have h_l_item := dp_up s1 _ h_l_item
        have sg := sg.trans s1
        refine q_ret (ev_sub (ev_int (K := K)) (ev_int (K := K))) ok (fun v G H s1 ok hv => ?_)
        have sg := sg.trans s1
        cases hm
        exact q v G H sg (ok.less hB) hv
      · have hm := cond_f hb hm
        have h_l_kit_here := dp_up s1 _ h_l_kit_here
        have h_l_item := dp_up s1 _ h_l_item
        have sg := sg.trans s1
        refine q_nilU ?_
        obtain ⟨t8, e_t8, hm⟩ := bs hm
        refine q_par (σ' := fun v w => [some v_l_kit_here, some v_l_item, some (.int a.2.2), some v, some w, none, none, none]) (ea_d (EvL.ev (el_lcM (ea := (eP2 Dat.str Dat.int)) (eb := Dat.str) (xs := a.1.1) (ys := t8) (hf := e_t8) (src_tup (ev_ixT (d := (eT (eP2 Dat.str Dat.int)) a.1.1) rfl (ev_d (K := K) rfl h_l_kit_here) ev_int)) (fun x2 _ Mx6 _ _ he7 sM5 sG4 hv3 => by cases he7; exact (tg_name ⟨rfl, (ev_ixT (d := Dat.str x2.1) rfl (ev_d (K := K) rfl hv3) ev_int)⟩)))) (ea_d (ev_int (K := K)) ea_nil)) ok (fun _ _ => rfl) (fun v_l_calls_here v_l_many G H s1 ok h_l_calls_here h_l_many => ?_)
        have h_l_kit_here := dp_up s1 _ h_l_kit_here
        have h_l_item := dp_up s1 _ h_l_item
        have sg := sg.trans s1
        cases h_l_many
        obtain ⟨t9, e_t9, hm⟩ := bs hm
        obtain ⟨fin10, e_fin10, hm⟩ := bs hm
        have hmo13 := hm
        refine q_forR (ea := id) (src_tup (ev_tupD e_t9 (ev_d (K := K) rfl h_l_item))) ok (fun (st11 : Int) σ1 G1 M1 => ∃ (y_l_inner : Option V) (y_l_part : Option V), σ1 = [some v_l_kit_here, some v_l_item, some (.int a.2.2), some v_l_calls_here, some (.int st11), y_l_part, y_l_inner, none] ∧ (Same M0 M1)) e_fin10 (fun G1 s1 => ⟨_, _, rfl, hB⟩) (by rintro _ _ _ _ _ ⟨y_l_inner, y_l_part, rfl, hB⟩ s2; exact ⟨_, _, rfl, hB⟩) (fun x12 xv15 st11 st' σ1 G M H N hm hret14 hj s1 ok hv hN => ?_) (fun fin10s σ1 G M H hfin s1 ok hj => ?_)
        · obtain ⟨y_l_inner, y_l_part, rfl, hB⟩ := hj
          have h_l_kit_here := dp_up s1 _ h_l_kit_here
          have h_l_item := dp_up s1 _ h_l_item
          have h_l_calls_here := dp_up s1 _ h_l_calls_here
          have sg := sg.trans s1
          have sl16 := Same.refl G
          refine gn ?_
          have h_l_part := hv
          refine nrm (σ' := [some v_l_kit_here, some v_l_item, some (.int a.2.2), some v_l_calls_here, some (.int st11), some xv15, y_l_inner, none]) rfl ?_
          obtain ⟨t17, e_t17, hm⟩ := bs hm
          obtain ⟨t19, e_t19, hm⟩ := bs hm
          refine q_if (et_andG (c := t19) (et_B (ev_isiD1 isc_S isn_S T.co_Peal (kn_S T.cn_Peal) e_t17 (ea_d (ev_d (K := K) rfl h_l_part) (ea_cons mo_cls ev_cls ea_nil)))) (fun eb => by have e1 := cond_t eb e_t19; (obtain ⟨t18, e_t18, e1⟩ := bs e1); (have e1 := Option.some.inj e1); subst e1; exact (et_test (ev_inS (k := false) (xs := t8) (ev_strD e_t18 (ev_d (K := K) rfl h_l_part)) (ev_d (K := K) rfl h_l_calls_here)))) (fun eb => by have e1 := cond_f eb e_t19; cases e1; exact ⟨rfl, rfl⟩)) ok (fun hb G H s1 ok => ?_) (fun hb G H s1 ok => ?_)
          · have hm := cond_t hb hm
            have h_l_kit_here := dp_up s1 _ h_l_kit_here
            have h_l_item := dp_up s1 _ h_l_item
            have h_l_calls_here := dp_up s1 _ h_l_calls_here
            have h_l_part := dp_up s1 _ h_l_part
            have sg := sg.trans s1
            have sl16 := sl16.trans s1
            refine q_set (σ' := fun v => [some v_l_kit_here, some v_l_item, some (.int a.2.2), some v_l_calls_here, some v, some xv15, y_l_inner, none]) (ev_add (ev_d (K := K) rfl (.int _)) (ev_int (K := K))) ok (fun _ => rfl) (fun v_l_many G H s1 ok h_l_many => ?_)
            have h_l_kit_here := dp_up s1 _ h_l_kit_here
            have h_l_item := dp_up s1 _ h_l_item
            have h_l_calls_here := dp_up s1 _ h_l_calls_here
            have h_l_part := dp_up s1 _ h_l_part
            have sg := sg.trans s1
            have sl16 := sl16.trans s1
            cases h_l_many
            refine q_nilU ?_
            refine q_nil ?_
            cases hm
            exact hN _ _ _ _ _ rfl sl16 ok ⟨_, _, rfl, hB⟩
          · have hm := cond_f hb hm
            have h_l_kit_here := dp_up s1 _ h_l_kit_here
            have h_l_item := dp_up s1 _ h_l_item
            have h_l_calls_here := dp_up s1 _ h_l_calls_here
            have h_l_part := dp_up s1 _ h_l_part
            have sg := sg.trans s1
            have sl16 := sl16.trans s1
            obtain ⟨t20, e_t20, hm⟩ := bs hm
            obtain ⟨t25, e_t25, hm⟩ := bs hm
            refine q_if (et_andG (c := t25) (et_B (ev_isiD1 isc_T isn_T T.co_Peal (kn_T T.cn_Peal) e_t20 (ea_d (ev_d (K := K) rfl h_l_part) (ea_cons mo_cls ev_cls ea_nil)))) (fun eb => by have e1 := cond_t eb e_t25; (obtain ⟨t21, e_t21, e1⟩ := bs e1); (obtain ⟨t24, e_t24, e1⟩ := bs e1); (have e1 := Option.some.inj e1); subst e1; exact (et_andG (c := t24) (et_test (ev_eqI (ev_lenD e_t21 (ea_d (ev_d (K := K) rfl h_l_part) ea_nil)) (ev_int (K := K)))) (fun eb => by have e1 := cond_t eb e_t24; (obtain ⟨t22, e_t22, e1⟩ := bs e1); (obtain ⟨t23, e_t23, e1⟩ := bs e1); (have e1 := Option.some.inj e1); subst e1; exact (et_B (ev_callP (res := fun r => DD K (Dat.bool r)) (a := t22) e_t23 (ea_d (ev_ixD e_t22 (ev_d (K := K) rfl h_l_part) (ev_int (K := K))) ea_nil)))) (fun eb => by have e1 := cond_f eb e_t24; cases e1; exact ⟨rfl, rfl⟩))) (fun eb => by have e1 := cond_f eb e_t25; cases e1; exact ⟨rfl, rfl⟩)) ok (fun hb G H s1 ok => ?_) (fun hb G H s1 ok => ?_)
            · have hm := cond_t hb hm
              have h_l_kit_here := dp_up s1 _ h_l_kit_here
              have h_l_item := dp_up s1 _ h_l_item
              have h_l_calls_here := dp_up s1 _ h_l_calls_here
              have h_l_part := dp_up s1 _ h_l_part
              have sg := sg.trans s1
              have sl16 := sl16.trans s1
              obtain ⟨t26, e_t26, hm⟩ := bs hm
              obtain ⟨t27, e_t27, hm⟩ := bs hm
              refine q_set (σ' := fun v => [some v_l_kit_here, some v_l_item, some (.int a.2.2), some v_l_calls_here, some (.int st11), some xv15, some v, none]) (ev_callP (res := fun r => DD K (Dat.int r)) (a := (a.1, t26, (a.2.2 + (1 : Int)))) e_t27 (ea_d (ev_d (K := K) rfl h_l_kit_here) (ea_d (ev_ixD e_t26 (ev_d (K := K) rfl h_l_part) (ev_int (K := K))) (ea_d (ev_add (ev_d (K := K) rfl (.int _)) (ev_int (K := K))) ea_nil)))) ok (fun _ => rfl) (fun v_l_inner G H s1 ok h_l_inner => ?_)
              have h_l_kit_here := dp_up s1 _ h_l_kit_here
              have h_l_item := dp_up s1 _ h_l_item
              have h_l_calls_here := dp_up s1 _ h_l_calls_here
              have h_l_part := dp_up s1 _ h_l_part
              have sg := sg.trans s1
              have sl16 := sl16.trans s1
              cases h_l_inner
              refine q_if (et_test (ev_lt (ev_d (K := K) rfl (.int _)) (ev_int (K := K)))) ok (fun hb G H s1 ok => ?_) (fun hb G H s1 ok => ?_)
              · have hm := cond_t hb hm
                have h_l_kit_here := dp_up s1 _ h_l_kit_here
                have h_l_item := dp_up s1 _ h_l_item
                have h_l_calls_here := dp_up s1 _ h_l_calls_here
                have h_l_part := dp_up s1 _ h_l_part
                have sg := sg.trans s1
                have sl16 := sl16.trans s1
                refine q_ret (ev_sub (ev_int (K := K)) (ev_int (K := K))) ok (fun v G H s1 ok hv => ?_)
                have sg := sg.trans s1
                cases hm
                have hf0 := hret14 _ rfl
                rw [hf0] at hmo13
                have hmx0 := hmo13
                cases hmx0
                exact q v G H sg (ok.less hB) hv
              · have hm := cond_f hb hm
                have h_l_kit_here := dp_up s1 _ h_l_kit_here
                have h_l_item := dp_up s1 _ h_l_item
                have h_l_calls_here := dp_up s1 _ h_l_calls_here
                have h_l_part := dp_up s1 _ h_l_part
                have sg := sg.trans s1
                have sl16 := sl16.trans s1
                refine q_nilU ?_
                refine q_set (σ' := fun v => [some v_l_kit_here, some v_l_item, some (.int a.2.2), some v_l_calls_here, some v, some xv15, some (.int t27), none]) (ev_add (ev_add (ev_d (K := K) rfl (.int _)) (ev_int (K := K))) (ev_d (K := K) rfl (.int _))) ok (fun _ => rfl) (fun v_l_many G H s1 ok h_l_many => ?_)
                have h_l_kit_here := dp_up s1 _ h_l_kit_here
                have h_l_item := dp_up s1 _ h_l_item
                have h_l_calls_here := dp_up s1 _ h_l_calls_here
                have h_l_part := dp_up s1 _ h_l_part
                have sg := sg.trans s1
                have sl16 := sl16.trans s1
                cases h_l_many
                refine q_nilU ?_
                refine q_nilU ?_
                refine q_nil ?_
                cases hm
                exact hN _ _ _ _ _ rfl sl16 ok ⟨_, _, rfl, hB⟩
            · have hm := cond_f hb hm
              have h_l_kit_here := dp_up s1 _ h_l_kit_here
              have h_l_item := dp_up s1 _ h_l_item
              have h_l_calls_here := dp_up s1 _ h_l_calls_here
              have h_l_part := dp_up s1 _ h_l_part
              have sg := sg.trans s1
              have sl16 := sl16.trans s1
              refine q_ret (ev_sub (ev_int (K := K)) (ev_int (K := K))) ok (fun v G H s1 ok hv => ?_)
              have sg := sg.trans s1
              cases hm
              have hf0 := hret14 _ rfl
              rw [hf0] at hmo13
              have hmx0 := hmo13
              cases hmx0
              exact q v G H sg (ok.less hB) hv
        · obtain ⟨y_l_inner, y_l_part, rfl, hB⟩ := hj
          have h_l_kit_here := dp_up s1 _ h_l_kit_here
          have h_l_item := dp_up s1 _ h_l_item
          have h_l_calls_here := dp_up s1 _ h_l_calls_here
          have sg := sg.trans s1
          rw [hfin] at hm
          have hm := orR_l hm
          refine q_ret (ev_d (K := K) rfl (.int _)) ok (fun v G H s1 ok hv => ?_)
          have sg := sg.trans s1
          cases hm
          exact q v G H sg (ok.less hB) hv
/-! ### _law_bent_part -/
theorem sc__law_bent_part : FnScope ["_law_store", "_law_part", "_law_call", "_law_some"] ["_law_store", "_law_part", "_law_call"] (defScope s__law_bent_part) := ⟨rfl, rfl, rfl, by decide +kernel, rfl, by decide +kernel, by decide +kernel⟩
def a__law_bent_part (K : PySem.W.Frag) (a : Dat × Str) : List V → Hp → Prop := conP (DD K (id a.1)) (conP (DD K (Dat.str a.2)) (nilP))
def m__law_bent_part (a : Dat × Str) (z : Sto) : Option (Dat × Sto) :=
  (upperO a.2).bind fun t1 => (catO ([(Dat.str (Str.ofString "zzzzzzz")), (Dat.str t1), (Dat.str (Str.ofString "")), (eN ()), (Dat.int (3 : Int)), (Dat.bool true), ((eL Dat.str) ([a.2] : (List Str))), ((eT Dat.str) ([a.2] : (List Str))), ((eP2 (eT Dat.str) Dat.int) (([a.2] : (List Str)), (0 : Int))), ((eP2 (eT Dat.str) Dat.int) (([a.2] : (List Str)), ((0 : Int) - (1 : Int))))] : (List Dat)) ([((eP2 (eT Dat.str) Dat.bool) (([a.2] : (List Str)), true))] : (List Dat))).bind fun t2 => (powO (10 : Int) (30 : Int)).bind fun t3 => (powO (10 : Int) (30 : Int)).bind fun t4 => (catO t2 ([((eP2 (eT Dat.str) Dat.int) (([a.2] : (List Str)), t3)), ((eP2 (eT Dat.str) Dat.int) (([a.2] : (List Str)), (t4 + (1 : Int)))), ((eP2 (eL Dat.str) Dat.int) (([a.2] : (List Str)), (2 : Int))), ((eP2 Dat.int (eT Dat.str)) ((3 : Int), ([a.2] : (List Str))))] : (List Dat))).bind fun t5 => (catO t5 ([((eP3 (eT Dat.str) Dat.int Dat.int) (([a.2] : (List Str)), (2 : Int), (2 : Int))), ((eP2 (eT id) Dat.int) ([], (5 : Int))), (Dat.str a.2)] : (List Dat))).bind fun t6 => (catO t6 ([((eP2 Dat.str Dat.int) (a.2, (2 : Int))), ((eP2 (eT id) Dat.int) (([a.1] : (List Dat)), (1 : Int))), ((eT (eP2 (eP2 id id) Dat.int)) ([((a.1, a.1), (1 : Int))] : (List ((Dat × Dat) × Int)))), ((eDS Dat.int) ([] : List (Str × Int))), ((eT (eP2 (eT Dat.str) Dat.str)) ([(([a.2] : (List Str)), (Str.ofString "2"))] : (List ((List Str) × Str)))), ((eP2 (eT Dat.str) eN) (([a.2] : (List Str)), ()))] : (List Dat))).bind fun t7 => (m__law_pull (24 : Int) z).bind fun t8 => (atI t7 t8.1).bind fun t9 => some (t9, t8.2)
abbrev sp__law_bent_part (K : PySem.W.Frag) : Sp := spD (a__law_bent_part K) (m__law_bent_part) fun r => DD K (id r)
theorem ok__law_bent_part {P : Program} {w : World} {K : PySem.W.Frag} {mg : Str → Option Value} {base : Heap} (T : Txt K mg) (O__law_pull : FnOk P w K mg base CX0 1 T.a__law_pull T.d__law_pull ["_law_store", "_law_many"] (sp__law_pull K)) : FnOk P w K mg base CX0 (2) T.a__law_bent_part T.d__law_bent_part ["_law_store", "_law_part", "_law_call"] (sp__law_bent_part K) := by
  refine T.F__law_bent_part.ok sc__law_bent_part (fun vs H Q E h => ?_) (fun cdv A outer s0 H vs Q E hr h => ?_)
  · obtain ⟨G, M0, s, z, z1, a, r, ws, rfl, ok, hs, ⟨v_l_part, _, rfl, h_l_part, v_l_call, _, rfl, h_l_call, rfl⟩, hm, q⟩ := h
    rfl
  · obtain ⟨G, M0, s, z, z1, a, r, ws, rfl, ok, hs, ⟨v_l_part, _, rfl, h_l_part, v_l_call, _, rfl, h_l_call, rfl⟩, hm, q⟩ := h
    unfold m__law_bent_part at hm
    have sg := Same.refl G
    have hB : ∀ a u, a ≠ s → M0 a = some u → M0 a = some u := fun _ _ _ h => h
    refine ⟨_, (pss_cons (ps_set (i := 3) sc__law_bent_part.nd rfl (.inl rfl) (pe_lst (pa_cons pe_str (pa_cons (pe_m0 PySem.F.slot_str_upper PySem.F.type_str_upper mt_upper (pv 2)) (pa_cons pe_str (pa_cons pe_non (pa_cons pe_int (pa_cons pe_bl (pa_cons (pe_lst (pa_cons (pv 2) pa_nil)) (pa_cons (pe_tupF (pa_cons (pv 2) pa_nil)) (pa_cons (pe_tupF (pa_cons (pe_tupF (pa_cons (pv 2) pa_nil)) (pa_cons pe_int pa_nil))) (pa_cons (pe_tupF (pa_cons (pe_tupF (pa_cons (pv 2) pa_nil)) (pa_cons (pe_op op_sub pe_int pe_int) pa_nil))) pa_nil)))))))))))) (pss_cons (ps_set (i := 3) sc__law_bent_part.nd rfl (.inl rfl) (pe_op op_cat (pv 3) (pe_lst (pa_cons (pe_tupF (pa_cons (pe_tupF (pa_cons (pv 2) pa_nil)) (pa_cons pe_bl pa_nil))) pa_nil)))) (pss_cons (ps_set (i := 3) sc__law_bent_part.nd rfl (.inl rfl) (pe_op op_cat (pv 3) (pe_lst (pa_cons (pe_tupF (pa_cons (pe_tupF (pa_cons (pv 2) pa_nil)) (pa_cons (pe_op op_pow pe_int pe_int) pa_nil))) (pa_cons (pe_tupF (pa_cons (pe_tupF (pa_cons (pv 2) pa_nil)) (pa_cons (pe_op op_add (pe_op op_pow pe_int pe_int) pe_int) pa_nil))) (pa_cons (pe_tupF (pa_cons (pe_lst (pa_cons (pv 2) pa_nil)) (pa_cons pe_int pa_nil))) (pa_cons (pe_tupF (pa_cons pe_int (pa_cons (pe_tupF (pa_cons (pv 2) pa_nil)) pa_nil))) pa_nil))))))) (pss_cons (ps_set (i := 3) sc__law_bent_part.nd rfl (.inl rfl) (pe_op op_cat (pv 3) (pe_lst (pa_cons (pe_tupF (pa_cons (pe_tupF (pa_cons (pv 2) pa_nil)) (pa_cons pe_int (pa_cons pe_int pa_nil)))) (pa_cons (pe_tupF (pa_cons (pe_tupF pa_nil) (pa_cons pe_int pa_nil))) (pa_cons (pv 2) pa_nil)))))) (pss_cons (ps_set (i := 3) sc__law_bent_part.nd rfl (.inl rfl) (pe_op op_cat (pv 3) (pe_lst (pa_cons (pe_tupF (pa_cons (pv 2) (pa_cons pe_int pa_nil))) (pa_cons (pe_tupF (pa_cons (pe_tupF (pa_cons (pv 1) pa_nil)) (pa_cons pe_int pa_nil))) (pa_cons (pe_tupF (pa_cons (pe_tupF (pa_cons (pe_tupF (pa_cons (pv 1) (pa_cons (pv 1) pa_nil))) (pa_cons pe_int pa_nil))) pa_nil)) (pa_cons pe_dnewK (pa_cons (pe_tupF (pa_cons (pe_tupF (pa_cons (pe_tupF (pa_cons (pv 2) pa_nil)) (pa_cons pe_str pa_nil))) pa_nil)) (pa_cons (pe_tupF (pa_cons (pe_tupF (pa_cons (pv 2) pa_nil)) (pa_cons pe_non pa_nil))) pa_nil))))))))) (pss_cons (ps_ret (pe_ix (ix_listK (K := K)) (pv 3) (pe_call O__law_pull (hr.mono (by decide)) (by rfl) T.g__law_pull T.F__law_pull.kp T.b__law_pull .nil pass0 (pa_cons (pv 0) (pa_cons pe_int pa_nil))) (fun _ _ => rfl))) pss_nil)))))), ?_⟩
    refine nrm (σ' := [some (.ref s), some v_l_part, some v_l_call, none]) rfl ?_
    obtain ⟨t1, e_t1, hm⟩ := bs hm
    refine q_set (σ' := fun v => [some (.ref s), some v_l_part, some v_l_call, some v]) (EvL.ev (el_lst (ea_consD (ev_str (K := K) (by decide +kernel)) (ea_consD (ev_upper e_t1 (ev_d (K := K) rfl h_l_call)) (ea_consD (ev_str (K := K) (by decide +kernel)) (ea_consD (ev_non (K := K)) (ea_consD (ev_int (K := K)) (ea_consD (ev_bl (K := K)) (ea_consD (EvL.ev (el_lst (ea_consD (ev_d (K := K) rfl h_l_call) (ea_nilD (K := K))))) (ea_consD (ev_tup (ea_consD (ev_d (K := K) rfl h_l_call) (ea_nilD (K := K)))) (ea_consD (ev_tup (ea_consD (ev_tup (ea_consD (ev_d (K := K) rfl h_l_call) (ea_nilD (K := K)))) (ea_consD (ev_int (K := K)) (ea_nilD (K := K))))) (ea_consD (ev_tup (ea_consD (ev_tup (ea_consD (ev_d (K := K) rfl h_l_call) (ea_nilD (K := K)))) (ea_consD (ev_sub (ev_int (K := K)) (ev_int (K := K))) (ea_nilD (K := K))))) (ea_nilD (K := K)))))))))))))) ok (fun _ => rfl) (fun v_l_some G H s1 ok h_l_some => ?_)
    have h_l_part := dp_up s1 _ h_l_part
    have h_l_call := dp_up s1 _ h_l_call
    have sg := sg.trans s1
    obtain ⟨t2, e_t2, hm⟩ := bs hm
    refine q_set (σ' := fun v => [some (.ref s), some v_l_part, some v_l_call, some v]) (EvL.ev (el_catO (e := id) e_t2 (ev_d (K := K) rfl h_l_some) (EvL.ev (el_lst (ea_consD (ev_tup (ea_consD (ev_tup (ea_consD (ev_d (K := K) rfl h_l_call) (ea_nilD (K := K)))) (ea_consD (ev_bl (K := K)) (ea_nilD (K := K))))) (ea_nilD (K := K))))))) ok (fun _ => rfl) (fun v_l_some G H s1 ok h_l_some => ?_)
    have h_l_part := dp_up s1 _ h_l_part
    have h_l_call := dp_up s1 _ h_l_call
    have sg := sg.trans s1
    obtain ⟨t3, e_t3, hm⟩ := bs hm
    obtain ⟨t4, e_t4, hm⟩ := bs hm
    obtain ⟨t5, e_t5, hm⟩ := bs hm
    refine q_set (σ' := fun v => [some (.ref s), some v_l_part, some v_l_call, some v]) (EvL.ev (el_catO (e := id) e_t5 (ev_d (K := K) rfl h_l_some) (EvL.ev (el_lst (ea_consD (ev_tup (ea_consD (ev_tup (ea_consD (ev_d (K := K) rfl h_l_call) (ea_nilD (K := K)))) (ea_consD (ev_powO e_t3 (ev_int (K := K)) (ev_int (K := K))) (ea_nilD (K := K))))) (ea_consD (ev_tup (ea_consD (ev_tup (ea_consD (ev_d (K := K) rfl h_l_call) (ea_nilD (K := K)))) (ea_consD (ev_add (ev_powO e_t4 (ev_int (K := K)) (ev_int (K := K))) (ev_int (K := K))) (ea_nilD (K := K))))) (ea_consD (ev_tup (ea_consD (EvL.ev (el_lst (ea_consD (ev_d (K := K) rfl h_l_call) (ea_nilD (K := K))))) (ea_consD (ev_int (K := K)) (ea_nilD (K := K))))) (ea_consD (ev_tup (ea_consD (ev_int (K := K)) (ea_consD (ev_tup (ea_consD (ev_d (K := K) rfl h_l_call) (ea_nilD (K := K)))) (ea_nilD (K := K))))) (ea_nilD (K := K)))))))))) ok (fun _ => rfl) (fun v_l_some G H s1 ok h_l_some => ?_)
    have h_l_part := dp_up s1 _ h_l_part
    have h_l_call := dp_up s1 _ h_l_call
    have sg := sg.trans s1
    obtain ⟨t6, e_t6, hm⟩ := bs hm
    refine q_set (σ' := fun v => [some (.ref s), some v_l_part, some v_l_call, some v]) (EvL.ev (el_catO (e := id) e_t6 (ev_d (K := K) rfl h_l_some) (EvL.ev (el_lst (ea_consD (ev_tup (ea_consD (ev_tup (ea_consD (ev_d (K := K) rfl h_l_call) (ea_nilD (K := K)))) (ea_consD (ev_int (K := K)) (ea_consD (ev_int (K := K)) (ea_nilD (K := K)))))) (ea_consD (ev_tup (ea_consD (ev_tup (ea_nilD (K := K))) (ea_consD (ev_int (K := K)) (ea_nilD (K := K))))) (ea_consD (ev_d (K := K) rfl h_l_call) (ea_nilD (K := K))))))))) ok (fun _ => rfl) (fun v_l_some G H s1 ok h_l_some => ?_)
    have h_l_part := dp_up s1 _ h_l_part
    have h_l_call := dp_up s1 _ h_l_call
    have sg := sg.trans s1
    obtain ⟨t7, e_t7, hm⟩ := bs hm
    refine q_set (σ' := fun v => [some (.ref s), some v_l_part, some v_l_call, some v]) (EvL.ev (el_catO (e := id) e_t7 (ev_d (K := K) rfl h_l_some) (EvL.ev (el_lst (ea_consD (ev_tup (ea_consD (ev_d (K := K) rfl h_l_call) (ea_consD (ev_int (K := K)) (ea_nilD (K := K))))) (ea_consD (ev_tup (ea_consD (ev_tup (ea_consD (ev_d (K := K) rfl h_l_part) (ea_nilD (K := K)))) (ea_consD (ev_int (K := K)) (ea_nilD (K := K))))) (ea_consD (ev_tup (ea_consD (ev_tup (ea_consD (ev_tup (ea_consD (ev_d (K := K) rfl h_l_part) (ea_consD (ev_d (K := K) rfl h_l_part) (ea_nilD (K := K))))) (ea_consD (ev_int (K := K)) (ea_nilD (K := K))))) (ea_nilD (K := K)))) (ea_consD (EvD.ev (ed_new (K := K) (e := Dat.int))) (ea_consD (ev_tup (ea_consD (ev_tup (ea_consD (ev_tup (ea_consD (ev_d (K := K) rfl h_l_call) (ea_nilD (K := K)))) (ea_consD (ev_str (K := K) (by decide +kernel)) (ea_nilD (K := K))))) (ea_nilD (K := K)))) (ea_consD (ev_tup (ea_consD (ev_tup (ea_consD (ev_d (K := K) rfl h_l_call) (ea_nilD (K := K)))) (ea_consD (ev_non (K := K)) (ea_nilD (K := K))))) (ea_nilD (K := K)))))))))))) ok (fun _ => rfl) (fun v_l_some G H s1 ok h_l_some => ?_)
    have h_l_part := dp_up s1 _ h_l_part
    have h_l_call := dp_up s1 _ h_l_call
    have sg := sg.trans s1
    obtain ⟨t8, e_t8, hm⟩ := bs hm
    obtain ⟨t9, e_t9, hm⟩ := bs hm
    refine q_ret (ev_ixLM (e := id) e_t9 (ev_d (K := K) rfl h_l_some) (ev_callD (a := (24 : Int)) (r := t8.1) (z' := t8.2) hs e_t8 (ea_cons mo_ow (ev_own rfl) (ea_d (ev_int (K := K)) ea_nil)))) ok (fun v G H s1 ok hv => ?_)
    have sg := sg.trans s1
    have ok : Ok _ (upd M0 s (sto t8.2)) _ := ok
    have hs : (upd M0 s (sto t8.2)) s = some (sto t8.2) := upd_same
    have hB : ∀ a u, a ≠ s → M0 a = some u → (upd M0 s (sto t8.2)) a = some u := (hB_draw hB)
    obtain ⟨M, eM⟩ : ∃ m, m = (upd M0 s (sto t8.2)) := ⟨_, rfl⟩
    rw [← eM] at ok hs hB
    clear eM
    cases hm
    exact q v G H sg (ok.less (same_fin hB hs)) hv
/-! ### _law_bent -/
theorem sc__law_bent : FnScope ["_law_store", "_law_tune_here", "_law_call", "_law_at", "_law_way", "_law_part"] ["_law_store", "_law_tune_here", "_law_call"] (defScope s__law_bent) := ⟨rfl, rfl, rfl, by decide +kernel, rfl, by decide +kernel, by decide +kernel⟩
def a__law_bent (K : PySem.W.Frag) (a : (List Dat) × Str) : List V → Hp → Prop := conP (DD K ((eT id) a.1)) (conP (DD K (Dat.str a.2)) (nilP))
def m__law_bent : Nat → ((List Dat) × Str) → Sto → Option (Dat × Sto)
  | 0, _, _ => none
  | n + 1, a, z => (m__law_pull ((a.1.length : Int) + (1 : Int)) z).bind fun t1 => (m__law_pull (6 : Int) t1.2).bind fun t2 => (eqDO ((eT id) a.1) ((eT id) ([] : (List Dat)))).bind fun t3 => cond (t3 || (decide (t1.1 = (a.1.length : Int)))) ((m__law_bent_part ((Dat.str a.2), a.2) t2.2).bind fun t4 => (catO (cut a.1 none (some t1.1)) ([t4.1] : (List Dat))).bind fun t5 => (catO t5 (cut a.1 (some t1.1) none)).bind fun t6 => some (((eT id) t6), t4.2)) ((atI a.1 t1.1).bind fun t7 => (cond (decide (t2.1 < (3 : Int))) ((isO1 "Peal" isT t7).bind fun t8 => some t8) (some false)).bind fun t9 => cond t9 ((atD t7 (0 : Int)).bind fun t10 => (tupD t10).bind fun t11 => (m__law_bent n (t11, a.2) t2.2).bind fun t12 => (atD t7 (1 : Int)).bind fun t13 => (catO (cut a.1 none (some t1.1)) ([((eP2 id id) (t12.1, t13))] : (List Dat))).bind fun t14 => (catO t14 (cut a.1 (some (t1.1 + (1 : Int))) none)).bind fun t15 => some (((eT id) t15), t12.2)) (cond (decide (t2.1 = (5 : Int))) ((catO a.1 ([((eT id) a.1)] : (List Dat))).bind fun t16 => (m__law_pull (4 : Int) t2.2).bind fun t17 => (atI ([((eL id) a.1), ((eT id) t16), ((eP2 (eT id) Dat.int) (a.1, (2 : Int))), ((eT id) a.1.reverse)] : (List Dat)) t17.1).bind fun t18 => some (t18, t17.2)) ((m__law_bent_part (t7, a.2) t2.2).bind fun t19 => (catO (cut a.1 none (some t1.1)) ([t19.1] : (List Dat))).bind fun t20 => (catO t20 (cut a.1 (some (t1.1 + (1 : Int))) none)).bind fun t21 => some (((eT id) t21), t19.2))))
abbrev sp__law_bent (K : PySem.W.Frag) (n : Nat) : Sp := spD (a__law_bent K) (m__law_bent n) fun r => DD K (id r)
theorem ok__law_bent {P : Program} {w : World} {K : PySem.W.Frag} {mg : Str → Option Value} {base : Heap} (T : Txt K mg) (O__law_pull : FnOk P w K mg base CX0 1 T.a__law_pull T.d__law_pull ["_law_store", "_law_many"] (sp__law_pull K)) (O__law_bent_part : FnOk P w K mg base CX0 2 T.a__law_bent_part T.d__law_bent_part ["_law_store", "_law_part", "_law_call"] (sp__law_bent_part K)) : ∀ n : Nat, FnOk P w K mg base CX0 (n + 3) T.a__law_bent T.d__law_bent ["_law_store", "_law_tune_here", "_law_call"] (sp__law_bent K n)
  | 0 => by
    refine T.F__law_bent.ok sc__law_bent (fun vs H Q E h => ?_) (fun cdv A outer s0 H vs Q E hr h => ?_)
    · obtain ⟨G, M0, s, z, z1, a, r, ws, rfl, ok, hs, ⟨v_l_tune_here, _, rfl, h_l_tune_here, v_l_call, _, rfl, h_l_call, rfl⟩, hm, q⟩ := h
      unfold m__law_bent at hm
      cases hm
    · obtain ⟨G, M0, s, z, z1, a, r, ws, rfl, ok, hs, ⟨v_l_tune_here, _, rfl, h_l_tune_here, v_l_call, _, rfl, h_l_call, rfl⟩, hm, q⟩ := h
      unfold m__law_bent at hm
      cases hm
  | n + 1 => by
    have O__law_bent := ok__law_bent (P := P) (w := w) (base := base) T O__law_pull O__law_bent_part n
    refine T.F__law_bent.ok sc__law_bent (fun vs H Q E h => ?_) (fun cdv A outer s0 H vs Q E hr h => ?_)
    · obtain ⟨G, M0, s, z, z1, a, r, ws, rfl, ok, hs, ⟨v_l_tune_here, _, rfl, h_l_tune_here, v_l_call, _, rfl, h_l_call, rfl⟩, hm, q⟩ := h
      rfl
    · obtain ⟨G, M0, s, z, z1, a, r, ws, rfl, ok, hs, ⟨v_l_tune_here, _, rfl, h_l_tune_here, v_l_call, _, rfl, h_l_call, rfl⟩, hm, q⟩ := h
      unfold m__law_bent at hm
      have sg := Same.refl G
      have hB : ∀ a u, a ≠ s → M0 a = some u → M0 a = some u := fun _ _ _ h => h
      refine ⟨_, (pss_cons (ps_par (i := 3) (j := 4) rfl sc__law_bent.nd rfl rfl (by decide) rfl rfl (pa_cons (pe_call O__law_pull (hr.mono (by omega)) (by rfl) T.g__law_pull T.F__law_pull.kp T.b__law_pull .nil pass0 (pa_cons (pv 0) (pa_cons (pe_op op_add (pe_callB (cl_lenK (K := K)) (by rfl) T.n_len (by decide +kernel) (pa_cons (pv 1) pa_nil)) pe_int) pa_nil))) (pa_cons (pe_call O__law_pull (hr.mono (by omega)) (by rfl) T.g__law_pull T.F__law_pull.kp T.b__law_pull .nil pass0 (pa_cons (pv 0) (pa_cons pe_int pa_nil))) pa_nil)) (by rfl)) (pss_cons (ps_if (PW.pt (pw_or (pt_cmpR (op_eqDK (K := K) hr.units) (pv 1) (pe_tupF pa_nil) (nomark _)) (pw_or1 (pt_cmpR op_eq (pv 3) (pe_callB (cl_lenK (K := K)) (by rfl) T.n_len (by decide +kernel) (pa_cons (pv 1) pa_nil)) (nomark _))))) (pss_cons (ps_ret (pe_op (op_catAK (K := K)) (pe_op (op_catAK (K := K)) (pe_slice (sl_tupK (K := K)) (pv 1) po_none (po_some (pv 3))) (pe_tupF (pa_cons (pe_call O__law_bent_part (hr.mono (by omega)) (by rfl) T.g__law_bent_part T.F__law_bent_part.kp T.b__law_bent_part .nil pass0 (pa_cons (pv 0) (pa_cons (pv 2) (pa_cons (pv 2) pa_nil)))) pa_nil))) (pe_slice (sl_tupK (K := K)) (pv 1) (po_some (pv 3)) po_none))) pss_nil) pss_nil) (pss_cons (ps_set (i := 5) sc__law_bent.nd rfl (.inl rfl) (pe_ix (ix_tupK (K := K)) (pv 1) (pv 3) (fun _ _ => rfl))) (pss_cons (ps_if (PW.pt (pw_and (pt_cmpR op_lt (pv 4) pe_int (nomark _)) (pw_and1 (pt_val (pe_callB (call_isiKK (K := K)) (by rfl) T.n_isinstance (by decide +kernel) (pa_cons (pv 5) (pa_cons (pe_bltn (v := .ty "tuple") (by rfl) T.n_tuple (by decide +kernel) rfl) pa_nil))))))) (pss_cons (ps_ret (pe_op (op_catAK (K := K)) (pe_op (op_catAK (K := K)) (pe_slice (sl_tupK (K := K)) (pv 1) po_none (po_some (pv 3))) (pe_tupF (pa_cons (pe_tupF (pa_cons (pe_call O__law_bent (hr.mono (by omega)) (by rfl) T.g__law_bent T.F__law_bent.kp T.b__law_bent .nil pass0 (pa_cons (pv 0) (pa_cons (pe_ix (ix_seqK (K := K)) (pv 5) pe_int (fun _ _ => rfl)) (pa_cons (pv 2) pa_nil)))) (pa_cons (pe_ix (ix_seqK (K := K)) (pv 5) pe_int (fun _ _ => rfl)) pa_nil))) pa_nil))) (pe_slice (sl_tupK (K := K)) (pv 1) (po_some (pe_op op_add (pv 3) pe_int)) po_none))) pss_nil) pss_nil) (pss_cons (ps_if (pt_cmpR op_eq (pv 4) pe_int (nomark _)) (pss_cons (ps_ret (pe_ix (ix_listK (K := K)) (pe_lst (pa_cons (pe_callTy (cl_listK (K := K)) (by rfl) T.n_list (by decide +kernel) (pa_cons (pv 1) pa_nil)) (pa_cons (pe_op (op_catAK (K := K)) (pv 1) (pe_tupF (pa_cons (pv 1) pa_nil))) (pa_cons (pe_tupF (pa_cons (pv 1) (pa_cons pe_int pa_nil))) (pa_cons (pe_revT (K := K) (pv 1)) pa_nil))))) (pe_call O__law_pull (hr.mono (by omega)) (by rfl) T.g__law_pull T.F__law_pull.kp T.b__law_pull .nil pass0 (pa_cons (pv 0) (pa_cons pe_int pa_nil))) (fun _ _ => rfl))) pss_nil) pss_nil) (pss_cons (ps_ret (pe_op (op_catAK (K := K)) (pe_op (op_catAK (K := K)) (pe_slice (sl_tupK (K := K)) (pv 1) po_none (po_some (pv 3))) (pe_tupF (pa_cons (pe_call O__law_bent_part (hr.mono (by omega)) (by rfl) T.g__law_bent_part T.F__law_bent_part.kp T.b__law_bent_part .nil pass0 (pa_cons (pv 0) (pa_cons (pv 5) (pa_cons (pv 2) pa_nil)))) pa_nil))) (pe_slice (sl_tupK (K := K)) (pv 1) (po_some (pe_op op_add (pv 3) pe_int)) po_none))) pss_nil)))))), ?_⟩
      refine nrm (σ' := [some (.ref s), some v_l_tune_here, some v_l_call, none, none, none]) rfl ?_
      obtain ⟨t1, e_t1, hm⟩ := bs hm
      obtain ⟨t2, e_t2, hm⟩ := bs hm
      refine q_par (σ' := fun v w => [some (.ref s), some v_l_tune_here, some v_l_call, some v, some w, none]) (ea_d (ev_callD (a := ((a.1.length : Int) + (1 : Int))) (r := t1.1) (z' := t1.2) hs e_t1 (ea_cons mo_ow (ev_own rfl) (ea_d (ev_add (ev_lenTM (e := id) (ea_d (ev_d (K := K) rfl h_l_tune_here) ea_nil)) (ev_int (K := K))) ea_nil))) (ea_d (ev_callD (a := (6 : Int)) (r := t2.1) (z' := t2.2) upd_same e_t2 (ea_cons mo_ow (ev_own rfl) (ea_d (ev_int (K := K)) ea_nil))) ea_nil)) ok (fun _ _ => rfl) (fun v_l_at v_l_way G H s1 ok h_l_at h_l_way => ?_)
      have h_l_tune_here := dp_up s1 _ h_l_tune_here
      have h_l_call := dp_up s1 _ h_l_call
      have sg := sg.trans s1
      cases h_l_at
      cases h_l_way
      have ok : Ok _ (upd (upd M0 s (sto t1.2)) s (sto t2.2)) _ := ok
      have hs : (upd (upd M0 s (sto t1.2)) s (sto t2.2)) s = some (sto t2.2) := upd_same
      have hB : ∀ a u, a ≠ s → M0 a = some u → (upd (upd M0 s (sto t1.2)) s (sto t2.2)) a = some u := (hB_draw (hB_draw hB))
      obtain ⟨M, eM⟩ : ∃ m, m = (upd (upd M0 s (sto t1.2)) s (sto t2.2)) := ⟨_, rfl⟩
      rw [← eM] at ok hs hB
      clear eM
      obtain ⟨t3, e_t3, hm⟩ := bs hm
      refine q_if (et_or (et_test (ev_eqDO e_t3 (ev_d (K := K) rfl h_l_tune_here) (ev_tup (ea_nilD (K := K))))) fun _ => (et_test (ev_eqI (ev_d (K := K) rfl (.int _)) (ev_lenTM (e := id) (ea_d (ev_d (K := K) rfl h_l_tune_here) ea_nil))))) ok (fun hb G H s1 ok => ?_) (fun hb G H s1 ok => ?_)
      · have hm := cond_t hb hm
        have h_l_tune_here := dp_up s1 _ h_l_tune_here
        have h_l_call := dp_up s1 _ h_l_call
        have sg := sg.trans s1
        obtain ⟨t4, e_t4, hm⟩ := bs hm
        obtain ⟨t5, e_t5, hm⟩ := bs hm
        obtain ⟨t6, e_t6, hm⟩ := bs hm
        refine q_ret (ev_catTO (e := id) e_t6 (ev_catTO (e := id) e_t5 (ev_slTM (e := id) (ev_d (K := K) rfl h_l_tune_here) eo_none (eo_some (ev_d (K := K) rfl (.int _)))) (ev_tup (ea_consD (ev_callD (a := ((Dat.str a.2), a.2)) (r := t4.1) (z' := t4.2) hs e_t4 (ea_cons mo_ow (ev_own rfl) (ea_d (ev_d (K := K) rfl h_l_call) (ea_d (ev_d (K := K) rfl h_l_call) ea_nil)))) (ea_nilD (K := K))))) (ev_slTM (e := id) (ev_d (K := K) rfl h_l_tune_here) (eo_some (ev_d (K := K) rfl (.int _))) eo_none)) ok (fun v G H s1 ok hv => ?_)
        have sg := sg.trans s1
        have ok : Ok _ (upd M s (sto t4.2)) _ := ok
        have hs : (upd M s (sto t4.2)) s = some (sto t4.2) := upd_same
        have hB : ∀ a u, a ≠ s → M0 a = some u → (upd M s (sto t4.2)) a = some u := (hB_draw hB)
        obtain ⟨M, eM⟩ : ∃ m, m = (upd M s (sto t4.2)) := ⟨_, rfl⟩
        rw [← eM] at ok hs hB
        clear eM
        cases hm
        exact q v G H sg (ok.less (same_fin hB hs)) hv
      · have hm := cond_f hb hm
        have h_l_tune_here := dp_up s1 _ h_l_tune_here
        have h_l_call := dp_up s1 _ h_l_call
        have sg := sg.trans s1
        refine q_nilU ?_
        obtain ⟨t7, e_t7, hm⟩ := bs hm
        refine q_set (σ' := fun v => [some (.ref s), some v_l_tune_here, some v_l_call, some (.int t1.1), some (.int t2.1), some v]) (ev_ixTM (e := id) e_t7 (ev_d (K := K) rfl h_l_tune_here) (ev_d (K := K) rfl (.int _))) ok (fun _ => rfl) (fun v_l_part G H s1 ok h_l_part => ?_)
        have h_l_tune_here := dp_up s1 _ h_l_tune_here
        have h_l_call := dp_up s1 _ h_l_call
        have sg := sg.trans s1
        obtain ⟨t9, e_t9, hm⟩ := bs hm
        refine q_if (et_andG (c := t9) (et_test (ev_lt (ev_d (K := K) rfl (.int _)) (ev_int (K := K)))) (fun eb => by have e1 := cond_t eb e_t9; (obtain ⟨t8, e_t8, e1⟩ := bs e1); (have e1 := Option.some.inj e1); subst e1; exact (et_B (ev_isiD1 isc_T isn_T T.co_Peal (kn_T T.cn_Peal) e_t8 (ea_d (ev_d (K := K) rfl h_l_part) (ea_cons mo_cls ev_cls ea_nil))))) (fun eb => by have e1 := cond_f eb e_t9; cases e1; exact ⟨rfl, rfl⟩)) ok (fun hb G H s1 ok => ?_) (fun hb G H s1 ok => ?_)
        · have hm := cond_t hb hm
          have h_l_tune_here := dp_up s1 _ h_l_tune_here
          have h_l_call := dp_up s1 _ h_l_call
          have h_l_part := dp_up s1 _ h_l_part
          have sg := sg.trans s1
          obtain ⟨t10, e_t10, hm⟩ := bs hm
          obtain ⟨t11, e_t11, hm⟩ := bs hm
          obtain ⟨t12, e_t12, hm⟩ := bs hm
          obtain ⟨t13, e_t13, hm⟩ := bs hm
          obtain ⟨t14, e_t14, hm⟩ := bs hm
          obtain ⟨t15, e_t15, hm⟩ := bs hm
          refine q_ret (ev_catTO (e := id) e_t15 (ev_catTO (e := id) e_t14 (ev_slTM (e := id) (ev_d (K := K) rfl h_l_tune_here) eo_none (eo_some (ev_d (K := K) rfl (.int _)))) (ev_tup (ea_consD (ev_tup (ea_consD (ev_callD (a := (t11, a.2)) (r := t12.1) (z' := t12.2) hs e_t12 (ea_cons mo_ow (ev_own rfl) (ea_d (ev_tupD e_t11 (ev_ixD e_t10 (ev_d (K := K) rfl h_l_part) (ev_int (K := K)))) (ea_d (ev_d (K := K) rfl h_l_call) ea_nil)))) (ea_consD (ev_ixD e_t13 (ev_d (K := K) rfl h_l_part) (ev_int (K := K))) (ea_nilD (K := K))))) (ea_nilD (K := K))))) (ev_slTM (e := id) (ev_d (K := K) rfl h_l_tune_here) (eo_some (ev_add (ev_d (K := K) rfl (.int _)) (ev_int (K := K)))) eo_none)) ok (fun v G H s1 ok hv => ?_)
          have sg := sg.trans s1
          have ok : Ok _ (upd M s (sto t12.2)) _ := ok
          have hs : (upd M s (sto t12.2)) s = some (sto t12.2) := upd_same
          have hB : ∀ a u, a ≠ s → M0 a = some u → (upd M s (sto t12.2)) a = some u := (hB_draw hB)
          obtain ⟨M, eM⟩ : ∃ m, m = (upd M s (sto t12.2)) := ⟨_, rfl⟩
          rw [← eM] at ok hs hB
          clear eM
          cases hm
          exact q v G H sg (ok.less (same_fin hB hs)) hv
        · have hm := cond_f hb hm
          have h_l_tune_here := dp_up s1 _ h_l_tune_here
          have h_l_call := dp_up s1 _ h_l_call
          have h_l_part := dp_up s1 _ h_l_part
          have sg := sg.trans s1
          refine q_nilU ?_
          refine q_if (et_test (ev_eqI (ev_d (K := K) rfl (.int _)) (ev_int (K := K)))) ok (fun hb G H s1 ok => ?_) (fun hb G H s1 ok => ?_)
          · have hm := cond_t hb hm
            have h_l_tune_here := dp_up s1 _ h_l_tune_here
            have h_l_call := dp_up s1 _ h_l_call
            have h_l_part := dp_up s1 _ h_l_part
            have sg := sg.trans s1
            obtain ⟨t16, e_t16, hm⟩ := bs hm
            obtain ⟨t17, e_t17, hm⟩ := bs hm
            obtain ⟨t18, e_t18, hm⟩ := bs hm
            refine q_ret (ev_ixLM (e := id) e_t18 (EvL.ev (el_lst (ea_consD (EvL.ev (el_listT (ea_d (ev_d (K := K) rfl h_l_tune_here) ea_nil))) (ea_consD (ev_catTO (e := id) e_t16 (ev_d (K := K) rfl h_l_tune_here) (ev_tup (ea_consD (ev_d (K := K) rfl h_l_tune_here) (ea_nilD (K := K))))) (ea_consD (ev_tup (ea_consD (ev_d (K := K) rfl h_l_tune_here) (ea_consD (ev_int (K := K)) (ea_nilD (K := K))))) (ea_consD (ev_revTM (e := id) (ev_d (K := K) rfl h_l_tune_here)) (ea_nilD (K := K)))))))) (ev_callD (a := (4 : Int)) (r := t17.1) (z' := t17.2) hs e_t17 (ea_cons mo_ow (ev_own rfl) (ea_d (ev_int (K := K)) ea_nil)))) ok (fun v G H s1 ok hv => ?_)
            have sg := sg.trans s1
            have ok : Ok _ (upd M s (sto t17.2)) _ := ok
            have hs : (upd M s (sto t17.2)) s = some (sto t17.2) := upd_same
            have hB : ∀ a u, a ≠ s → M0 a = some u → (upd M s (sto t17.2)) a = some u := (hB_draw hB)
            obtain ⟨M, eM⟩ : ∃ m, m = (upd M s (sto t17.2)) := ⟨_, rfl⟩
            rw [← eM] at ok hs hB
            clear eM
            cases hm
            exact q v G H sg (ok.less (same_fin hB hs)) hv
          · have hm := cond_f hb hm
            have h_l_tune_here := dp_up s1 _ h_l_tune_here
            have h_l_call := dp_up s1 _ h_l_call
            have h_l_part := dp_up s1 _ h_l_part
            have sg := sg.trans s1
            refine q_nilU ?_
            obtain ⟨t19, e_t19, hm⟩ := bs hm
            obtain ⟨t20, e_t20, hm⟩ := bs hm
            obtain ⟨t21, e_t21, hm⟩ := bs hm
            refine q_ret (ev_catTO (e := id) e_t21 (ev_catTO (e := id) e_t20 (ev_slTM (e := id) (ev_d (K := K) rfl h_l_tune_here) eo_none (eo_some (ev_d (K := K) rfl (.int _)))) (ev_tup (ea_consD (ev_callD (a := (t7, a.2)) (r := t19.1) (z' := t19.2) hs e_t19 (ea_cons mo_ow (ev_own rfl) (ea_d (ev_d (K := K) rfl h_l_part) (ea_d (ev_d (K := K) rfl h_l_call) ea_nil)))) (ea_nilD (K := K))))) (ev_slTM (e := id) (ev_d (K := K) rfl h_l_tune_here) (eo_some (ev_add (ev_d (K := K) rfl (.int _)) (ev_int (K := K)))) eo_none)) ok (fun v G H s1 ok hv => ?_)
            have sg := sg.trans s1
            have ok : Ok _ (upd M s (sto t19.2)) _ := ok
            have hs : (upd M s (sto t19.2)) s = some (sto t19.2) := upd_same
            have hB : ∀ a u, a ≠ s → M0 a = some u → (upd M s (sto t19.2)) a = some u := (hB_draw hB)
            obtain ⟨M, eM⟩ : ∃ m, m = (upd M s (sto t19.2)) := ⟨_, rfl⟩
            rw [← eM] at ok hs hB
            clear eM
            cases hm
            exact q v G H sg (ok.less (same_fin hB hs)) hv
/-! ### _law_nest -/
theorem sc__law_nest : FnScope ["_law_tune_here", "_law_deep", "_law_turn"] ["_law_tune_here", "_law_deep"] (defScope s__law_nest) := ⟨rfl, rfl, rfl, by decide +kernel, rfl, by decide +kernel, by decide +kernel⟩
def a__law_nest (K : PySem.W.Frag) (a : (List Dat) × Int) : List V → Hp → Prop := conP (DD K ((eT id) a.1)) (conP (DD K (Dat.int a.2)) (nilP))
def m__law_nest (a : (List Dat) × Int) : Option (List Dat) :=
  (rngO a.2).bind fun t1 => (forO (fun (st3 : (List Dat)) (x4 : Int) => some ([((eP2 (eT id) Dat.int) (st3, (2 : Int)))] : (List Dat))) t1 a.1).bind fun fin2 => some fin2
abbrev sp__law_nest (K : PySem.W.Frag) : Sp := spP (a__law_nest K) (m__law_nest) fun r => DD K ((eT id) r)
theorem ok__law_nest {P : Program} {w : World} {K : PySem.W.Frag} {mg : Str → Option Value} {base : Heap} (T : Txt K mg) : FnOk P w K mg base CX0 (1) T.a__law_nest T.d__law_nest ["_law_tune_here", "_law_deep"] (sp__law_nest K) := by
  refine T.F__law_nest.ok sc__law_nest (fun vs H Q E h => ?_) (fun cdv A outer s0 H vs Q E hr h => ?_)
  · obtain ⟨G, M0, a, r, ok, ⟨v_l_tune_here, _, rfl, h_l_tune_here, v_l_deep, _, rfl, h_l_deep, rfl⟩, hm, q⟩ := h
    rfl
  · obtain ⟨G, M0, a, r, ok, ⟨v_l_tune_here, _, rfl, h_l_tune_here, v_l_deep, _, rfl, h_l_deep, rfl⟩, hm, q⟩ := h
    unfold m__law_nest at hm
    have sg := Same.refl G
    have hB := Same.refl M0
    refine ⟨_, (pss_cons (ps_for PassesOwn.never rfl (pi_range1 (by rfl) T.n_range (pa_cons (pv 1) pa_nil)) (pg_name (i := 2) sc__law_nest.nd rfl (.inl rfl)) (pss_cons (ps_set (i := 0) sc__law_nest.nd rfl (.inl rfl) (pe_tupF (pa_cons (pe_tupF (pa_cons (pv 0) (pa_cons pe_int pa_nil))) pa_nil))) pss_nil)) (pss_cons (ps_ret (pv 0)) pss_nil)), ?_⟩
    cases h_l_deep
    refine nrm (σ' := [some v_l_tune_here, some (.int a.2), none]) rfl ?_
    obtain ⟨t1, e_t1, hm⟩ := bs hm
    obtain ⟨fin2, e_fin2, hm⟩ := bs hm
    have hmo5 := hm
    refine q_forO (ea := Dat.int) (src_rngO e_t1 (ea_d (ev_d (K := K) rfl (.int _)) ea_nil)) ok (fun (st3 : (List Dat)) σ1 G1 M1 => ∃ (y_l_turn : Option V) (v_l_tune_here : V), σ1 = [some v_l_tune_here, some (.int a.2), y_l_turn] ∧ (Dq K G1 v_l_tune_here ((eT id) st3)) ∧ (Same M0 M1)) e_fin2 (fun G1 s1 => ⟨_, _, rfl, dp_up s1 _ h_l_tune_here, hB⟩) (by rintro _ _ _ _ _ ⟨y_l_turn, v_l_tune_here, rfl, h_l_tune_here, hB⟩ s2; exact ⟨_, _, rfl, dp_up s2 _ h_l_tune_here, hB⟩) (fun x4 xv7 st3 st' σ1 G M H N hm hj s1 ok hv hN => ?_) (fun σ1 G M H s1 ok hj => ?_)
    · obtain ⟨y_l_turn, v_l_tune_here, rfl, h_l_tune_here, hB⟩ := hj
      have sg := sg.trans s1
      have sl8 := Same.refl G
      refine gn ?_
      have h_l_turn := hv
      cases h_l_turn
      refine nrm (σ' := [some v_l_tune_here, some (.int a.2), some (.int x4)]) rfl ?_
      refine q_set (σ' := fun v => [some v, some (.int a.2), some (.int x4)]) (ev_tup (ea_consD (ev_tup (ea_consD (ev_d (K := K) rfl h_l_tune_here) (ea_consD (ev_int (K := K)) (ea_nilD (K := K))))) (ea_nilD (K := K)))) ok (fun _ => rfl) (fun v_l_tune_here G H s1 ok h_l_tune_here => ?_)
      have sg := sg.trans s1
      have sl8 := sl8.trans s1
      refine q_nil ?_
      cases hm
      exact hN _ _ _ _ sl8 ok ⟨_, _, rfl, h_l_tune_here, hB⟩
    · obtain ⟨y_l_turn, v_l_tune_here, rfl, h_l_tune_here, hB⟩ := hj
      have sg := sg.trans s1
      refine q_ret (ev_d (K := K) rfl h_l_tune_here) ok (fun v G H s1 ok hv => ?_)
      have sg := sg.trans s1
      cases hm
      exact q v G H sg (ok.less hB) hv
/-! ### _law_edges -/
theorem sc__law_edges : FnScope ["_law_call", "_law_found", "_law_deep"] ["_law_call"] (defScope s__law_edges) := ⟨rfl, rfl, rfl, by decide +kernel, rfl, by decide +kernel, by decide +kernel⟩
def a__law_edges (K : PySem.W.Frag) (a : Str) : List V → Hp → Prop := conP (DD K (Dat.str a)) (nilP)
def m__law_edges (a : Str) : Option (List Dat) :=
  (mulTO ([a] : (List Str)) (120 : Int)).bind fun t1 => (mulTO ([a] : (List Str)) (121 : Int)).bind fun t2 => (mulTO ([a] : (List Str)) (3 : Int)).bind fun t3 => (mulTO ([a] : (List Str)) (119 : Int)).bind fun t4 => (mulTO ([a] : (List Str)) (120 : Int)).bind fun t5 => (rngO (7 : Int)).bind fun t6 => (lcO (fun x7 : Int => (m__law_nest (([(Dat.str a)] : (List Dat)), x7)).bind fun t13 => some ((eT id) t13)) t6).bind fun t14 => (catO ([((eT Dat.str) t1), ((eT Dat.str) t2), ((eP2 (eT id) (eT Dat.str)) ([], t3)), ((eT (eP2 (eT Dat.str) Dat.int)) ([(t4, (5 : Int))] : (List ((List Str) × Int)))), ((eT (eP2 (eT Dat.str) Dat.int)) ([(t5, (5 : Int))] : (List ((List Str) × Int))))] : (List Dat)) t14).bind fun t15 => (rngO (7 : Int)).bind fun t16 => (lcO (fun x17 : Int => (m__law_nest (([] : (List Dat)), x17)).bind fun t23 => some ((eT id) t23)) t16).bind fun t24 => (catO t15 t24).bind fun t25 => (powO (10 : Int) (30 : Int)).bind fun t26 => (mulTO ([(([] : (List Dat)), t26)] : (List ((List Dat) × Int))) (60 : Int)).bind fun t27 => (mulTO ([(([a] : (List Str)), (7 : Int))] : (List ((List Str) × Int))) (60 : Int)).bind fun t28 => (mulTO ([(([a] : (List Str)), (7 : Int))] : (List ((List Str) × Int))) (61 : Int)).bind fun t29 => (mulTO ([a] : (List Str)) (116 : Int)).bind fun t30 => (m__law_nest ((t30.map Dat.str), (4 : Int))).bind fun t31 => (catO t25 ([((eT (eP2 (eT id) Dat.int)) t27), ((eT (eP2 (eT Dat.str) Dat.int)) t28), ((eT (eP2 (eT Dat.str) Dat.int)) t29), ((eT id) t31)] : (List Dat))).bind fun t32 => some t32
abbrev sp__law_edges (K : PySem.W.Frag) : Sp := spP (a__law_edges K) (m__law_edges) fun r => DD K ((eL id) r)
theorem ok__law_edges {P : Program} {w : World} {K : PySem.W.Frag} {mg : Str → Option Value} {base : Heap} (T : Txt K mg) (O__law_nest : FnOk P w K mg base CX0 1 T.a__law_nest T.d__law_nest ["_law_tune_here", "_law_deep"] (sp__law_nest K)) : FnOk P w K mg base CX0 (2) T.a__law_edges T.d__law_edges ["_law_call"] (sp__law_edges K) := by
  refine T.F__law_edges.ok sc__law_edges (fun vs H Q E h => ?_) (fun cdv A outer s0 H vs Q E hr h => ?_)
  · obtain ⟨G, M0, a, r, ok, ⟨v_l_call, _, rfl, h_l_call, rfl⟩, hm, q⟩ := h
    rfl
  · obtain ⟨G, M0, a, r, ok, ⟨v_l_call, _, rfl, h_l_call, rfl⟩, hm, q⟩ := h
    unfold m__law_edges at hm
    have sg := Same.refl G
    have hB := Same.refl M0
    refine ⟨_, (pss_cons (ps_set (i := 1) sc__law_edges.nd rfl (.inl rfl) (pe_lst (pa_cons (pe_op (op_mulT (K := K)) (pe_tupF (pa_cons (pv 0) pa_nil)) pe_int) (pa_cons (pe_op (op_mulT (K := K)) (pe_tupF (pa_cons (pv 0) pa_nil)) pe_int) (pa_cons (pe_tupF (pa_cons (pe_tupF pa_nil) (pa_cons (pe_op (op_mulT (K := K)) (pe_tupF (pa_cons (pv 0) pa_nil)) pe_int) pa_nil))) (pa_cons (pe_tupF (pa_cons (pe_tupF (pa_cons (pe_op (op_mulT (K := K)) (pe_tupF (pa_cons (pv 0) pa_nil)) pe_int) (pa_cons pe_int pa_nil))) pa_nil)) (pa_cons (pe_tupF (pa_cons (pe_tupF (pa_cons (pe_op (op_mulT (K := K)) (pe_tupF (pa_cons (pv 0) pa_nil)) pe_int) (pa_cons pe_int pa_nil))) pa_nil)) pa_nil))))))) (pss_cons (ps_set (i := 1) sc__law_edges.nd rfl (.inl rfl) (pe_op op_cat (pe_op op_cat (pv 1) (pe_lc (own := [("_law_deep", 2)]) (g := (gName 2)) (tt := tYes) rfl sc__law_edges.nd (pi_range1 (by rfl) T.n_range (pa_cons pe_int pa_nil)) (blkOk_by (own := [("_law_deep", 2)]) (N := ["_law_call", "_law_found", "_law_deep"]) (sc := defScope s__law_edges) (by decide +kernel)) (fun _ _ _ _ _ => (pg_name (i := 2) sc__law_edges.nd rfl (by first | exact .inl rfl | exact .inr rfl))) (fun _ _ _ _ _ => pts_nil) (fun _ _ _ _ _ => (pe_call O__law_nest (hr.mono (by decide)) (by rfl) T.g__law_nest T.F__law_nest.kp T.b__law_nest .nil pass0 (pa_cons (pe_tupF (pa_cons (pv 0) pa_nil)) (pa_cons (pv 2) pa_nil)))))) (pe_lc (own := [("_law_deep", 2)]) (g := (gName 2)) (tt := tYes) rfl sc__law_edges.nd (pi_range1 (by rfl) T.n_range (pa_cons pe_int pa_nil)) (blkOk_by (own := [("_law_deep", 2)]) (N := ["_law_call", "_law_found", "_law_deep"]) (sc := defScope s__law_edges) (by decide +kernel)) (fun _ _ _ _ _ => (pg_name (i := 2) sc__law_edges.nd rfl (by first | exact .inl rfl | exact .inr rfl))) (fun _ _ _ _ _ => pts_nil) (fun _ _ _ _ _ => (pe_call O__law_nest (hr.mono (by decide)) (by rfl) T.g__law_nest T.F__law_nest.kp T.b__law_nest .nil pass0 (pa_cons (pe_tupF pa_nil) (pa_cons (pv 2) pa_nil))))))) (pss_cons (ps_ret (pe_op op_cat (pv 1) (pe_lst (pa_cons (pe_op (op_mulT (K := K)) (pe_tupF (pa_cons (pe_tupF (pa_cons (pe_tupF pa_nil) (pa_cons (pe_op op_pow pe_int pe_int) pa_nil))) pa_nil)) pe_int) (pa_cons (pe_op (op_mulT (K := K)) (pe_tupF (pa_cons (pe_tupF (pa_cons (pe_tupF (pa_cons (pv 0) pa_nil)) (pa_cons pe_int pa_nil))) pa_nil)) pe_int) (pa_cons (pe_op (op_mulT (K := K)) (pe_tupF (pa_cons (pe_tupF (pa_cons (pe_tupF (pa_cons (pv 0) pa_nil)) (pa_cons pe_int pa_nil))) pa_nil)) pe_int) (pa_cons (pe_call O__law_nest (hr.mono (by decide)) (by rfl) T.g__law_nest T.F__law_nest.kp T.b__law_nest .nil pass0 (pa_cons (pe_op (op_mulT (K := K)) (pe_tupF (pa_cons (pv 0) pa_nil)) pe_int) (pa_cons pe_int pa_nil))) pa_nil))))))) pss_nil))), ?_⟩
    refine nrm (σ' := [some v_l_call, none, none]) rfl ?_
    obtain ⟨t1, e_t1, hm⟩ := bs hm
    obtain ⟨t2, e_t2, hm⟩ := bs hm
    obtain ⟨t3, e_t3, hm⟩ := bs hm
    obtain ⟨t4, e_t4, hm⟩ := bs hm
    obtain ⟨t5, e_t5, hm⟩ := bs hm
    refine q_set (σ' := fun v => [some v_l_call, some v, none]) (EvL.ev (el_lst (ea_consD (ev_mulT (e := Dat.str) e_t1 (ev_tup (ea_consD (ev_d (K := K) rfl h_l_call) (ea_nilD (K := K)))) (ev_int (K := K))) (ea_consD (ev_mulT (e := Dat.str) e_t2 (ev_tup (ea_consD (ev_d (K := K) rfl h_l_call) (ea_nilD (K := K)))) (ev_int (K := K))) (ea_consD (ev_tup (ea_consD (ev_tup (ea_nilD (K := K))) (ea_consD (ev_mulT (e := Dat.str) e_t3 (ev_tup (ea_consD (ev_d (K := K) rfl h_l_call) (ea_nilD (K := K)))) (ev_int (K := K))) (ea_nilD (K := K))))) (ea_consD (ev_tup (ea_consD (ev_tup (ea_consD (ev_mulT (e := Dat.str) e_t4 (ev_tup (ea_consD (ev_d (K := K) rfl h_l_call) (ea_nilD (K := K)))) (ev_int (K := K))) (ea_consD (ev_int (K := K)) (ea_nilD (K := K))))) (ea_nilD (K := K)))) (ea_consD (ev_tup (ea_consD (ev_tup (ea_consD (ev_mulT (e := Dat.str) e_t5 (ev_tup (ea_consD (ev_d (K := K) rfl h_l_call) (ea_nilD (K := K)))) (ev_int (K := K))) (ea_consD (ev_int (K := K)) (ea_nilD (K := K))))) (ea_nilD (K := K)))) (ea_nilD (K := K))))))))) ok (fun _ => rfl) (fun v_l_found G H s1 ok h_l_found => ?_)
    have h_l_call := dp_up s1 _ h_l_call
    have sg := sg.trans s1
    obtain ⟨t6, e_t6, hm⟩ := bs hm
    obtain ⟨t14, e_t14, hm⟩ := bs hm
    obtain ⟨t15, e_t15, hm⟩ := bs hm
    obtain ⟨t16, e_t16, hm⟩ := bs hm
    obtain ⟨t24, e_t24, hm⟩ := bs hm
    obtain ⟨t25, e_t25, hm⟩ := bs hm
    refine q_set (σ' := fun v => [some v_l_call, some v, none]) (EvL.ev (el_catO (e := id) e_t25 (EvL.ev (el_catO (e := id) e_t15 (ev_d (K := K) rfl h_l_found) (EvL.ev (el_lcM (ea := Dat.int) (eb := id) (xs := t6) (ys := t14) (hf := e_t14) (src_rngO e_t6 (ea_d (ev_int (K := K)) ea_nil)) (fun x7 _ Mx11 _ _ he12 sM10 sG9 hv8 => by (obtain ⟨t13, e_t13, he12⟩ := bs he12); cases he12; exact (tg_name ⟨rfl, (ev_callP (res := fun r => DD K ((eT id) r)) (a := (([(Dat.str a)] : (List Dat)), x7)) e_t13 (ea_d (ev_tup (ea_consD (ev_d (K := K) rfl (dp_up sG9 _ h_l_call)) (ea_nilD (K := K)))) (ea_d (ev_d (K := K) rfl hv8) ea_nil)))⟩)))))) (EvL.ev (el_lcM (ea := Dat.int) (eb := id) (xs := t16) (ys := t24) (hf := e_t24) (src_rngO e_t16 (ea_d (ev_int (K := K)) ea_nil)) (fun x17 _ Mx21 _ _ he22 sM20 sG19 hv18 => by (obtain ⟨t23, e_t23, he22⟩ := bs he22); cases he22; exact (tg_name ⟨rfl, (ev_callP (res := fun r => DD K ((eT id) r)) (a := (([] : (List Dat)), x17)) e_t23 (ea_d (ev_tup (ea_nilD (K := K))) (ea_d (ev_d (K := K) rfl hv18) ea_nil)))⟩)))))) ok (fun _ => rfl) (fun v_l_found G H s1 ok h_l_found => ?_)
    have h_l_call := dp_up s1 _ h_l_call
    have sg := sg.trans s1
    obtain ⟨t26, e_t26, hm⟩ := bs hm
    obtain ⟨t27, e_t27, hm⟩ := bs hm
    obtain ⟨t28, e_t28, hm⟩ := bs hm
    obtain ⟨t29, e_t29, hm⟩ := bs hm
    obtain ⟨t30, e_t30, hm⟩ := bs hm
    obtain ⟨t31, e_t31, hm⟩ := bs hm
    obtain ⟨t32, e_t32, hm⟩ := bs hm
    refine q_ret (EvL.ev (el_catO (e := id) e_t32 (ev_d (K := K) rfl h_l_found) (EvL.ev (el_lst (ea_consD (ev_mulT (e := (eP2 (eT id) Dat.int)) e_t27 (ev_tup (ea_consD (ev_tup (ea_consD (ev_tup (ea_nilD (K := K))) (ea_consD (ev_powO e_t26 (ev_int (K := K)) (ev_int (K := K))) (ea_nilD (K := K))))) (ea_nilD (K := K)))) (ev_int (K := K))) (ea_consD (ev_mulT (e := (eP2 (eT Dat.str) Dat.int)) e_t28 (ev_tup (ea_consD (ev_tup (ea_consD (ev_tup (ea_consD (ev_d (K := K) rfl h_l_call) (ea_nilD (K := K)))) (ea_consD (ev_int (K := K)) (ea_nilD (K := K))))) (ea_nilD (K := K)))) (ev_int (K := K))) (ea_consD (ev_mulT (e := (eP2 (eT Dat.str) Dat.int)) e_t29 (ev_tup (ea_consD (ev_tup (ea_consD (ev_tup (ea_consD (ev_d (K := K) rfl h_l_call) (ea_nilD (K := K)))) (ea_consD (ev_int (K := K)) (ea_nilD (K := K))))) (ea_nilD (K := K)))) (ev_int (K := K))) (ea_consD (ev_callP (res := fun r => DD K ((eT id) r)) (a := ((t30.map Dat.str), (4 : Int))) e_t31 (ea_d (ev_TD (e := Dat.str) (ev_mulT (e := Dat.str) e_t30 (ev_tup (ea_consD (ev_d (K := K) rfl h_l_call) (ea_nilD (K := K)))) (ev_int (K := K)))) (ea_d (ev_int (K := K)) ea_nil))) (ea_nilD (K := K)))))))))) ok (fun v G H s1 ok hv => ?_)
    have sg := sg.trans s1
    cases hm
    exact q v G H sg (ok.less hB) hv
theorem kwp_is_course_thing_peal {K : PySem.W.Frag} {G : Hp} {vs : List V} {a : ((List (Str × Int)) × (List (Str × Str × Int)) × (List (Str × Int)) × (List ((Str × Str) × Int))) × Dat} (h : (conP (DD K (id a.2)) (conP (DD K (eX_Peal a.1)) (nilP))) vs G) : vs.length = 2 ∧ a_is_course K a (kw_is_course_thing_peal vs) G := by
  obtain ⟨v_thing, _, rfl, h_thing, v_peal, _, rfl, h_peal, rfl⟩ := h
  exact ⟨rfl, v_peal, _, rfl, h_peal, v_thing, _, rfl, h_thing, rfl⟩
/-! ### _law_right -/
theorem sc__law_right : FnScope ["_law_store", "_law_kit_here", "_law_tower", "_law_call", "_law_bare", "_law_there", "_law_items", "_law_turn", "_law_wide", "_law_tune_here", "_law_bent_here", "_law_again", "_law_item", "_law_due", "_law_due_there"] ["_law_store"] (defScope s__law_right) := ⟨rfl, rfl, rfl, by decide +kernel, rfl, by decide +kernel, by decide +kernel⟩
def a__law_right (K : PySem.W.Frag) (a : Unit) : List V → Hp → Prop := nilP
def m__law_right (a : Unit) (z : Sto) : Option (Bool × Sto) :=
  (m__law_kit ((8 : Int), (24 : Int)) z).bind fun t1 => (m_Peal___init__ (t1.1.1, t1.1.2)).bind fun t2 => (m__law_pull (t1.1.1.length : Int) t1.2).bind fun t3 => (atI t1.1.1 t3.1).bind fun t4 => (m_Peal___init__ (((cond (decide ((1 : Int) < (t1.1.1.length : Int))) (cut t1.1.1 (some (1 : Int)) none) ([((Str.ofString "qq"), (5 : Int))] : (List (Str × Int)))), ([] : (List (Str × Str × Int)))).1, ((cond (decide ((1 : Int) < (t1.1.1.length : Int))) (cut t1.1.1 (some (1 : Int)) none) ([((Str.ofString "qq"), (5 : Int))] : (List (Str × Int)))), ([] : (List (Str × Str × Int)))).2)).bind fun t5 => (m__law_edges t4.1).bind fun t6 => (catO t6 ([((eT id) []), (eN ()), (Dat.str (Str.ofString "")), (Dat.str t4.1), (Dat.int (0 : Int)), (Dat.bool true), ((eL id) ([])), ((eDS Dat.int) ([] : List (Str × Int))), (eX_Peal t2), ((eT eN) ([()] : (List Unit)))] : (List Dat))).bind fun t7 => (catO t7 ([((eT (eT id)) ([[]] : (List (List Dat)))), ((eT (eP2 (eT id) Dat.int)) ([([], (1 : Int))] : (List ((List Dat) × Int)))), ((eL Dat.str) ([t4.1] : (List Str))), ((eP2 (eT Dat.str) Dat.int) (([t4.1] : (List Str)), (2 : Int)))] : (List Dat))).bind fun t8 => (rngO (10 : Int)).bind fun t9 => (forO (fun (st11 : (List Dat) × Sto) (x12 : Int) => (m__law_pull (4 : Int) st11.2).bind fun t17 => (atI ([([(4 : Int), (3 : Int)] : (List Int)), ([(2 : Int), (5 : Int)] : (List Int)), ([(9 : Int), (2 : Int)] : (List Int)), ([(30 : Int), (1 : Int)] : (List Int))] : (List (List Int))) t17.1).bind fun t18 => (atI t18 (1 : Int)).bind fun t19 => (atI t18 (0 : Int)).bind fun t20 => (powO (10 : Int) (30 : Int)).bind fun t21 => (m__law_pull (2 : Int) t17.2).bind fun t22 => (atI ([(3 : Int), t21] : (List Int)) t22.1).bind fun t23 => (m__law_tune 6 (t1.1, t19, t20, t23) t22.2).bind fun t24 => (m__law_bent 10 (t24.1, t4.1) t24.2).bind fun t25 => (m__law_parts_in 8 (t1.1, t25.1, (1 : Int))).bind fun t26 => (cond (decide ((0 : Int) ≤ t26)) ((tupD t25.1).bind fun t27 => (m__law_bent 10 (t27, t4.1) t25.2).bind fun t28 => some (t28.1, t28.2)) (some (t25.1, t25.2))).bind fun t29 => (catO st11.1 ([((eT id) t24.1), t25.1, t29.1] : (List Dat))).bind fun t30 => some (t30, t29.2)) t9 (t8, t3.2)).bind fun fin10 => (forR (R := Bool × Sto) (fun (st32 : Unit) (x33 : Dat) => (m__law_parts_in 8 (t1.1, x33, (1 : Int))).bind fun t38 => (m_is_course (t2, x33)).bind fun t39 => (m_is_course (t2, x33)).bind fun t40 => (reprO (toPy (Dat.list [Dat.bool t39, Dat.bool t40]))).bind fun t41 => (reprO (toPy (Dat.list [Dat.bool ((decide ((0 : Int) ≤ t38)) && (decide (t38 ≤ (120 : Int)))), Dat.bool ((decide ((0 : Int) ≤ t38)) && (decide (t38 ≤ (120 : Int))))]))).bind fun t42 => cond (!decide (t41 = t42)) (some (.inr (false, fin10.2))) ((m__law_parts_in 8 (((cond (decide ((1 : Int) < (t1.1.1.length : Int))) (cut t1.1.1 (some (1 : Int)) none) ([((Str.ofString "qq"), (5 : Int))] : (List (Str × Int)))), ([] : (List (Str × Str × Int)))), x33, (1 : Int))).bind fun t43 => (m_is_course (t5, x33)).bind fun t44 => (m_is_course (t2, x33)).bind fun t45 => (reprO (toPy (Dat.list [Dat.bool t44, Dat.bool t45]))).bind fun t46 => (reprO (toPy (Dat.list [Dat.bool ((decide ((0 : Int) ≤ t43)) && (decide (t43 ≤ (120 : Int)))), Dat.bool ((decide ((0 : Int) ≤ t38)) && (decide (t38 ≤ (120 : Int))))]))).bind fun t47 => cond (!decide (t46 = t47)) (some (.inr (false, fin10.2))) (some (.inl ())))) fin10.1 ()).bind fun fin31 => orR fin31 (fun fin31s => some (true, fin10.2)) (fun r => some r)
abbrev sp__law_right (K : PySem.W.Frag) : Sp := spD (a__law_right K) (m__law_right) fun r => DD K (Dat.bool r)
theorem ok__law_right {P : Program} {w : World} {K : PySem.W.Frag} {mg : Str → Option Value} {base : Heap} (T : Txt K mg) (O__law_kit : FnOk P w K mg base CX0 3 T.a__law_kit T.d__law_kit ["_law_store", "_law_upto", "_law_most"] (sp__law_kit K)) (O_Peal___init__ : FnOk P w K mg base CX0 5 T.a_Peal___init__ T.d_Peal___init__ ["self", "bells", "notches"] (sp_Peal___init__ K)) (O__law_pull : FnOk P w K mg base CX0 1 T.a__law_pull T.d__law_pull ["_law_store", "_law_many"] (sp__law_pull K)) (O__law_edges : FnOk P w K mg base CX0 2 T.a__law_edges T.d__law_edges ["_law_call"] (sp__law_edges K)) (O__law_tune : FnOk P w K mg base CX0 8 T.a__law_tune T.d__law_tune ["_law_store", "_law_kit_here", "_law_deep", "_law_wide", "_law_often"] (sp__law_tune K 6)) (O__law_bent : FnOk P w K mg base CX0 13 T.a__law_bent T.d__law_bent ["_law_store", "_law_tune_here", "_law_call"] (sp__law_bent K 10)) (O__law_parts_in : FnOk P w K mg base CX0 10 T.a__law_parts_in T.d__law_parts_in ["_law_kit_here", "_law_item", "_law_within"] (sp__law_parts_in K 8)) (O_is_course : FnOk P w K mg base CX0 13 T.a_is_course T.d_is_course ["peal", "thing"] (sp_is_course K)) : FnOkG P w K mg base CX0 (14) T.a__law_right T.d__law_right ["_law_store"] (sp__law_right K) := by
  refine okG T.F__law_right sc__law_right (fun vs H Q E h => ?_) (fun cdv A outer s0 H vs Q E hr hgd h => ?_)
  · obtain ⟨G, M0, s, z, z1, a, r, ws, rfl, ok, hs, rfl, hm, q⟩ := h
    rfl
  · obtain ⟨G, M0, s, z, z1, a, r, ws, rfl, ok, hs, rfl, hm, q⟩ := h
    unfold m__law_right at hm
    have sg := Same.refl G
    have hB : ∀ a u, a ≠ s → M0 a = some u → M0 a = some u := fun _ _ _ h => h
    refine ⟨_, (pss_cons (ps_set (i := 1) sc__law_right.nd rfl (.inl rfl) (pe_call O__law_kit (hr.mono (by decide)) (by rfl) T.g__law_kit T.F__law_kit.kp T.b__law_kit .nil pass0 (pa_cons (pv 0) (pa_cons pe_int (pa_cons pe_int pa_nil))))) (pss_cons (ps_par (i := 2) (j := 3) rfl sc__law_right.nd rfl rfl (by decide) rfl rfl (pa_cons (pe_make T.mk_Peal O_Peal___init__ (hr.mono (by decide)) (by rfl) T.mg_Peal T.b_Peal___init__ .nil pass0 (pa_cons (pe_ix (ix_tupK (K := K)) (pv 1) pe_int (fun _ _ => rfl)) (pa_cons (pe_ix (ix_tupK (K := K)) (pv 1) pe_int (fun _ _ => rfl)) pa_nil))) (pa_cons (pe_ix (ix_tupK (K := K)) (pe_ix (ix_tupK (K := K)) (pe_ix (ix_tupK (K := K)) (pv 1) pe_int (fun _ _ => rfl)) (pe_call O__law_pull (hr.mono (by decide)) (by rfl) T.g__law_pull T.F__law_pull.kp T.b__law_pull .nil pass0 (pa_cons (pv 0) (pa_cons (pe_callB (cl_lenK (K := K)) (by rfl) T.n_len (by decide +kernel) (pa_cons (pe_ix (ix_tupK (K := K)) (pv 1) pe_int (fun _ _ => rfl)) pa_nil)) pa_nil))) (fun _ _ => rfl)) pe_int (fun _ _ => rfl)) pa_nil)) (by rfl)) (pss_cons (ps_set (i := 4) sc__law_right.nd rfl (.inl rfl) (pe_tupF (pa_cons (pe_ifExp (pt_cmpR op_gt (pe_callB (cl_lenK (K := K)) (by rfl) T.n_len (by decide +kernel) (pa_cons (pe_ix (ix_tupK (K := K)) (pv 1) pe_int (fun _ _ => rfl)) pa_nil)) pe_int (nomark _)) (pe_slice (sl_tupK (K := K)) (pe_ix (ix_tupK (K := K)) (pv 1) pe_int (fun _ _ => rfl)) (po_some pe_int) po_none) (pe_tupF (pa_cons (pe_tupF (pa_cons pe_str (pa_cons pe_int pa_nil))) pa_nil))) (pa_cons (pe_tupF pa_nil) pa_nil)))) (pss_cons (ps_set (i := 5) sc__law_right.nd rfl (.inl rfl) (pe_make T.mk_Peal O_Peal___init__ (hr.mono (by decide)) (by rfl) T.mg_Peal T.b_Peal___init__ .nil pass0 (pa_cons (pe_ix (ix_tupK (K := K)) (pv 4) pe_int (fun _ _ => rfl)) (pa_cons (pe_ix (ix_tupK (K := K)) (pv 4) pe_int (fun _ _ => rfl)) pa_nil)))) (pss_cons (ps_set (i := 6) sc__law_right.nd rfl (.inl rfl) (pe_op op_cat (pe_call O__law_edges (hr.mono (by decide)) (by rfl) T.g__law_edges T.F__law_edges.kp T.b__law_edges .nil pass0 (pa_cons (pv 3) pa_nil)) (pe_lst (pa_cons (pe_tupF pa_nil) (pa_cons pe_non (pa_cons pe_str (pa_cons (pv 3) (pa_cons pe_int (pa_cons pe_bl (pa_cons (pe_lst pa_nil) (pa_cons pe_dnewK (pa_cons (pv 2) (pa_cons (pe_tupF (pa_cons pe_non pa_nil)) pa_nil))))))))))))) (pss_cons (ps_set (i := 6) sc__law_right.nd rfl (.inl rfl) (pe_op op_cat (pv 6) (pe_lst (pa_cons (pe_tupF (pa_cons (pe_tupF pa_nil) pa_nil)) (pa_cons (pe_tupF (pa_cons (pe_tupF (pa_cons (pe_tupF pa_nil) (pa_cons pe_int pa_nil))) pa_nil)) (pa_cons (pe_lst (pa_cons (pv 3) pa_nil)) (pa_cons (pe_tupF (pa_cons (pe_tupF (pa_cons (pv 3) pa_nil)) (pa_cons pe_int pa_nil))) pa_nil))))))) (pss_cons (ps_for PassesOwn.never rfl (pi_range1 (by rfl) T.n_range (pa_cons pe_int pa_nil)) (pg_name (i := 7) sc__law_right.nd rfl (.inl rfl)) (pss_cons (ps_set (i := 8) sc__law_right.nd rfl (.inl rfl) (pe_ix (ix_listK (K := K)) (pe_lst (pa_cons (pe_lst (pa_cons pe_int (pa_cons pe_int pa_nil))) (pa_cons (pe_lst (pa_cons pe_int (pa_cons pe_int pa_nil))) (pa_cons (pe_lst (pa_cons pe_int (pa_cons pe_int pa_nil))) (pa_cons (pe_lst (pa_cons pe_int (pa_cons pe_int pa_nil))) pa_nil))))) (pe_call O__law_pull (hr.mono (by decide)) (by rfl) T.g__law_pull T.F__law_pull.kp T.b__law_pull .nil pass0 (pa_cons (pv 0) (pa_cons pe_int pa_nil))) (fun _ _ => rfl))) (pss_cons (ps_set (i := 9) sc__law_right.nd rfl (.inl rfl) (pe_call O__law_tune (hr.mono (by decide)) (by rfl) T.g__law_tune T.F__law_tune.kp T.b__law_tune .nil pass0 (pa_cons (pv 0) (pa_cons (pv 1) (pa_cons (pe_ix (ix_listK (K := K)) (pv 8) pe_int (fun _ _ => rfl)) (pa_cons (pe_ix (ix_listK (K := K)) (pv 8) pe_int (fun _ _ => rfl)) (pa_cons (pe_ix (ix_listK (K := K)) (pe_lst (pa_cons pe_int (pa_cons (pe_op op_pow pe_int pe_int) pa_nil))) (pe_call O__law_pull (hr.mono (by decide)) (by rfl) T.g__law_pull T.F__law_pull.kp T.b__law_pull .nil pass0 (pa_cons (pv 0) (pa_cons pe_int pa_nil))) (fun _ _ => rfl)) pa_nil))))))) (pss_cons (ps_set (i := 10) sc__law_right.nd rfl (.inl rfl) (pe_call O__law_bent (hr.mono (by decide)) (by rfl) T.g__law_bent T.F__law_bent.kp T.b__law_bent .nil pass0 (pa_cons (pv 0) (pa_cons (pv 9) (pa_cons (pv 3) pa_nil))))) (pss_cons (ps_set (i := 11) sc__law_right.nd rfl (.inl rfl) (pe_ifExp (pt_cmpR op_ge (pe_call O__law_parts_in (hr.mono (by decide)) (by rfl) T.g__law_parts_in T.F__law_parts_in.kp T.b__law_parts_in .nil pass0 (pa_cons (pv 1) (pa_cons (pv 10) (pa_cons pe_int pa_nil)))) pe_int (nomark _)) (pe_call O__law_bent (hr.mono (by decide)) (by rfl) T.g__law_bent T.F__law_bent.kp T.b__law_bent .nil pass0 (pa_cons (pv 0) (pa_cons (pv 10) (pa_cons (pv 3) pa_nil)))) (pv 10))) (pss_cons (ps_set (i := 6) sc__law_right.nd rfl (.inl rfl) (pe_op op_cat (pv 6) (pe_lst (pa_cons (pv 9) (pa_cons (pv 10) (pa_cons (pv 11) pa_nil)))))) pss_nil)))))) (pss_cons (ps_for PassesOwn.never rfl (pi_listK (K := K) (pv 6)) (pg_name (i := 12) sc__law_right.nd rfl (.inl rfl)) (pss_cons (ps_set (i := 13) sc__law_right.nd rfl (.inl rfl) (pe_chain op_le op_le pe_int (pe_call O__law_parts_in (hr.mono (by decide)) (by rfl) T.g__law_parts_in T.F__law_parts_in.kp T.b__law_parts_in .nil pass0 (pa_cons (pv 1) (pa_cons (pv 12) (pa_cons pe_int pa_nil)))) pe_int)) (pss_cons (ps_if (pt_cmpR op_ne (pe_callB (cl_repr (K := K) hgd hr.units rfl) (by rfl) T.n_repr (by decide +kernel) (pa_cons (pe_lst (pa_cons (pe_call O_is_course (hr.mono (by decide)) (by rfl) T.g_is_course T.F_is_course.kp T.b_is_course .nil pass0 (pa_cons (pv 2) (pa_cons (pv 12) pa_nil))) (pa_cons (pe_callKw (g := @kw_is_course_thing_peal) O_is_course (hr.mono (by decide)) (by rfl) T.g_is_course T.F_is_course.kp T.kb_is_course_thing_peal pass0 (pk_cons (pv 12) (pk_cons (pv 2) pk_nil))) pa_nil))) pa_nil)) (pe_callB (cl_repr (K := K) hgd hr.units rfl) (by rfl) T.n_repr (by decide +kernel) (pa_cons (pe_lst (pa_cons (pv 13) (pa_cons (pv 13) pa_nil))) pa_nil)) (nomark _)) (pss_cons (ps_ret pe_bl) pss_nil) pss_nil) (pss_cons (ps_set (i := 14) sc__law_right.nd rfl (.inl rfl) (pe_chain op_le op_le pe_int (pe_call O__law_parts_in (hr.mono (by decide)) (by rfl) T.g__law_parts_in T.F__law_parts_in.kp T.b__law_parts_in .nil pass0 (pa_cons (pv 4) (pa_cons (pv 12) (pa_cons pe_int pa_nil)))) pe_int)) (pss_cons (ps_if (pt_cmpR op_ne (pe_callB (cl_repr (K := K) hgd hr.units rfl) (by rfl) T.n_repr (by decide +kernel) (pa_cons (pe_lst (pa_cons (pe_call O_is_course (hr.mono (by decide)) (by rfl) T.g_is_course T.F_is_course.kp T.b_is_course .nil pass0 (pa_cons (pv 5) (pa_cons (pv 12) pa_nil))) (pa_cons (pe_call O_is_course (hr.mono (by decide)) (by rfl) T.g_is_course T.F_is_course.kp T.b_is_course .nil pass0 (pa_cons (pv 2) (pa_cons (pv 12) pa_nil))) pa_nil))) pa_nil)) (pe_callB (cl_repr (K := K) hgd hr.units rfl) (by rfl) T.n_repr (by decide +kernel) (pa_cons (pe_lst (pa_cons (pv 14) (pa_cons (pv 13) pa_nil))) pa_nil)) (nomark _)) (pss_cons (ps_ret pe_bl) pss_nil) pss_nil) pss_nil))))) (pss_cons (ps_ret pe_bl) pss_nil))))))))), ?_⟩
    refine nrm (σ' := [some (.ref s), none, none, none, none, none, none, none, none, none, none, none, none, none, none]) rfl ?_
    obtain ⟨t1, e_t1, hm⟩ := bs hm
    refine q_set (σ' := fun v => [some (.ref s), some v, none, none, none, none, none, none, none, none, none, none, none, none, none]) (ev_callD (a := ((8 : Int), (24 : Int))) (r := t1.1) (z' := t1.2) hs e_t1 (ea_cons mo_ow (ev_own rfl) (ea_d (ev_int (K := K)) (ea_d (ev_int (K := K)) ea_nil)))) ok (fun _ => rfl) (fun v_l_kit_here G H s1 ok h_l_kit_here => ?_)
    have sg := sg.trans s1
    have ok : Ok _ (upd M0 s (sto t1.2)) _ := ok
    have hs : (upd M0 s (sto t1.2)) s = some (sto t1.2) := upd_same
    have hB : ∀ a u, a ≠ s → M0 a = some u → (upd M0 s (sto t1.2)) a = some u := (hB_draw hB)
    obtain ⟨M, eM⟩ : ∃ m, m = (upd M0 s (sto t1.2)) := ⟨_, rfl⟩
    rw [← eM] at ok hs hB
    clear eM
    obtain ⟨t2, e_t2, hm⟩ := bs hm
    obtain ⟨t3, e_t3, hm⟩ := bs hm
    obtain ⟨t4, e_t4, hm⟩ := bs hm
    refine q_par (σ' := fun v w => [some (.ref s), some v_l_kit_here, some v, some w, none, none, none, none, none, none, none, none, none, none, none]) (ea_d (ev_make (a := (t1.1.1, t1.1.2)) e_t2 (ea_d (ev_ixT (d := (eT (eP2 Dat.str Dat.int)) t1.1.1) rfl (ev_d (K := K) rfl h_l_kit_here) ev_int) (ea_d (ev_ixT (d := (eT (eP3 Dat.str Dat.str Dat.int)) t1.1.2) rfl (ev_d (K := K) rfl h_l_kit_here) ev_int) ea_nil))) (ea_d (ev_ixT (d := Dat.str t4.1) rfl (ev_ixTM (e := (eP2 Dat.str Dat.int)) e_t4 (ev_ixT (d := (eT (eP2 Dat.str Dat.int)) t1.1.1) rfl (ev_d (K := K) rfl h_l_kit_here) ev_int) (ev_callD (a := (t1.1.1.length : Int)) (r := t3.1) (z' := t3.2) hs e_t3 (ea_cons mo_ow (ev_own rfl) (ea_d (ev_lenTM (e := (eP2 Dat.str Dat.int)) (ea_d (ev_ixT (d := (eT (eP2 Dat.str Dat.int)) t1.1.1) rfl (ev_d (K := K) rfl h_l_kit_here) ev_int) ea_nil)) ea_nil)))) ev_int) ea_nil)) ok (fun _ _ => rfl) (fun v_l_tower v_l_call G H s1 ok h_l_tower h_l_call => ?_)
    have h_l_kit_here := dp_up s1 _ h_l_kit_here
    have sg := sg.trans s1
    have ok : Ok _ (upd M s (sto t3.2)) _ := ok
    have hs : (upd M s (sto t3.2)) s = some (sto t3.2) := upd_same
    have hB : ∀ a u, a ≠ s → M0 a = some u → (upd M s (sto t3.2)) a = some u := (hB_draw hB)
    obtain ⟨M, eM⟩ : ∃ m, m = (upd M s (sto t3.2)) := ⟨_, rfl⟩
    rw [← eM] at ok hs hB
    clear eM
    refine q_set (σ' := fun v => [some (.ref s), some v_l_kit_here, some v_l_tower, some v_l_call, some v, none, none, none, none, none, none, none, none, none, none]) (ev_tup (ea_consD (ev_ifC (e := (eT (eP2 Dat.str Dat.int))) (x := (cut t1.1.1 (some (1 : Int)) none)) (y := ([((Str.ofString "qq"), (5 : Int))] : (List (Str × Int)))) (et_test (ev_gt (ev_lenTM (e := (eP2 Dat.str Dat.int)) (ea_d (ev_ixT (d := (eT (eP2 Dat.str Dat.int)) t1.1.1) rfl (ev_d (K := K) rfl h_l_kit_here) ev_int) ea_nil)) (ev_int (K := K)))) (fun _ => (ev_slTM (e := (eP2 Dat.str Dat.int)) (ev_ixT (d := (eT (eP2 Dat.str Dat.int)) t1.1.1) rfl (ev_d (K := K) rfl h_l_kit_here) ev_int) (eo_some (ev_int (K := K))) eo_none)) (fun _ => (ev_tup (ea_consD (ev_tup (ea_consD (ev_str (K := K) (by decide +kernel)) (ea_consD (ev_int (K := K)) (ea_nilD (K := K))))) (ea_nilD (K := K)))))) (ea_consD (ev_tup (ea_nilD (K := K))) (ea_nilD (K := K))))) ok (fun _ => rfl) (fun v_l_bare G H s1 ok h_l_bare => ?_)
    have h_l_kit_here := dp_up s1 _ h_l_kit_here
    have h_l_tower := dp_up s1 _ h_l_tower
    have h_l_call := dp_up s1 _ h_l_call
    have sg := sg.trans s1
    obtain ⟨t5, e_t5, hm⟩ := bs hm
    refine q_set (σ' := fun v => [some (.ref s), some v_l_kit_here, some v_l_tower, some v_l_call, some v_l_bare, some v, none, none, none, none, none, none, none, none, none]) (ev_make (a := (((cond (decide ((1 : Int) < (t1.1.1.length : Int))) (cut t1.1.1 (some (1 : Int)) none) ([((Str.ofString "qq"), (5 : Int))] : (List (Str × Int)))), ([] : (List (Str × Str × Int)))).1, ((cond (decide ((1 : Int) < (t1.1.1.length : Int))) (cut t1.1.1 (some (1 : Int)) none) ([((Str.ofString "qq"), (5 : Int))] : (List (Str × Int)))), ([] : (List (Str × Str × Int)))).2)) e_t5 (ea_d (ev_ixT (d := (eT (eP2 Dat.str Dat.int)) ((cond (decide ((1 : Int) < (t1.1.1.length : Int))) (cut t1.1.1 (some (1 : Int)) none) ([((Str.ofString "qq"), (5 : Int))] : (List (Str × Int)))), ([] : (List (Str × Str × Int)))).1) rfl (ev_d (K := K) rfl h_l_bare) ev_int) (ea_d (ev_ixT (d := (eT (eP3 Dat.str Dat.str Dat.int)) ((cond (decide ((1 : Int) < (t1.1.1.length : Int))) (cut t1.1.1 (some (1 : Int)) none) ([((Str.ofString "qq"), (5 : Int))] : (List (Str × Int)))), ([] : (List (Str × Str × Int)))).2) rfl (ev_d (K := K) rfl h_l_bare) ev_int) ea_nil))) ok (fun _ => rfl) (fun v_l_there G H s1 ok h_l_there => ?_)
    have h_l_kit_here := dp_up s1 _ h_l_kit_here
    have h_l_tower := dp_up s1 _ h_l_tower
    have h_l_call := dp_up s1 _ h_l_call
    have h_l_bare := dp_up s1 _ h_l_bare
    have sg := sg.trans s1
    obtain ⟨t6, e_t6, hm⟩ := bs hm
    obtain ⟨t7, e_t7, hm⟩ := bs hm
    refine q_set (σ' := fun v => [some (.ref s), some v_l_kit_here, some v_l_tower, some v_l_call, some v_l_bare, some v_l_there, some v, none, none, none, none, none, none, none, none]) (EvL.ev (el_catO (e := id) e_t7 (ev_callP (res := fun r => DD K ((eL id) r)) (a := t4.1) e_t6 (ea_d (ev_d (K := K) rfl h_l_call) ea_nil)) (EvL.ev (el_lst (ea_consD (ev_tup (ea_nilD (K := K))) (ea_consD (ev_non (K := K)) (ea_consD (ev_str (K := K) (by decide +kernel)) (ea_consD (ev_d (K := K) rfl h_l_call) (ea_consD (ev_int (K := K)) (ea_consD (ev_bl (K := K)) (ea_consD (EvL.ev (el_lst (ea_nilD (K := K)))) (ea_consD (EvD.ev (ed_new (K := K) (e := Dat.int))) (ea_consD (ev_d (K := K) rfl h_l_tower) (ea_consD (ev_tup (ea_consD (ev_non (K := K)) (ea_nilD (K := K)))) (ea_nilD (K := K)))))))))))))))) ok (fun _ => rfl) (fun v_l_items G H s1 ok h_l_items => ?_)
    have h_l_kit_here := dp_up s1 _ h_l_kit_here
    have h_l_tower := dp_up s1 _ h_l_tower
    have h_l_call := dp_up s1 _ h_l_call
    have h_l_bare := dp_up s1 _ h_l_bare
    have h_l_there := dp_up s1 _ h_l_there
    have sg := sg.trans s1
    obtain ⟨t8, e_t8, hm⟩ := bs hm
    refine q_set (σ' := fun v => [some (.ref s), some v_l_kit_here, some v_l_tower, some v_l_call, some v_l_bare, some v_l_there, some v, none, none, none, none, none, none, none, none]) (EvL.ev (el_catO (e := id) e_t8 (ev_d (K := K) rfl h_l_items) (EvL.ev (el_lst (ea_consD (ev_tup (ea_consD (ev_tup (ea_nilD (K := K))) (ea_nilD (K := K)))) (ea_consD (ev_tup (ea_consD (ev_tup (ea_consD (ev_tup (ea_nilD (K := K))) (ea_consD (ev_int (K := K)) (ea_nilD (K := K))))) (ea_nilD (K := K)))) (ea_consD (EvL.ev (el_lst (ea_consD (ev_d (K := K) rfl h_l_call) (ea_nilD (K := K))))) (ea_consD (ev_tup (ea_consD (ev_tup (ea_consD (ev_d (K := K) rfl h_l_call) (ea_nilD (K := K)))) (ea_consD (ev_int (K := K)) (ea_nilD (K := K))))) (ea_nilD (K := K)))))))))) ok (fun _ => rfl) (fun v_l_items G H s1 ok h_l_items => ?_)
    have h_l_kit_here := dp_up s1 _ h_l_kit_here
    have h_l_tower := dp_up s1 _ h_l_tower
    have h_l_call := dp_up s1 _ h_l_call
    have h_l_bare := dp_up s1 _ h_l_bare
    have h_l_there := dp_up s1 _ h_l_there
    have sg := sg.trans s1
    obtain ⟨t9, e_t9, hm⟩ := bs hm
    obtain ⟨fin10, e_fin10, hm⟩ := bs hm
    have hmo13 := hm
    refine q_forO (ea := Dat.int) (src_rngO e_t9 (ea_d (ev_int (K := K)) ea_nil)) ok (fun (st11 : (List Dat) × Sto) σ1 G1 M1 => ∃ (y_l_wide : Option V) (y_l_tune_here : Option V) (y_l_bent_here : Option V) (y_l_again : Option V) (y_l_turn : Option V) (v_l_items : V), σ1 = [some (.ref s), some v_l_kit_here, some v_l_tower, some v_l_call, some v_l_bare, some v_l_there, some v_l_items, y_l_turn, y_l_wide, y_l_tune_here, y_l_bent_here, y_l_again, none, none, none] ∧ (Dq K G1 v_l_items ((eL id) st11.1)) ∧ (M1 s = some (sto st11.2)) ∧ (∀ a u, a ≠ s → M0 a = some u → M1 a = some u)) e_fin10 (fun G1 s1 => ⟨_, _, _, _, _, _, rfl, dp_up s1 _ h_l_items, hs, hB⟩) (by rintro _ _ _ _ _ ⟨y_l_wide, y_l_tune_here, y_l_bent_here, y_l_again, y_l_turn, v_l_items, rfl, h_l_items, hs, hB⟩ s2; exact ⟨_, _, _, _, _, _, rfl, dp_up s2 _ h_l_items, hs, hB⟩) (fun x12 xv15 st11 st' σ1 G M H N hm hj s1 ok hv hN => ?_) (fun σ1 G M H s1 ok hj => ?_)
    · obtain ⟨y_l_wide, y_l_tune_here, y_l_bent_here, y_l_again, y_l_turn, v_l_items, rfl, h_l_items, hs, hB⟩ := hj
      have h_l_kit_here := dp_up s1 _ h_l_kit_here
      have h_l_tower := dp_up s1 _ h_l_tower
      have h_l_call := dp_up s1 _ h_l_call
      have h_l_bare := dp_up s1 _ h_l_bare
      have h_l_there := dp_up s1 _ h_l_there
      have sg := sg.trans s1
      have sl16 := Same.refl G
      refine gn ?_
      have h_l_turn := hv
      cases h_l_turn
      refine nrm (σ' := [some (.ref s), some v_l_kit_here, some v_l_tower, some v_l_call, some v_l_bare, some v_l_there, some v_l_items, some (.int x12), y_l_wide, y_l_tune_here, y_l_bent_here, y_l_again, none, none, none]) rfl ?_
      obtain ⟨t17, e_t17, hm⟩ := bs hm
      obtain ⟨t18, e_t18, hm⟩ := bs hm
      refine q_set (σ' := fun v => [some (.ref s), some v_l_kit_here, some v_l_tower, some v_l_call, some v_l_bare, some v_l_there, some v_l_items, some (.int x12), some v, y_l_tune_here, y_l_bent_here, y_l_again, none, none, none]) (ev_ixLM (e := (eL Dat.int)) e_t18 (EvL.ev (el_lst (ea_consD (EvL.ev (el_lst (ea_consD (ev_int (K := K)) (ea_consD (ev_int (K := K)) (ea_nilD (K := K)))))) (ea_consD (EvL.ev (el_lst (ea_consD (ev_int (K := K)) (ea_consD (ev_int (K := K)) (ea_nilD (K := K)))))) (ea_consD (EvL.ev (el_lst (ea_consD (ev_int (K := K)) (ea_consD (ev_int (K := K)) (ea_nilD (K := K)))))) (ea_consD (EvL.ev (el_lst (ea_consD (ev_int (K := K)) (ea_consD (ev_int (K := K)) (ea_nilD (K := K)))))) (ea_nilD (K := K)))))))) (ev_callD (a := (4 : Int)) (r := t17.1) (z' := t17.2) hs e_t17 (ea_cons mo_ow (ev_own rfl) (ea_d (ev_int (K := K)) ea_nil)))) ok (fun _ => rfl) (fun v_l_wide G H s1 ok h_l_wide => ?_)
      have h_l_kit_here := dp_up s1 _ h_l_kit_here
      have h_l_tower := dp_up s1 _ h_l_tower
      have h_l_call := dp_up s1 _ h_l_call
      have h_l_bare := dp_up s1 _ h_l_bare
      have h_l_there := dp_up s1 _ h_l_there
      have h_l_items := dp_up s1 _ h_l_items
      have sg := sg.trans s1
      have sl16 := sl16.trans s1
      have ok : Ok _ (upd M s (sto t17.2)) _ := ok
      have hs : (upd M s (sto t17.2)) s = some (sto t17.2) := upd_same
      have hB : ∀ a u, a ≠ s → M0 a = some u → (upd M s (sto t17.2)) a = some u := (hB_draw hB)
      obtain ⟨M, eM⟩ : ∃ m, m = (upd M s (sto t17.2)) := ⟨_, rfl⟩
      rw [← eM] at ok hs hB
      clear eM
      obtain ⟨t19, e_t19, hm⟩ := bs hm
      obtain ⟨t20, e_t20, hm⟩ := bs hm
      obtain ⟨t21, e_t21, hm⟩ := bs hm
      obtain ⟨t22, e_t22, hm⟩ := bs hm
      obtain ⟨t23, e_t23, hm⟩ := bs hm
      obtain ⟨t24, e_t24, hm⟩ := bs hm
      refine q_set (σ' := fun v => [some (.ref s), some v_l_kit_here, some v_l_tower, some v_l_call, some v_l_bare, some v_l_there, some v_l_items, some (.int x12), some v_l_wide, some v, y_l_bent_here, y_l_again, none, none, none]) (ev_callD (a := (t1.1, t19, t20, t23)) (r := t24.1) (z' := t24.2) upd_same e_t24 (ea_cons mo_ow (ev_own rfl) (ea_d (ev_d (K := K) rfl h_l_kit_here) (ea_d (ev_ixLM (e := Dat.int) e_t19 (ev_d (K := K) rfl h_l_wide) (ev_int (K := K))) (ea_d (ev_ixLM (e := Dat.int) e_t20 (ev_d (K := K) rfl h_l_wide) (ev_int (K := K))) (ea_d (ev_ixLM (e := Dat.int) e_t23 (EvL.ev (el_lst (ea_consD (ev_int (K := K)) (ea_consD (ev_powO e_t21 (ev_int (K := K)) (ev_int (K := K))) (ea_nilD (K := K)))))) (ev_callD (a := (2 : Int)) (r := t22.1) (z' := t22.2) hs e_t22 (ea_cons mo_ow (ev_own rfl) (ea_d (ev_int (K := K)) ea_nil)))) ea_nil)))))) ok (fun _ => rfl) (fun v_l_tune_here G H s1 ok h_l_tune_here => ?_)
      have h_l_kit_here := dp_up s1 _ h_l_kit_here
      have h_l_tower := dp_up s1 _ h_l_tower
      have h_l_call := dp_up s1 _ h_l_call
      have h_l_bare := dp_up s1 _ h_l_bare
      have h_l_there := dp_up s1 _ h_l_there
      have h_l_items := dp_up s1 _ h_l_items
      have h_l_wide := dp_up s1 _ h_l_wide
      have sg := sg.trans s1
      have sl16 := sl16.trans s1
      have ok : Ok _ (upd (upd M s (sto t22.2)) s (sto t24.2)) _ := ok
      have hs : (upd (upd M s (sto t22.2)) s (sto t24.2)) s = some (sto t24.2) := upd_same
      have hB : ∀ a u, a ≠ s → M0 a = some u → (upd (upd M s (sto t22.2)) s (sto t24.2)) a = some u := (hB_draw (hB_draw hB))
      obtain ⟨M, eM⟩ : ∃ m, m = (upd (upd M s (sto t22.2)) s (sto t24.2)) := ⟨_, rfl⟩
      rw [← eM] at ok hs hB
      clear eM
      obtain ⟨t25, e_t25, hm⟩ := bs hm
      refine q_set (σ' := fun v => [some (.ref s), some v_l_kit_here, some v_l_tower, some v_l_call, some v_l_bare, some v_l_there, some v_l_items, some (.int x12), some v_l_wide, some v_l_tune_here, some v, y_l_again, none, none, none]) (ev_callD (a := (t24.1, t4.1)) (r := t25.1) (z' := t25.2) hs e_t25 (ea_cons mo_ow (ev_own rfl) (ea_d (ev_d (K := K) rfl h_l_tune_here) (ea_d (ev_d (K := K) rfl h_l_call) ea_nil)))) ok (fun _ => rfl) (fun v_l_bent_here G H s1 ok h_l_bent_here => ?_)
      have h_l_kit_here := dp_up s1 _ h_l_kit_here
      have h_l_tower := dp_up s1 _ h_l_tower
      have h_l_call := dp_up s1 _ h_l_call
      have h_l_bare := dp_up s1 _ h_l_bare
      have h_l_there := dp_up s1 _ h_l_there
      have h_l_items := dp_up s1 _ h_l_items
      have h_l_wide := dp_up s1 _ h_l_wide
      have h_l_tune_here := dp_up s1 _ h_l_tune_here
      have sg := sg.trans s1
      have sl16 := sl16.trans s1
      have ok : Ok _ (upd M s (sto t25.2)) _ := ok
      have hs : (upd M s (sto t25.2)) s = some (sto t25.2) := upd_same
      have hB : ∀ a u, a ≠ s → M0 a = some u → (upd M s (sto t25.2)) a = some u := (hB_draw hB)
      obtain ⟨M, eM⟩ : ∃ m, m = (upd M s (sto t25.2)) := ⟨_, rfl⟩
      rw [← eM] at ok hs hB
      clear eM
      obtain ⟨t26, e_t26, hm⟩ := bs hm
      obtain ⟨t29, e_t29, hm⟩ := bs hm
      refine q_set (σ' := fun v => [some (.ref s), some v_l_kit_here, some v_l_tower, some v_l_call, some v_l_bare, some v_l_there, some v_l_items, some (.int x12), some v_l_wide, some v_l_tune_here, some v_l_bent_here, some v, none, none, none]) (ev_if (M2 := upd M s (sto t29.2)) (P := DD K (id t29.1)) (et_test (ev_ge (ev_callP (res := fun r => DD K (Dat.int r)) (a := (t1.1, t25.1, (1 : Int))) e_t26 (ea_d (ev_d (K := K) rfl h_l_kit_here) (ea_d (ev_d (K := K) rfl h_l_bent_here) (ea_d (ev_int (K := K)) ea_nil)))) (ev_int (K := K)))) (fun eb => by have e1 := cond_t eb e_t29; (obtain ⟨t27, e_t27, e1⟩ := bs e1); (obtain ⟨t28, e_t28, e1⟩ := bs e1); cases e1; exact (ev_callD (a := (t27, t4.1)) (r := t28.1) (z' := t28.2) hs e_t28 (ea_cons mo_ow (ev_own rfl) (ea_d (ev_tupD e_t27 (ev_d (K := K) rfl h_l_bent_here)) (ea_d (ev_d (K := K) rfl h_l_call) ea_nil))))) (fun eb => by have e1 := cond_f eb e_t29; cases e1; rw [upd_back hs]; exact (ev_d (K := K) rfl h_l_bent_here))) ok (fun _ => rfl) (fun v_l_again G H s1 ok h_l_again => ?_)
      have h_l_kit_here := dp_up s1 _ h_l_kit_here
      have h_l_tower := dp_up s1 _ h_l_tower
      have h_l_call := dp_up s1 _ h_l_call
      have h_l_bare := dp_up s1 _ h_l_bare
      have h_l_there := dp_up s1 _ h_l_there
      have h_l_items := dp_up s1 _ h_l_items
      have h_l_wide := dp_up s1 _ h_l_wide
      have h_l_tune_here := dp_up s1 _ h_l_tune_here
      have h_l_bent_here := dp_up s1 _ h_l_bent_here
      have sg := sg.trans s1
      have sl16 := sl16.trans s1
      have ok : Ok _ (upd M s (sto t29.2)) _ := ok
      have hs : (upd M s (sto t29.2)) s = some (sto t29.2) := upd_same
      have hB : ∀ a u, a ≠ s → M0 a = some u → (upd M s (sto t29.2)) a = some u := (hB_draw hB)
      obtain ⟨M, eM⟩ : ∃ m, m = (upd M s (sto t29.2)) := ⟨_, rfl⟩
      rw [← eM] at ok hs hB
      clear eM
      obtain ⟨t30, e_t30, hm⟩ := bs hm
      refine q_set (σ' := fun v => [some (.ref s), some v_l_kit_here, some v_l_tower, some v_l_call, some v_l_bare, some v_l_there, some v, some (.int x12), some v_l_wide, some v_l_tune_here, some v_l_bent_here, some v_l_again, none, none, none]) (EvL.ev (el_catO (e := id) e_t30 (ev_d (K := K) rfl h_l_items) (EvL.ev (el_lst (ea_consD (ev_d (K := K) rfl h_l_tune_here) (ea_consD (ev_d (K := K) rfl h_l_bent_here) (ea_consD (ev_d (K := K) rfl h_l_again) (ea_nilD (K := K))))))))) ok (fun _ => rfl) (fun v_l_items G H s1 ok h_l_items => ?_)
      have h_l_kit_here := dp_up s1 _ h_l_kit_here
      have h_l_tower := dp_up s1 _ h_l_tower
      have h_l_call := dp_up s1 _ h_l_call
      have h_l_bare := dp_up s1 _ h_l_bare
      have h_l_there := dp_up s1 _ h_l_there
      have h_l_wide := dp_up s1 _ h_l_wide
      have h_l_tune_here := dp_up s1 _ h_l_tune_here
      have h_l_bent_here := dp_up s1 _ h_l_bent_here
      have h_l_again := dp_up s1 _ h_l_again
      have sg := sg.trans s1
      have sl16 := sl16.trans s1
      refine q_nil ?_
      cases hm
      exact hN _ _ _ _ sl16 ok ⟨_, _, _, _, _, _, rfl, h_l_items, hs, hB⟩
    · obtain ⟨y_l_wide, y_l_tune_here, y_l_bent_here, y_l_again, y_l_turn, v_l_items, rfl, h_l_items, hs, hB⟩ := hj
      have h_l_kit_here := dp_up s1 _ h_l_kit_here
      have h_l_tower := dp_up s1 _ h_l_tower
      have h_l_call := dp_up s1 _ h_l_call
      have h_l_bare := dp_up s1 _ h_l_bare
      have h_l_there := dp_up s1 _ h_l_there
      have sg := sg.trans s1
      obtain ⟨fin31, e_fin31, hm⟩ := bs hm
      have hmo34 := hm
      refine q_forR (ea := id) (src_list (ev_d (K := K) rfl h_l_items)) ok (fun (st32 : Unit) σ1 G1 M1 => ∃ (y_l_due : Option V) (y_l_due_there : Option V) (y_l_item : Option V), σ1 = [some (.ref s), some v_l_kit_here, some v_l_tower, some v_l_call, some v_l_bare, some v_l_there, some v_l_items, y_l_turn, y_l_wide, y_l_tune_here, y_l_bent_here, y_l_again, y_l_item, y_l_due, y_l_due_there] ∧ (M1 s = some (sto fin10.2)) ∧ (∀ a u, a ≠ s → M0 a = some u → M1 a = some u)) e_fin31 (fun G1 s1 => ⟨_, _, _, rfl, hs, hB⟩) (by rintro _ _ _ _ _ ⟨y_l_due, y_l_due_there, y_l_item, rfl, hs, hB⟩ s2; exact ⟨_, _, _, rfl, hs, hB⟩) (fun x33 xv36 st32 st' σ1 G M H N hm hret35 hj s1 ok hv hN => ?_) (fun fin31s σ1 G M H hfin s1 ok hj => ?_)
      · obtain ⟨y_l_due, y_l_due_there, y_l_item, rfl, hs, hB⟩ := hj
        have h_l_kit_here := dp_up s1 _ h_l_kit_here
        have h_l_tower := dp_up s1 _ h_l_tower
        have h_l_call := dp_up s1 _ h_l_call
        have h_l_bare := dp_up s1 _ h_l_bare
        have h_l_there := dp_up s1 _ h_l_there
        have h_l_items := dp_up s1 _ h_l_items
        have sg := sg.trans s1
        have sl37 := Same.refl G
        refine gn ?_
        have h_l_item := hv
        refine nrm (σ' := [some (.ref s), some v_l_kit_here, some v_l_tower, some v_l_call, some v_l_bare, some v_l_there, some v_l_items, y_l_turn, y_l_wide, y_l_tune_here, y_l_bent_here, y_l_again, some xv36, y_l_due, y_l_due_there]) rfl ?_
        obtain ⟨t38, e_t38, hm⟩ := bs hm
        refine q_set (σ' := fun v => [some (.ref s), some v_l_kit_here, some v_l_tower, some v_l_call, some v_l_bare, some v_l_there, some v_l_items, y_l_turn, y_l_wide, y_l_tune_here, y_l_bent_here, y_l_again, some xv36, some v, y_l_due_there]) (ev_chainI (ev_int (K := K)) (ev_callP (res := fun r => DD K (Dat.int r)) (a := (t1.1, x33, (1 : Int))) e_t38 (ea_d (ev_d (K := K) rfl h_l_kit_here) (ea_d (ev_d (K := K) rfl h_l_item) (ea_d (ev_int (K := K)) ea_nil)))) (ev_int (K := K))) ok (fun _ => rfl) (fun v_l_due G H s1 ok h_l_due => ?_)
        have h_l_kit_here := dp_up s1 _ h_l_kit_here
        have h_l_tower := dp_up s1 _ h_l_tower
        have h_l_call := dp_up s1 _ h_l_call
        have h_l_bare := dp_up s1 _ h_l_bare
        have h_l_there := dp_up s1 _ h_l_there
        have h_l_items := dp_up s1 _ h_l_items
        have h_l_item := dp_up s1 _ h_l_item
        have sg := sg.trans s1
        have sl37 := sl37.trans s1
        cases h_l_due
        obtain ⟨t39, e_t39, hm⟩ := bs hm
        obtain ⟨t40, e_t40, hm⟩ := bs hm
        obtain ⟨t41, e_t41, hm⟩ := bs hm
        obtain ⟨t42, e_t42, hm⟩ := bs hm
        refine q_if (et_test (ev_neS (ev_repr (d := (Dat.list [Dat.bool t39, Dat.bool t40])) (pur_l2 (EqE.pur eqe_bool _) (EqE.pur eqe_bool _)) rfl e_t41 (ea_d (EvL.ev (el_lst (ea_consD (ev_callP (res := fun r => DD K (Dat.bool r)) (a := (t2, x33)) e_t39 (ea_d (ev_d (K := K) rfl h_l_tower) (ea_d (ev_d (K := K) rfl h_l_item) ea_nil))) (ea_consD (ev_callKP (res := fun r => DD K (Dat.bool r)) (a := (t2, x33)) e_t40 (fun _ _ h => kwp_is_course_thing_peal h) (ea_d (ev_d (K := K) rfl h_l_item) (ea_d (ev_d (K := K) rfl h_l_tower) ea_nil))) (ea_nilD (K := K)))))) ea_nil)) (ev_repr (d := (Dat.list [Dat.bool ((decide ((0 : Int) ≤ t38)) && (decide (t38 ≤ (120 : Int)))), Dat.bool ((decide ((0 : Int) ≤ t38)) && (decide (t38 ≤ (120 : Int))))])) (pur_l2 (EqE.pur eqe_bool _) (EqE.pur eqe_bool _)) rfl e_t42 (ea_d (EvL.ev (el_lst (ea_consD (ev_d (K := K) rfl (.bl _)) (ea_consD (ev_d (K := K) rfl (.bl _)) (ea_nilD (K := K)))))) ea_nil)))) ok (fun hb G H s1 ok => ?_) (fun hb G H s1 ok => ?_)
        · have hm := cond_t hb hm
          have h_l_kit_here := dp_up s1 _ h_l_kit_here
          have h_l_tower := dp_up s1 _ h_l_tower
          have h_l_call := dp_up s1 _ h_l_call
          have h_l_bare := dp_up s1 _ h_l_bare
          have h_l_there := dp_up s1 _ h_l_there
          have h_l_items := dp_up s1 _ h_l_items
          have h_l_item := dp_up s1 _ h_l_item
          have sg := sg.trans s1
          have sl37 := sl37.trans s1
          refine q_ret (ev_bl (K := K)) ok (fun v G H s1 ok hv => ?_)
          have sg := sg.trans s1
          cases hm
          have hf0 := hret35 _ rfl
          rw [hf0] at hmo34
          have hmx0 := hmo34
          cases hmx0
          exact q v G H sg (ok.less (same_fin hB hs)) hv
        · have hm := cond_f hb hm
          have h_l_kit_here := dp_up s1 _ h_l_kit_here
          have h_l_tower := dp_up s1 _ h_l_tower
          have h_l_call := dp_up s1 _ h_l_call
          have h_l_bare := dp_up s1 _ h_l_bare
          have h_l_there := dp_up s1 _ h_l_there
          have h_l_items := dp_up s1 _ h_l_items
          have h_l_item := dp_up s1 _ h_l_item
          have sg := sg.trans s1
          have sl37 := sl37.trans s1
          refine q_nilU ?_
          obtain ⟨t43, e_t43, hm⟩ := bs hm
          refine q_set (σ' := fun v => [some (.ref s), some v_l_kit_here, some v_l_tower, some v_l_call, some v_l_bare, some v_l_there, some v_l_items, y_l_turn, y_l_wide, y_l_tune_here, y_l_bent_here, y_l_again, some xv36, some (.bl ((decide ((0 : Int) ≤ t38)) && (decide (t38 ≤ (120 : Int))))), some v]) (ev_chainI (ev_int (K := K)) (ev_callP (res := fun r => DD K (Dat.int r)) (a := (((cond (decide ((1 : Int) < (t1.1.1.length : Int))) (cut t1.1.1 (some (1 : Int)) none) ([((Str.ofString "qq"), (5 : Int))] : (List (Str × Int)))), ([] : (List (Str × Str × Int)))), x33, (1 : Int))) e_t43 (ea_d (ev_d (K := K) rfl h_l_bare) (ea_d (ev_d (K := K) rfl h_l_item) (ea_d (ev_int (K := K)) ea_nil)))) (ev_int (K := K))) ok (fun _ => rfl) (fun v_l_due_there G H s1 ok h_l_due_there => ?_)
          have h_l_kit_here := dp_up s1 _ h_l_kit_here
          have h_l_tower := dp_up s1 _ h_l_tower
          have h_l_call := dp_up s1 _ h_l_call
          have h_l_bare := dp_up s1 _ h_l_bare
          have h_l_there := dp_up s1 _ h_l_there
          have h_l_items := dp_up s1 _ h_l_items
          have h_l_item := dp_up s1 _ h_l_item
          have sg := sg.trans s1
          have sl37 := sl37.trans s1
          cases h_l_due_there
          obtain ⟨t44, e_t44, hm⟩ := bs hm
          obtain ⟨t45, e_t45, hm⟩ := bs hm
          obtain ⟨t46, e_t46, hm⟩ := bs hm
          obtain ⟨t47, e_t47, hm⟩ := bs hm
          refine q_if (et_test (ev_neS (ev_repr (d := (Dat.list [Dat.bool t44, Dat.bool t45])) (pur_l2 (EqE.pur eqe_bool _) (EqE.pur eqe_bool _)) rfl e_t46 (ea_d (EvL.ev (el_lst (ea_consD (ev_callP (res := fun r => DD K (Dat.bool r)) (a := (t5, x33)) e_t44 (ea_d (ev_d (K := K) rfl h_l_there) (ea_d (ev_d (K := K) rfl h_l_item) ea_nil))) (ea_consD (ev_callP (res := fun r => DD K (Dat.bool r)) (a := (t2, x33)) e_t45 (ea_d (ev_d (K := K) rfl h_l_tower) (ea_d (ev_d (K := K) rfl h_l_item) ea_nil))) (ea_nilD (K := K)))))) ea_nil)) (ev_repr (d := (Dat.list [Dat.bool ((decide ((0 : Int) ≤ t43)) && (decide (t43 ≤ (120 : Int)))), Dat.bool ((decide ((0 : Int) ≤ t38)) && (decide (t38 ≤ (120 : Int))))])) (pur_l2 (EqE.pur eqe_bool _) (EqE.pur eqe_bool _)) rfl e_t47 (ea_d (EvL.ev (el_lst (ea_consD (ev_d (K := K) rfl (.bl _)) (ea_consD (ev_d (K := K) rfl (.bl _)) (ea_nilD (K := K)))))) ea_nil)))) ok (fun hb G H s1 ok => ?_) (fun hb G H s1 ok => ?_)
          · have hm := cond_t hb hm
            have h_l_kit_here := dp_up s1 _ h_l_kit_here
            have h_l_tower := dp_up s1 _ h_l_tower
            have h_l_call := dp_up s1 _ h_l_call
            have h_l_bare := dp_up s1 _ h_l_bare
            have h_l_there := dp_up s1 _ h_l_there
            have h_l_items := dp_up s1 _ h_l_items
            have h_l_item := dp_up s1 _ h_l_item
            have sg := sg.trans s1
            have sl37 := sl37.trans s1
            refine q_ret (ev_bl (K := K)) ok (fun v G H s1 ok hv => ?_)
            have sg := sg.trans s1
            cases hm
            have hf0 := hret35 _ rfl
            rw [hf0] at hmo34
            have hmx0 := hmo34
            cases hmx0
            exact q v G H sg (ok.less (same_fin hB hs)) hv
          · have hm := cond_f hb hm
            have h_l_kit_here := dp_up s1 _ h_l_kit_here
            have h_l_tower := dp_up s1 _ h_l_tower
            have h_l_call := dp_up s1 _ h_l_call
            have h_l_bare := dp_up s1 _ h_l_bare
            have h_l_there := dp_up s1 _ h_l_there
            have h_l_items := dp_up s1 _ h_l_items
            have h_l_item := dp_up s1 _ h_l_item
            have sg := sg.trans s1
            have sl37 := sl37.trans s1
            refine q_nilU ?_
            refine q_nil ?_
            cases hm
            exact hN _ _ _ _ _ rfl sl37 ok ⟨_, _, _, rfl, hs, hB⟩
      · obtain ⟨y_l_due, y_l_due_there, y_l_item, rfl, hs, hB⟩ := hj
        have h_l_kit_here := dp_up s1 _ h_l_kit_here
        have h_l_tower := dp_up s1 _ h_l_tower
        have h_l_call := dp_up s1 _ h_l_call
        have h_l_bare := dp_up s1 _ h_l_bare
        have h_l_there := dp_up s1 _ h_l_there
        have h_l_items := dp_up s1 _ h_l_items
        have sg := sg.trans s1
        rw [hfin] at hm
        have hm := orR_l hm
        refine q_ret (ev_bl (K := K)) ok (fun v G H s1 ok hv => ?_)
        have sg := sg.trans s1
        cases hm
        exact q v G H sg (ok.less (same_fin hB hs)) hv
/-! ### law -/
theorem sc_law : FnScope ["_law_script", "_law_k"] ["_law_script"] (defScope s_law) := ⟨rfl, rfl, rfl, by decide +kernel, rfl, by decide +kernel, by decide +kernel⟩
def a_law (K : PySem.W.Frag) (a : (List Int)) : List V → Hp → Prop := conP (SCP K a) (nilP)
def m_law (a : (List Int)) : Option Bool :=
  (rngO (if (if (6 : Int) < (a.length : Int) then (6 : Int) else (a.length : Int)) > (2 : Int) then (if (6 : Int) < (a.length : Int) then (6 : Int) else (a.length : Int)) else (2 : Int))).bind fun t1 => (lcO (fun x2 : Int => (m__law_opened (a, x2)).bind fun t8 => (m__law_right () t8).bind fun t9 => some t9.1) t1).bind fun t10 => some (t10.all id)
abbrev sp_law (K : PySem.W.Frag) : Sp := spP (a_law K) (m_law) fun r => DD K (Dat.bool r)
theorem ok_law {P : Program} {w : World} {K : PySem.W.Frag} {mg : Str → Option Value} {base : Heap} (T : Txt K mg) (O__law_right : FnOkG P w K mg base CX0 14 T.a__law_right T.d__law_right ["_law_store"] (sp__law_right K)) (O__law_opened : FnOk P w K mg base CX0 1 T.a__law_opened T.d__law_opened ["_law_script", "_law_k"] (sp__law_opened K)) : FnOkG P w K mg base CX0 (15) T.a_law T.d_law ["_law_script"] (sp_law K) := by
  refine okG T.F_law sc_law (fun vs H Q E h => ?_) (fun cdv A outer s0 H vs Q E hr hgd h => ?_)
  · obtain ⟨G, M0, a, r, ok, ⟨v_l_script, _, rfl, h_l_script, rfl⟩, hm, q⟩ := h
    rfl
  · obtain ⟨G, M0, a, r, ok, ⟨v_l_script, _, rfl, h_l_script, rfl⟩, hm, q⟩ := h
    unfold m_law at hm
    have sg := Same.refl G
    have hB := Same.refl M0
    refine ⟨_, (pss_cons (ps_ret (pe_callB (cr_allK (K := K) rfl) (by rfl) T.n_all (by decide +kernel) (pa_cons (pe_lc (own := [("_law_k", 1)]) (g := (gName 1)) (tt := tYes) rfl sc_law.nd (pi_range1 (by rfl) T.n_range (pa_cons (pe_callB (cl_max2 rfl) (by rfl) T.n_max (by decide +kernel) (pa_cons pe_int (pa_cons (pe_callB (cl_min2 rfl) (by rfl) T.n_min (by decide +kernel) (pa_cons (pe_callB (cl_lenK (K := K)) (by rfl) T.n_len (by decide +kernel) (pa_cons (pv 0) pa_nil)) (pa_cons pe_int pa_nil))) pa_nil))) pa_nil)) (blkOk_by (own := [("_law_k", 1)]) (N := ["_law_script", "_law_k"]) (sc := defScope s_law) (by decide +kernel)) (fun _ _ _ _ _ => (pg_name (i := 1) sc_law.nd rfl (by first | exact .inl rfl | exact .inr rfl))) (fun _ _ _ _ _ => pts_nil) (fun _ _ _ _ _ => (pe_callG O__law_right hgd (hr.mono (by decide)) (by rfl) T.g__law_right T.F__law_right.kp T.b__law_right .nil pass0 (pa_cons (pe_call O__law_opened (hr.mono (by decide)) (by rfl) T.g__law_opened T.F__law_opened.kp T.b__law_opened .nil pass0 (pa_cons (pv 0) (pa_cons (pv 1) pa_nil))) pa_nil)))) pa_nil))) pss_nil), ?_⟩
    refine nrm (σ' := [some v_l_script, none]) rfl ?_
    obtain ⟨t1, e_t1, hm⟩ := bs hm
    obtain ⟨t10, e_t10, hm⟩ := bs hm
    refine q_ret (ev_allL (ea_d (EvL.ev (el_lcM (ea := Dat.int) (eb := Dat.bool) (xs := t1) (ys := t10) (hf := e_t10) (src_rngO e_t1 (ea_d (ev_max2 (ea_d (ev_int (K := K)) (ea_d (ev_min2 (ea_d (ev_lenScr (ea_cons mo_scp (ev_var rfl mo_scp h_l_script) ea_nil)) (ea_d (ev_int (K := K)) ea_nil))) ea_nil))) ea_nil)) (fun x2 _ Mx6 _ _ he7 sM5 sG4 hv3 => by (obtain ⟨t8, e_t8, he7⟩ := bs he7); (obtain ⟨t9, e_t9, he7⟩ := bs he7); cases he7; exact (tg_name ⟨rfl, (ev_open (a := (a, x2)) e_t8 e_t9 (fun _ => rfl) (ea_cons mo_scp (ev_var rfl mo_scp (mo_scp _ _ _ sG4 h_l_script)) (ea_cons mo_dd (ev_d (K := K) rfl hv3) ea_nil)))⟩)))) ea_nil)) ok (fun v G H s1 ok hv => ?_)
    have sg := sg.trans s1
    cases hm
    exact q v G H sg (ok.less hB) hv
end K14

end

section
set_option maxHeartbeats 2000000
namespace Mx
open PySem L2 Kx
/-! ### what a mirror tells, by what is wanted of it -/
def Wp {α : Type} (o : Option α) (P : α → Prop) : Prop := ∃ r, o = some r ∧ P r
section
variable {α β γ S R : Type}
theorem wp_some {r : α} {P : α → Prop} (h : P r) : Wp (some r) P := ⟨r, rfl, h⟩
theorem wp_bind {o : Option α} {f : α → Option β} {P : α → Prop} {Q : β → Prop} (h : Wp o P) (k : ∀ r, P r → Wp (f r) Q) : Wp (o.bind f) Q := by
  obtain ⟨r, e, p⟩ := h
  obtain ⟨s, e2, q⟩ := k r p
  exact ⟨s, by rw [e]; exact e2, q⟩
theorem Wp.imp {o : Option α} {P Q : α → Prop} (h : Wp o P) (k : ∀ r, P r → Q r) : Wp o Q := by
  obtain ⟨r, e, p⟩ := h
  exact ⟨r, e, k r p⟩
theorem wp_cond {b : Bool} {x y : Option α} {P : α → Prop} (h1 : b = true → Wp x P) (h2 : b = false → Wp y P) : Wp (cond b x y) P := by
  cases b with
  | true => exact h1 rfl
  | false => exact h2 rfl
theorem wp_grd {p : Prop} [Decidable p] (h : p) : Wp (grd p) fun _ => True := ⟨(), grd_yes h, trivial⟩
theorem wp_mulO {i j : Int} {P : Int → Prop} (h : CMulO i j) (k : P (i * j)) : Wp (mulO i j) P := wp_bind (wp_grd h) fun _ _ => wp_some k
theorem wp_fdivO {i j : Int} {P : Int → Prop} (h : CDivN i j) (k : P (i.fdiv j)) : Wp (fdivO i j) P := wp_bind (wp_grd (.inl h)) fun _ _ => wp_some k
theorem wp_fdivW {i j : Int} {P : Int → Prop} (h : CDivW i j) (k : P (i.fdiv j)) : Wp (fdivO i j) P := wp_bind (wp_grd (.inr h)) fun _ _ => wp_some k
theorem wp_modO {i j : Int} {P : Int → Prop} (h : j ≠ 0) (k : P (i.fmod j)) : Wp (modO i j) P := wp_bind (wp_grd h) fun _ _ => wp_some k
theorem wp_powO {i j : Int} {P : Int → Prop} (h : CPow i j) (k : P (i ^ j.toNat)) : Wp (powO i j) P := wp_bind (wp_grd h) fun _ _ => wp_some k
theorem cdivw {i j : Int} {n : Nat} (h1 : 0 < j) (h2 : j < 2 ^ 200) : CDivW i j := ⟨h1, Nat.lt_of_lt_of_le (PySem.Flt.log2_lt_of (k := 200) (by decide) (by omega)) (by decide)⟩
theorem wp_dmO {i j : Int} {P : Int × Int → Prop} (h : CDivW i j) (k : P (i / j, i % j)) : Wp (dmO i j) P := wp_bind (wp_grd h) fun _ _ => wp_some k
theorem wp_is {o : Option α} {x : α} {P : α → Prop} (h : o = some x) (k : P x) : Wp o P := ⟨x, h, k⟩
theorem wp_appO {xs : List α} {x : α} {P : List α → Prop} (h : xs.length < 16777216) (k : P (xs ++ [x])) : Wp (appO xs x) P := wp_bind (wp_grd h) fun _ _ => wp_some k
theorem wp_catO {xs ys : List α} {P : List α → Prop} (h : xs.length + ys.length ≤ 16777216) (k : P (xs ++ ys)) : Wp (catO xs ys) P := wp_bind (wp_grd h) fun _ _ => wp_some k
theorem wp_repO {x : α} {n : Int} {P : List α → Prop} (h : -16777216 ≤ n ∧ n < 16777216) (k : P (List.replicate n.toNat x)) : Wp (repO x n) P := wp_bind (wp_grd h) fun _ _ => wp_some k
theorem wp_rngO {n : Int} {P : List Int → Prop} (h : -(2 ^ 62) ≤ n ∧ n < 2 ^ 62) (k : P (irange 0 n)) : Wp (rngO n) P := wp_bind (wp_grd h) fun _ _ => wp_some k
theorem wp_rng2O {m n : Int} {P : List Int → Prop} (h : (-(2 ^ 62) ≤ m ∧ m < 2 ^ 62) ∧ -(2 ^ 62) ≤ n ∧ n < 2 ^ 62) (k : P (irange m n)) : Wp (rng2O m n) P := wp_bind (wp_grd h) fun _ _ => wp_some k
theorem wp_rngN {n : Nat} {P : List Int → Prop} (h : n ≤ 16777216) (k : P (irange 0 (n : Int))) : Wp (rngO (n : Int)) P := wp_rngO (by omega) k
theorem wp_setO {xs : List α} {i : Nat} {x : α} {P : List α → Prop} (h : i < xs.length) (k : P (xs.set i x)) : Wp (setO xs (i : Int) x) P := by
  unfold setO ixN
  rw [if_pos (by omega), if_pos (by omega)]
  exact wp_some k
theorem atI_nat' {xs : List α} {i : Nat} (h : i < xs.length) : atI xs (i : Int) = some xs[i] := by
  unfold atI ixN
  rw [if_pos (by omega), if_pos (by omega)]
  show xs[(i : Int).toNat]? = _
  rw [Int.toNat_natCast]
  exact List.getElem?_eq_getElem h
theorem wp_atI {xs : List α} {i : Nat} {P : α → Prop} (h : i < xs.length) (k : P xs[i]) : Wp (atI xs (i : Int)) P := ⟨_, atI_nat' h, k⟩
/-- a comprehension: each element by what is wanted of it -/
theorem wp_mapO {f : α → Option β} {T : α → β → Prop} : ∀ {xs : List α}, (∀ x ∈ xs, Wp (f x) (T x)) → Wp (mapO f xs) fun ys => ys.length = xs.length ∧ ∀ (i : Nat) (x : α) (y : β), xs[i]? = some x → ys[i]? = some y → T x y
  | [], _ => wp_some ⟨rfl, fun i x y h => by simp at h⟩
  | a :: xs, h => by
    refine wp_bind (h a List.mem_cons_self) fun b hb => wp_bind (wp_mapO fun x hx => h x (List.mem_cons_of_mem _ hx)) fun ys hys => wp_some ⟨congrArg (· + 1) hys.1, fun i x y hx hy => ?_⟩
    cases i with
    | zero => simp at hx hy; subst hx; subst hy; exact hb
    | succ i => exact hys.2 i x y (by simpa using hx) (by simpa using hy)
theorem wp_lcO {f : α → Option β} {xs : List α} {P : List β → Prop} (T : α → β → Prop) (hl : xs.length ≤ 16777216) (h : ∀ x ∈ xs, Wp (f x) (T x)) (k : ∀ ys, ys.length = xs.length → (∀ (i : Nat) (x : α) (y : β), xs[i]? = some x → ys[i]? = some y → T x y) → P ys) : Wp (lcO f xs) P :=
  wp_bind (wp_grd hl) fun _ _ => (wp_mapO h).imp fun ys hy => k ys hy.1 hy.2
/-- its elements are a function of the items -/
theorem wp_lcO_map {f : α → Option β} {xs : List α} {P : List β → Prop} (g : α → β) (hl : xs.length ≤ 16777216) (h : ∀ x ∈ xs, f x = some (g x)) (k : P (xs.map g)) : Wp (lcO f xs) P :=
  wp_lcO (fun x y => y = g x) hl (fun x hx => ⟨g x, h x hx, rfl⟩) fun ys h1 h2 => by
    have : ys = xs.map g := by
      apply List.ext_getElem?
      intro i
      rw [List.getElem?_map]
      by_cases hi : i < xs.length
      · rw [List.getElem?_eq_getElem hi, List.getElem?_eq_getElem (by omega)]
        exact congrArg some (h2 i xs[i] ys[i] (List.getElem?_eq_getElem hi) (List.getElem?_eq_getElem (by omega)))
      · rw [List.getElem?_eq_none (by omega), List.getElem?_eq_none (by omega)]
        rfl
    rw [this]
    exact k
theorem wp_mapS {f : α → Sto → Option (β × Sto)} {T : α → β → Prop} : ∀ {xs : List α} {z : Sto}, (∀ x ∈ xs, ∀ z, Wp (f x z) fun r => T x r.1) → Wp (mapS f xs z) fun r => r.1.length = xs.length ∧ ∀ (i : Nat) (x : α) (y : β), xs[i]? = some x → r.1[i]? = some y → T x y
  | [], z, _ => wp_some ⟨rfl, fun i x y h => by simp at h⟩
  | a :: xs, z, h => by
    refine wp_bind (h a List.mem_cons_self z) fun b hb => wp_bind (wp_mapS fun x hx => h x (List.mem_cons_of_mem _ hx)) fun ys hys => wp_some ⟨congrArg (· + 1) hys.1, fun i x y hx hy => ?_⟩
    cases i with
    | zero => simp at hx hy; subst hx; subst hy; exact hb
    | succ i => exact hys.2 i x y (by simpa using hx) (by simpa using hy)
theorem wp_lcS {f : α → Sto → Option (β × Sto)} {xs : List α} {z : Sto} {P : List β × Sto → Prop} (T : α → β → Prop) (hl : xs.length ≤ 16777216) (h : ∀ x ∈ xs, ∀ z, Wp (f x z) fun r => T x r.1) (k : ∀ r : List β × Sto, r.1.length = xs.length → (∀ (i : Nat) (x : α) (y : β), xs[i]? = some x → r.1[i]? = some y → T x y) → P r) : Wp (lcS f xs z) P :=
  wp_bind (wp_grd hl) fun _ _ => (wp_mapS h).imp fun ys hy => k ys hy.1 hy.2
/-- a for, by an invariant over the turn -/
theorem wp_forO_at {f : S → α → Option S} {xs : List α} {P : S → Prop} (I : Nat → S → Prop) (hs : ∀ (i : Nat) (x : α) (s : S), xs[i]? = some x → I i s → Wp (f s x) (I (i + 1))) (hd : ∀ s, I xs.length s → P s) : ∀ (i : Nat) (s : S), i ≤ xs.length → I i s → Wp (forO f (xs.drop i) s) P := by
  intro i
  generalize hn : xs.length - i = n
  induction n generalizing i with
  | zero =>
    intro s hi h
    have e : i = xs.length := by omega
    subst e
    rw [List.drop_length]
    exact wp_some (hd s h)
  | succ n ih =>
    intro s hi h
    have hlt : i < xs.length := by omega
    rw [List.drop_eq_getElem_cons hlt]
    exact wp_bind (hs i xs[i] s (List.getElem?_eq_getElem hlt) h) fun s' h' => ih (i + 1) (by omega) s' (by omega) h'
theorem wp_forO {f : S → α → Option S} {xs : List α} {s : S} {P : S → Prop} (I : Nat → S → Prop) (h0 : I 0 s) (hs : ∀ (i : Nat) (x : α) (s : S), xs[i]? = some x → I i s → Wp (f s x) (I (i + 1))) (hd : ∀ s, I xs.length s → P s) : Wp (forO f xs s) P :=
  wp_forO_at I hs hd 0 s (Nat.zero_le _) h0
/-- a for that may return: J of what is handed on, Pr of what is returned -/
theorem wp_forR {f : S → α → Option (S ⊕ R)} {xs : List α} {s : S} {P : S ⊕ R → Prop} (I : S → Prop) (h0 : I s) (hs : ∀ x ∈ xs, ∀ s, I s → Wp (f s x) fun r => ∃ s', r = .inl s' ∧ I s') (hd : ∀ s, I s → P (.inl s)) : Wp (forR f xs s) P := by
  induction xs generalizing s with
  | nil => exact wp_some (hd s h0)
  | cons a xs ih =>
    refine wp_bind (hs a List.mem_cons_self s h0) fun r hr => ?_
    obtain ⟨s', rfl, h'⟩ := hr
    exact ih h' fun x hx => hs x (List.mem_cons_of_mem _ hx)
theorem wp_whileO {c : S → Option Bool} {f : S → Option S} {P : S → Prop} (I : S → Prop) (μ : S → Nat) (hs : ∀ s, I s → Wp (c s) fun b => (b = true → Wp (f s) fun s' => I s' ∧ μ s' < μ s) ∧ (b = false → P s)) : ∀ (n : Nat) (s : S), I s → μ s < n → Wp (whileO c f n s) P
  | 0, s, _, h => absurd h (Nat.not_lt_zero _)
  | n + 1, s, hI, h => by
    refine wp_bind (hs s hI) fun b hb => wp_cond (fun e => ?_) (fun e => wp_some (hb.2 e))
    exact wp_bind (hb.1 e) fun s' h' => wp_whileO I μ hs n s' h'.1 (by omega)
end
/-! ### ranges -/
theorem irange_nat (n : Nat) : irange 0 (n : Int) = (List.range n).map fun k : Nat => (k : Int) := by
  unfold irange
  rw [Int.sub_zero, Int.toNat_natCast]
  apply List.map_congr_left
  intro a _
  exact Int.zero_add _
theorem irange_nat_len (n : Nat) : (irange 0 (n : Int)).length = n := by rw [irange_len]; omega
theorem irange_at {n i : Nat} {x : Int} (h : (irange 0 (n : Int))[i]? = some x) : i < n ∧ x = (i : Int) := by
  have hl : i < (irange 0 (n : Int)).length := (List.getElem?_eq_some_iff.mp h).1
  rw [irange_nat_len] at hl
  rw [irange_get (by omega)] at h
  cases h
  exact ⟨hl, by omega⟩
theorem irange_mem {n : Nat} {x : Int} (h : x ∈ irange 0 (n : Int)) : ∃ i : Nat, i < n ∧ x = (i : Int) := by
  obtain ⟨i, hi, e⟩ := List.mem_iff_getElem.mp h
  exact ⟨i, irange_at (by rw [← e]; exact List.getElem?_eq_getElem hi)⟩
theorem irange2_at {m n i : Nat} {x : Int} (h : (irange (m : Int) (n : Int))[i]? = some x) : m + i < n ∧ x = ((m + i : Nat) : Int) := by
  have hl : i < (irange (m : Int) (n : Int)).length := (List.getElem?_eq_some_iff.mp h).1
  rw [irange_len] at hl
  rw [irange_get hl] at h
  cases h
  exact ⟨by omega, by omega⟩
theorem irange2_len {m n : Nat} : (irange (m : Int) (n : Int)).length = n - m := by rw [irange_len]; omega
theorem enum_at {α : Type} {xs : List α} {i : Nat} {p : Int × α} (h : (enum xs)[i]? = some p) : ∃ x, xs[i]? = some x ∧ p = ((i : Int), x) := by
  unfold enum at h
  rw [List.getElem?_mapIdx] at h
  cases e : xs[i]? with
  | none => rw [e] at h; cases h
  | some x => rw [e] at h; cases h; exact ⟨x, rfl, rfl⟩
theorem enum_len {α : Type} {xs : List α} : (enum xs).length = xs.length := by unfold enum; simp
theorem cut_from {α : Type} (xs : List α) (p : Nat) : cut xs (some (p : Int)) none = xs.drop p := by
  unfold cut
  rw [HT.sIx_none, HT.sIx_nat, show List.take (xs.length - min p xs.length) (List.drop (min p xs.length) xs) = List.drop (min p xs.length) xs from List.take_of_length_le (by rw [List.length_drop]; omega)]
  by_cases h : p ≤ xs.length
  · rw [Nat.min_eq_left h]
  · rw [Nat.min_eq_right (by omega), List.drop_length, List.drop_of_length_le (by omega)]
theorem cut_to {α : Type} (xs : List α) (p : Nat) : cut xs none (some (p : Int)) = xs.take p := by
  unfold cut
  rw [HT.sIx_none, HT.sIx_nat, List.drop_zero, Nat.sub_zero]
  by_cases h : p ≤ xs.length
  · rw [Nat.min_eq_left h]
  · rw [Nat.min_eq_right (by omega), List.take_length, List.take_of_length_le (by omega)]
end Mx

end

section
set_option maxHeartbeats 2000000
namespace Mx
/-! ### rows of numbers as functions -/
abbrev Vc := Nat → Int
def vf (l : List Int) : Vc := fun i => l.getD i 0
theorem vf_at {l : List Int} {i : Nat} (h : i < l.length) : vf l i = l[i] := by unfold vf; simp [List.getD, h]
theorem vf_get {l : List Int} {i : Nat} {x : Int} (h : l[i]? = some x) : vf l i = x := by unfold vf; simp [List.getD, h]
theorem vf_out {l : List Int} {i : Nat} (h : l.length ≤ i) : vf l i = 0 := by unfold vf; simp [List.getD, h]
theorem vf_ext {l l' : List Int} (hl : l.length = l'.length) (h : ∀ i, i < l.length → vf l i = vf l' i) : l = l' := by
  apply List.ext_getElem hl
  intro i h1 h2
  have := h i h1
  rw [vf_at h1, vf_at h2] at this
  exact this
theorem vf_zero (n i : Nat) : vf (List.replicate n 0) i = 0 := by
  by_cases h : i < n
  · rw [vf_at (by rw [List.length_replicate]; exact h)]; simp
  · exact vf_out (by rw [List.length_replicate]; omega)
/-- sums: so often each of the rows -/
def lin : List Int → List (List Int) → Nat → Int
  | c :: cs, v :: vs, i => c * vf v i + lin cs vs i
  | _, _, _ => 0
theorem lin_less {t : Int} {i : Nat} : ∀ {a b r : List Int} {vs : List (List Int)}, a.length = vs.length → b.length = vs.length → r.length = vs.length → (∀ j, vf r j = vf a j - t * vf b j) → lin r vs i = lin a vs i - t * lin b vs i
  | [], [], [], [], _, _, _, _ => by simp [lin]
  | x :: a, y :: b, z :: r, v :: vs, h1, h2, h3, h => by
    have e0 : z = x - t * y := h 0
    have ih := lin_less (t := t) (i := i) (a := a) (b := b) (r := r) (vs := vs) (by simpa using h1) (by simpa using h2) (by simpa using h3) (fun j => h (j + 1))
    simp only [lin]
    rw [ih, e0, Int.sub_mul, Int.mul_add, Int.mul_assoc]
    omega
  | [], [], _ :: _, [], _, _, h, _ => by simp at h
  | [], _ :: _, _, [], _, h, _, _ => by simp at h
  | _ :: _, _, _, [], h, _, _, _ => by simp at h
  | [], _, _, _ :: _, h, _, _, _ => by simp at h
  | _ :: _, [], _, _ :: _, _, h, _, _ => by simp at h
  | _ :: _, _ :: _, [], _ :: _, _, _, h, _ => by simp at h
theorem lin_zero {i : Nat} : ∀ (n : Nat) (vs : List (List Int)), lin (List.replicate n 0) vs i = 0
  | 0, vs => by simp [lin]
  | n + 1, [] => by simp [lin]
  | n + 1, v :: vs => by
    rw [List.replicate_succ]
    simp only [lin]
    rw [lin_zero n vs]
    omega
/-- one of them, once -/
theorem lin_unit {i k : Nat} {v : List Int} : ∀ {cs : List Int} {vs : List (List Int)}, cs.length = vs.length → vs[k]? = some v → (∀ j, j < cs.length → vf cs j = if j = k then 1 else 0) → lin cs vs i = vf v i
  | [], [], _, h, _ => by simp at h
  | c :: cs, w :: vs, hl, h, hc => by
    simp only [lin]
    have c0 := hc 0 (by simp)
    cases k with
    | zero =>
      simp at h
      subst h
      have e : c = 1 := by simpa [vf] using c0
      have z : ∀ (cs : List Int) (vs : List (List Int)), (∀ j, j < cs.length → vf cs j = 0) → lin cs vs i = 0 := by
        intro cs
        induction cs with
        | nil => intro vs _; simp [lin]
        | cons d ds ih =>
          intro vs hz
          cases vs with
          | nil => simp [lin]
          | cons u us =>
            simp only [lin]
            have e0 : d = 0 := by simpa [vf] using hz 0 (by simp)
            rw [e0, ih us fun j hj => by simpa [vf] using hz (j + 1) (by simpa using hj)]
            omega
      rw [z cs vs fun j hj => by
        have := hc (j + 1) (by simpa using hj)
        simpa [vf] using this, e]
      omega
    | succ k =>
      have e : c = 0 := by simpa [vf] using c0
      have ih := lin_unit (i := i) (k := k) (v := v) (cs := cs) (vs := vs) (by simpa using hl) (by simpa using h) fun j hj => by
        have := hc (j + 1) (by simpa using hj)
        simpa [vf] using this
      rw [ih, e]
      omega
  | [], _ :: _, h, _, _ => by simp at h
  | _ :: _, [], h, _, _ => by simp at h
/-! ### all that is spanned -/
inductive Spn (S : Vc → Prop) : Vc → Prop
  | zero : Spn S fun _ => 0
  | add {x g : Vc} : Spn S x → S g → Spn S fun i => x i + g i
  | sub {x g : Vc} : Spn S x → S g → Spn S fun i => x i - g i
section
variable {S T : Vc → Prop}
theorem Spn.is {x y : Vc} (h : Spn S x) (e : ∀ i, x i = y i) : Spn S y := by
  have : x = y := funext e
  exact this ▸ h
theorem Spn.of {g : Vc} (h : S g) : Spn S g := (Spn.add .zero h).is fun i => by (try dsimp only); omega
theorem Spn.plus {x y : Vc} (hx : Spn S x) (hy : Spn S y) : Spn S fun i => x i + y i := by
  induction hy with
  | zero => exact hx.is fun i => by (try dsimp only); omega
  | add _ hg ih => exact (Spn.add ih hg).is fun i => by (try dsimp only); omega
  | sub _ hg ih => exact (Spn.sub ih hg).is fun i => by (try dsimp only); omega
theorem Spn.neg {x : Vc} (hx : Spn S x) : Spn S fun i => - x i := by
  induction hx with
  | zero => exact Spn.zero.is fun i => by (try dsimp only); omega
  | add _ hg ih => exact (Spn.sub ih hg).is fun i => by (try dsimp only); omega
  | sub _ hg ih => exact (Spn.add ih hg).is fun i => by (try dsimp only); omega
theorem Spn.minus {x y : Vc} (hx : Spn S x) (hy : Spn S y) : Spn S fun i => x i - y i := (hx.plus hy.neg).is fun i => by (try dsimp only); omega
theorem Spn.nat {x : Vc} (hx : Spn S x) : ∀ n : Nat, Spn S fun i => (n : Int) * x i
  | 0 => Spn.zero.is fun i => by simp
  | n + 1 => ((Spn.nat hx n).plus hx).is fun i => by
    rw [show ((n + 1 : Nat) : Int) = (n : Int) + 1 by omega, Int.add_mul]
    omega
theorem Spn.mul {x : Vc} (hx : Spn S x) (c : Int) : Spn S fun i => c * x i := by
  by_cases h : 0 ≤ c
  · exact (hx.nat c.toNat).is fun i => by rw [Int.toNat_of_nonneg h]
  · exact (hx.nat (-c).toNat).neg.is fun i => by rw [Int.toNat_of_nonneg (by omega), Int.neg_mul]; omega
theorem Spn.into {x : Vc} (h : Spn S x) (k : ∀ g, S g → Spn T g) : Spn T x := by
  induction h with
  | zero => exact .zero
  | add _ hg ih => exact ih.plus (k _ hg)
  | sub _ hg ih => exact ih.minus (k _ hg)
/-- a closed thing that holds of the generators holds of all spanned -/
theorem Spn.ind {x : Vc} {P : Vc → Prop} (h : Spn S x) (z : P fun _ => 0) (a : ∀ x y, P x → P y → P fun i => x i + y i) (n : ∀ x, P x → P fun i => - x i) (g : ∀ g, S g → P g) : P x := by
  induction h with
  | zero => exact z
  | add _ hg ih => exact a _ _ ih (g _ hg)
  | @sub x g' _ hg ih =>
    have := a _ _ ih (n _ (g _ hg))
    have e : (fun i => x i + -g' i) = fun i => x i - g' i := funext fun i => by (try dsimp only); omega
    rw [e] at this
    exact this
end
/-! ### rungs: noughts ahead, a step above 0 at the place -/
structure Tri (n : Nat) (r : Nat → Vc) : Prop where
  ahead : ∀ p, p < n → ∀ i, i < p → r p i = 0
  pos : ∀ p, p < n → 0 < r p p
  out : ∀ p, p < n → ∀ i, n ≤ i → r p i = 0
def RungsS (n : Nat) (r : Nat → Vc) (k : Nat) : Vc → Prop := fun g => ∃ p, k ≤ p ∧ p < n ∧ ∀ i, g i = r p i
/-- by place: what can be gone down to nothing -/
def Down (n : Nat) (r : Nat → Vc) : Nat → Nat → Vc → Prop
  | 0, _, x => ∀ i, x i = 0
  | m + 1, p, x => ∃ c : Int, x p = c * r p p ∧ Down n r m (p + 1) fun i => x i - c * r p i
theorem Down.is {n : Nat} {r : Nat → Vc} : ∀ {m p : Nat} {x y : Vc}, Down n r m p x → (∀ i, x i = y i) → Down n r m p y := fun {m p x y} h e => by
  have : x = y := funext e
  exact this ▸ h
theorem down_zero {n : Nat} {r : Nat → Vc} : ∀ (m p : Nat), Down n r m p fun _ => 0
  | 0, _ => fun _ => rfl
  | m + 1, p => ⟨0, by (try dsimp only); omega, (down_zero m (p + 1)).is fun i => by (try dsimp only); omega⟩
theorem down_add {n : Nat} {r : Nat → Vc} : ∀ {m p : Nat} {x y : Vc}, Down n r m p x → Down n r m p y → Down n r m p fun i => x i + y i
  | 0, _, _, _, h1, h2 => fun i => by have := h1 i; have := h2 i; (try dsimp only); omega
  | m + 1, p, x, y, ⟨c, e1, d1⟩, ⟨d, e2, d2⟩ => ⟨c + d, by (try dsimp only); rw [Int.add_mul]; omega, (down_add d1 d2).is fun i => by (try dsimp only); rw [Int.add_mul]; omega⟩
theorem down_neg {n : Nat} {r : Nat → Vc} : ∀ {m p : Nat} {x : Vc}, Down n r m p x → Down n r m p fun i => - x i
  | 0, _, _, h => fun i => by have := h i; (try dsimp only); omega
  | m + 1, p, x, ⟨c, e1, d1⟩ => ⟨-c, by (try dsimp only); rw [Int.neg_mul]; omega, (down_neg d1).is fun i => by (try dsimp only); rw [Int.neg_mul]; omega⟩
theorem down_rung {n : Nat} {r : Nat → Vc} (t : Tri n r) : ∀ {m p q : Nat}, p + m = n → p ≤ q → q < n → Down n r m p (r q)
  | 0, p, q, h, h1, h2 => by omega
  | m + 1, p, q, h, h1, h2 => by
    by_cases e : p = q
    · subst e
      exact ⟨1, by (try dsimp only); omega, (down_zero m (p + 1)).is fun i => by (try dsimp only); omega⟩
    · refine ⟨0, ?_, ?_⟩
      · rw [t.ahead q h2 p (by omega)]; omega
      · exact (down_rung t (q := q) (by omega) (by omega) h2).is fun i => by (try dsimp only); omega
theorem down_of {n : Nat} {r : Nat → Vc} (t : Tri n r) {x : Vc} (h : Spn (RungsS n r 0) x) : Down n r n 0 x :=
  h.ind (down_zero n 0) (fun _ _ => down_add) (fun _ => down_neg) fun g ⟨p, _, hp, e⟩ => (down_rung t (m := n) (p := 0) (q := p) (by omega) (Nat.zero_le _) hp).is fun i => (e i).symm
/-- what is spanned and below the steps is nothing -/
theorem down_small {n : Nat} {r : Nat → Vc} (t : Tri n r) : ∀ {m p : Nat} {x : Vc}, p + m = n → Down n r m p x → (∀ i, p ≤ i → i < n → 0 ≤ x i ∧ x i < r i i) → (∀ i, x i = 0)
  | 0, _, _, _, h, _ => h
  | m + 1, p, x, hn, ⟨c, e, d⟩, hb => by
    have b := hb p (Nat.le_refl _) (by omega)
    have pp := t.pos p (by omega)
    have c0 : c = 0 := by
      rw [e] at b
      have h1 : 0 ≤ c := by
        by_cases h : 0 ≤ c
        · exact h
        · have : c * r p p < 0 := Int.mul_neg_of_neg_of_pos (by omega) pp
          omega
      have h2 : c < 1 := by
        by_cases h : c < 1
        · exact h
        · have : 1 * r p p ≤ c * r p p := Int.mul_le_mul_of_nonneg_right (by omega) (by omega)
          omega
      omega
    subst c0
    have d' : Down n r m (p + 1) x := d.is fun i => by (try dsimp only); omega
    exact down_small t (by omega) d' fun i h1 h2 => hb i (by omega) h2
/-- the coefficients of what has noughts ahead of k begin at k -/
theorem down_tail {n : Nat} {r : Nat → Vc} (t : Tri n r) : ∀ {m p k : Nat} {x : Vc}, p + m = n → p ≤ k → Down n r m p x → (∀ i, i < k → x i = 0) → Spn (RungsS n r k) x
  | 0, _, _, _, _, _, h, _ => Spn.zero.is fun i => (h i).symm
  | m + 1, p, k, x, hn, hk, ⟨c, e, d⟩, h0 => by
    by_cases hpk : p < k
    · have pp := t.pos p (by omega)
      have c0 : c = 0 := by
        rw [h0 p hpk] at e
        rcases Int.mul_eq_zero.mp e.symm with h | h
        · exact h
        · omega
      subst c0
      exact down_tail t (p := p + 1) (by omega) (by omega) (d.is fun i => by (try dsimp only); omega) h0
    · have e' : p = k := by omega
      subst e'
      have s := down_tail t (p := p + 1) (k := p + 1) (by omega) (Nat.le_refl _) d fun i hi => by
        by_cases hip : i = p
        · subst hip; omega
        · rw [h0 i (by omega), t.ahead p (by omega) i (by omega)]; omega
      have s2 : Spn (RungsS n r p) fun i => x i - c * r p i := s.into fun g ⟨q, h1, h2, h3⟩ => .of ⟨q, by omega, h2, h3⟩
      have s3 : Spn (RungsS n r p) fun i => c * r p i := (Spn.of (S := RungsS n r p) (g := r p) ⟨p, Nat.le_refl _, by omega, fun _ => rfl⟩).mul c
      exact (s2.plus s3).is fun i => by (try dsimp only); omega
end Mx

end

section
set_option maxHeartbeats 2000000
namespace K14
open PySem L2 Kx Mx
theorem fm {a b : Int} (h : 0 < b) : a.fmod b = a % b := Int.fmod_eq_emod_of_nonneg a (by omega)
theorem fd {a b : Int} (h : 0 < b) : a.fdiv b = a / b := Int.fdiv_eq_ediv_of_nonneg a (by omega)
theorem dvd_emod {d a b : Int} (h1 : d ∣ a) (h2 : d ∣ b) : d ∣ a % b := by
  rw [Int.emod_def]
  exact Int.dvd_sub h1 (Int.dvd_mul_of_dvd_left h2)
theorem dvd_of_emod {d a b : Int} (h1 : d ∣ a % b) (h2 : d ∣ b) : d ∣ a := by
  have e : a = a % b + b * (a / b) := (Int.emod_add_mul_ediv a b).symm
  rw [e]
  exact Int.dvd_add h1 (Int.dvd_mul_of_dvd_left h2)
theorem dvd_sub_mod (a b : Int) : b ∣ a - a % b := by
  rw [Int.emod_def]
  exact ⟨a / b, by omega⟩
/-- moduli -/
structure Mdl (m : List Int) : Prop where
  l1 : 1 ≤ m.length
  l2 : m.length ≤ 12
  b : ∀ x ∈ m, 1 ≤ x ∧ x ≤ 99
theorem Mdl.at {m : List Int} (h : Mdl m) {i : Nat} (hi : i < m.length) : 1 ≤ vf m i ∧ vf m i ≤ 99 := by
  rw [vf_at hi]
  exact h.b _ (List.getElem_mem hi)
theorem small_mul {i j : Int} (h : -(2 ^ 64) < j ∧ j < 2 ^ 64) : CMulO i j := .inl (.inr h)
theorem small_mul' {i j : Int} (h : -(2 ^ 64) < i ∧ i < 2 ^ 64) : CMulO i j := .inl (.inl h)
end K14

end

section
set_option maxHeartbeats 2000000
namespace K14
open PySem L2 Kx Mx
theorem pull_spec {a : Int} (z : Sto) (h1 : 0 < a) (h2 : a < 2 ^ 200) : Wp (m__law_pull a z) fun r => 0 ≤ r.1 ∧ r.1 < a := by
  unfold m__law_pull pullM
  refine wp_cond (fun e => ?_) (fun e => ?_)
  · refine wp_bind (wp_dmO (P := fun t => t = (z.1 / a, z.1 % a)) (cdivw (n := 0) h1 h2) rfl) fun t ht => wp_some ?_
    subst ht
    exact ⟨Int.emod_nonneg _ (by omega), Int.emod_lt_of_pos _ h1⟩
  · refine wp_bind (wp_modO (P := fun t => 0 ≤ t ∧ t < 40961) (by decide) ?_) fun t1 ⟨g1, g2⟩ => ?_
    · rw [fm (by decide)]
      exact ⟨Int.emod_nonneg _ (by decide), Int.emod_lt_of_pos _ (by decide)⟩
    refine wp_bind (wp_mulO (P := fun _ => True) (small_mul ⟨by omega, by omega⟩) trivial) fun t2 _ => wp_bind (wp_mulO (P := fun _ => True) (small_mul' ⟨by decide, by decide⟩) trivial) fun t3 _ => ?_
    refine wp_bind (wp_modO (P := fun _ => True) (by decide) trivial) fun t4 _ => wp_bind (wp_fdivO (P := fun _ => True) ⟨by decide, by decide⟩ trivial) fun t5 _ => wp_bind (wp_modO (P := fun t => 0 ≤ t ∧ t < a) (by omega) ?_) fun t6 h6 => wp_some h6
    rw [fm h1]
    exact ⟨Int.emod_nonneg _ (by omega), Int.emod_lt_of_pos _ h1⟩
theorem opened_spec (ns : List Int) (k : Nat) : Wp (m__law_opened (ns, (k : Int))) fun _ => True := by
  unfold m__law_opened
  dsimp only
  refine wp_bind (wp_mulO (P := fun _ => True) (small_mul' ⟨by decide, by decide⟩) trivial) fun t1 _ => ?_
  refine wp_bind (P := fun _ => True) (wp_cond (fun e => ?_) (fun e => wp_some trivial)) fun j2 _ => ?_
  · have : (k : Int) < (ns.length : Int) := of_decide_eq_true e
    exact wp_bind (wp_atI (i := k) (P := fun _ => True) (by omega) trivial) fun t4 _ => wp_some trivial
  refine wp_bind (P := fun _ => True) (wp_cond (fun e => wp_some trivial) (fun e => wp_bind (wp_powO (P := fun _ => True) ⟨by decide, by decide, by decide⟩ trivial) fun t6 _ => wp_some trivial)) fun t7 _ => ?_
  refine wp_bind (wp_mulO (P := fun _ => True) (small_mul (by split <;> omega)) trivial) fun t8 _ => wp_bind (wp_mulO (P := fun _ => True) (small_mul' ⟨by decide, by decide⟩) trivial) fun t9 _ => wp_bind (wp_mulO (P := fun _ => True) (small_mul' ⟨by decide, by decide⟩) trivial) fun t10 _ => wp_bind (wp_modO (P := fun _ => True) (by decide) trivial) fun t11 _ => wp_some trivial
end K14

end

section
set_option maxHeartbeats 2000000
namespace K14
open PySem L2 Kx Mx
/-! ### names -/
structure NameOk (z : Str) : Prop where
  l1 : 1 ≤ z.cps.toList.length
  l2 : z.cps.toList.length ≤ 6
  b : ∀ c ∈ z.cps.toList, 97 ≤ c ∧ c ≤ 122
theorem letters : (Str.ofString "abcdefghijklmnopqrstuvwxyz").cps.toList = List.range' 97 26 := by decide +kernel
theorem str_len (z : Str) : z.length = z.cps.toList.length := by
  show z.cps.size = _
  rw [Array.length_toList]
theorem letter_at {i : Nat} (h : i < 26) : atS (Str.ofString "abcdefghijklmnopqrstuvwxyz") (i : Int) = some ⟨#[97 + i]⟩ := by
  unfold atS
  rw [grd_yes (by rw [str_len, letters]; decide)]
  show (atI (Str.ofString "abcdefghijklmnopqrstuvwxyz").cps.toList (i : Int)).bind _ = _
  rw [letters, atI_nat' (by simpa using h)]
  simp
theorem is_name_spec {z : Str} (h : NameOk z) : m_is_name z = some true := by
  have W : Wp (m_is_name z) fun b => b = true := by
    unfold m_is_name
    refine wp_bind (P := fun t => t = false) (wp_cond (fun e => by cases e) fun _ => ?_) fun t2 e2 => ?_
    · refine wp_bind (P := fun t => t = (z.cps.toList.length : Int)) ?_ fun t1 e1 => wp_some ?_
      · unfold lenS
        exact wp_bind (wp_grd (by rw [str_len]; have := h.l2; omega)) fun _ _ => wp_some (by rw [str_len])
      · subst e1
        have := h.l1
        have := h.l2
        simp only [Bool.not_eq_false', Bool.and_eq_true, decide_eq_true_eq]
        omega
    · subst e2
      refine wp_cond (fun e => by cases e) fun _ => ?_
      refine wp_bind (P := fun t : List Bool => t.all id = true) (wp_lcO (fun _ y => y = true) ?_ (fun x hx => ?_) ?_) fun t10 h => wp_some h
      · unfold signs
        rw [List.length_map]
        have := h.l2
        omega
      · unfold signs at hx
        obtain ⟨c, hc, rfl⟩ := List.mem_map.mp hx
        have hb := h.b c hc
        refine wp_bind (P := fun t => t = true) (wp_some ?_) fun t9 e => wp_some e
        rw [letters]
        refine decide_eq_true (List.mem_range'.mpr ⟨c - 97, by omega, by omega⟩)
      · intro ys hl h
        rw [List.all_eq_true]
        intro y hy
        obtain ⟨i, hi⟩ := List.mem_iff_getElem?.mp hy
        have hil := (List.getElem?_eq_some_iff.mp hi).1
        have := h i _ y (List.getElem?_eq_getElem (by omega)) hi
        rw [this]; rfl
  obtain ⟨r, hr, e⟩ := W
  rw [hr, e]
/-! ### spelling -/
def dg : Nat → Nat → List Nat
  | 0, _ => []
  | i + 1, n => (97 + n / 26 ^ i % 26) :: dg i n
theorem dg_len : ∀ (w n : Nat), (dg w n).length = w
  | 0, _ => rfl
  | w + 1, n => by rw [dg, List.length_cons, dg_len w n]
theorem dg_b : ∀ (w n : Nat), ∀ c ∈ dg w n, 97 ≤ c ∧ c ≤ 122
  | 0, _, c, h => by simp [dg] at h
  | w + 1, n, c, h => by
    rw [dg] at h
    rcases List.mem_cons.mp h with e | h
    · rw [e]
      have := Nat.mod_lt (n / 26 ^ w) (show 0 < 26 by decide)
      omega
    · exact dg_b w n c h
theorem dg_inj : ∀ {w n m : Nat}, dg w n = dg w m → n % 26 ^ w = m % 26 ^ w
  | 0, n, m, _ => by rw [Nat.pow_zero, Nat.mod_one, Nat.mod_one]
  | w + 1, n, m, h => by
    rw [dg, dg] at h
    obtain ⟨h1, h2⟩ := List.cons.inj h
    have ih := dg_inj h2
    rw [Nat.mod_pow_succ, Nat.mod_pow_succ, ih]
    have : n / 26 ^ w % 26 = m / 26 ^ w % 26 := by omega
    rw [this]
theorem spelt_spec {n w : Nat} (hw : w ≤ 6) : Wp (m__law_spelt ((n : Int), (w : Int))) fun r => r.cps.toList = dg w n := by
  unfold m__law_spelt
  refine wp_bind (wp_rngN (P := fun t => t = irange 0 (w : Int)) (by omega) rfl) fun t1 e1 => ?_
  subst e1
  refine wp_bind (wp_forO (P := fun s => s.1.cps.toList = dg w n) (fun i s => s.1.cps.toList = dg i n ∧ s.2 = ((n / 26 ^ i : Nat) : Int)) ⟨rfl, by simp⟩ ?_ ?_) fun fin h => wp_some h
  · intro i x s hx ⟨h1, h2⟩
    obtain ⟨hi, rfl⟩ := irange_at hx
    refine wp_bind (wp_modO (P := fun t => t = ((n / 26 ^ i % 26 : Nat) : Int)) (by decide) (by rw [fm (by decide), h2]; exact (Int.natCast_emod _ _).symm)) fun t9 e9 => ?_
    subst e9
    have hl := Nat.mod_lt (n / 26 ^ i) (show 0 < 26 by decide)
    refine wp_bind (wp_is (P := fun t : Str => t = ⟨#[97 + n / 26 ^ i % 26]⟩) (letter_at hl) rfl) fun t10 e10 => ?_
    subst e10
    refine wp_bind (P := fun t : Str => t.cps.toList = dg (i + 1) n) ?_ fun t11 h11 => ?_
    · unfold addS
      have ls : s.1.cps.toList.length = i := by rw [h1, dg_len]
      refine wp_bind (wp_grd (by rw [str_len, str_len, ls]; simp; omega)) fun _ _ => wp_some ?_
      show ((#[97 + n / 26 ^ i % 26] : Array Nat) ++ s.1.cps).toList = _
      rw [Array.toList_append, h1]
      rfl
    refine wp_bind (wp_fdivO (P := fun t => t = ((n / 26 ^ (i + 1) : Nat) : Int)) ⟨by decide, by decide⟩ ?_) fun t12 e12 => wp_some ⟨h11, e12⟩
    rw [fd (by decide), h2, Nat.pow_succ, ← Nat.div_div_eq_div_mul]
    exact (Int.natCast_ediv _ _).symm
  · intro s h
    rw [irange_nat_len] at h
    exact h.1
end K14

end

section
set_option maxHeartbeats 2000000
namespace K14
open PySem L2 Kx Mx
theorem pull_nat {a : Int} (z : Sto) (h1 : 0 < a) (h2 : a < 2 ^ 200) : Wp (m__law_pull a z) fun r => ∃ k : Nat, r.1 = (k : Int) ∧ (k : Int) < a :=
  (pull_spec z h1 h2).imp fun r ⟨g1, g2⟩ => ⟨r.1.toNat, by omega, by omega⟩
theorem srt_strict {xs : List Str} (h : xs.Nodup) : (srt xs).Pairwise fun a b => sLt a b = true := by
  have n : (srt xs).Nodup := (srt_perm xs).nodup_iff.mpr h
  refine ((srt_sorted xs).and n).imp fun {a b} ⟨h1, h2⟩ => ?_
  cases e : sLt a b with
  | true => rfl
  | false =>
    unfold sLe at h1
    exact absurd (sLt_tri e (by simpa using h1)) h2
def Nms (cs : List Str) : Prop := (∀ x ∈ cs, NameOk x) ∧ cs.Pairwise fun a b => sLt a b = true
theorem nodup_at {α : Type} {xs : List α} (h : ∀ (i j : Nat) (x y : α), i < j → xs[i]? = some x → xs[j]? = some y → x ≠ y) : xs.Nodup := by
  refine List.pairwise_iff_getElem.mpr fun i j hi hj hij => ?_
  exact h i j _ _ hij (List.getElem?_eq_getElem hi) (List.getElem?_eq_getElem hj)
theorem sort_nms {xs : List Str} {P : List Str → Prop} (hl : xs.length < 64) (hn : ∀ x ∈ xs, NameOk x) (hd : xs.Nodup) (k : ∀ ys, ys.length = xs.length → Nms ys → P ys) : Wp (sortS xs) P :=
  wp_bind (wp_grd hl) fun _ _ => wp_some (k _ (srt_perm xs).length_eq ⟨fun x hx => hn x ((srt_perm xs).mem_iff.mp hx), srt_strict hd⟩)
def nameB (z : Str) : Bool := decide (1 ≤ z.cps.toList.length) && decide (z.cps.toList.length ≤ 6) && z.cps.toList.all fun c => decide (97 ≤ c) && decide (c ≤ 122)
theorem nameB_of {z : Str} (h : nameB z = true) : NameOk z := by
  unfold nameB at h
  simp only [Bool.and_eq_true, decide_eq_true_eq, List.all_eq_true] at h
  exact ⟨h.1.1, h.1.2, fun c hc => h.2 c hc⟩
abbrev W12 : List Str := [(Str.ofString "bell"), (Str.ofString "turns"), (Str.ofString "ring"), (Str.ofString "go"), (Str.ofString "tell"), (Str.ofString "hang"), (Str.ofString "down"), (Str.ofString "put"), (Str.ofString "strike"), (Str.ofString "back"), (Str.ofString "lots"), (Str.ofString "home")]
theorem w12_ok : W12.all nameB = true := by decide +kernel
theorem w12_nd : W12.Nodup := by decide +kernel
theorem mem4 {α : Type} {a b c d x : α} {k : Nat} (h : ([a, b, c, d] : List α)[k]? = some x) : x = a ∨ x = b ∨ x = c ∨ x = d := by
  have := List.mem_of_getElem? h
  simpa using this
theorem wp_at4 {a b c d : Int} {k : Nat} (hk : k < 4) : Wp (atI ([a, b, c, d] : List Int) (k : Int)) fun x => x = a ∨ x = b ∨ x = c ∨ x = d :=
  wp_atI (by simpa using hk) (mem4 (List.getElem?_eq_getElem (by simpa using hk)))
theorem pow6 {k : Nat} (h : k < 6) : atI ([(26 : Int), (676 : Int), (17576 : Int), (456976 : Int), (11881376 : Int), (308915776 : Int)] : List Int) (k : Int) = some ((26 ^ (k + 1) : Nat) : Int) := by
  match k, h with
  | 0, _ => rfl
  | 1, _ => rfl
  | 2, _ => rfl
  | 3, _ => rfl
  | 4, _ => rfl
  | 5, _ => rfl
theorem calls_spec {n : Nat} (z : Sto) (h2 : n ≤ 8) : Wp (m__law_calls (n : Int) z) fun r => r.1.length = n ∧ Nms r.1 := by
  unfold m__law_calls
  refine wp_bind (pull_nat z (by decide) (by decide)) fun t1 _ => wp_cond (fun _ => ?_) fun _ => ?_
  · refine wp_bind (pull_nat _ (by decide) (by decide)) fun t2 ⟨f, e2, hf⟩ => wp_bind (pull_nat _ (by decide) (by decide)) fun t3 ⟨l, e3, hl⟩ => ?_
    rw [e2, e3]
    refine wp_bind (wp_at4 (by omega)) fun t4 h4 => ?_
    refine wp_bind (wp_rngN (P := fun t => t = irange 0 (n : Int)) (by omega) rfl) fun t5 e5 => ?_
    subst e5
    refine wp_bind (P := fun t : List Str => t.length = n ∧ (∀ x ∈ t, NameOk x) ∧ t.Nodup) (wp_lcO (fun x y => W12[((f : Int) + t4 * x).toNat % 12]? = some y) (by rw [irange_nat_len]; omega) (fun x hx => ?_) ?_) fun t15 ⟨a1, a2, a3⟩ => ?_
    · obtain ⟨j, hj, rfl⟩ := irange_mem hx
      refine wp_bind (wp_mulO (P := fun t => t = t4 * (j : Int)) (small_mul ⟨by omega, by omega⟩) rfl) fun t12 e12 => ?_
      subst e12
      obtain ⟨l4, rfl⟩ : ∃ l4 : Nat, t4 = (l4 : Int) := ⟨t4.toNat, by omega⟩
      have en : (f : Int) + (l4 : Int) * (j : Int) = ((f + l4 * j : Nat) : Int) := by push_cast; rfl
      rw [en]
      refine wp_bind (wp_modO (P := fun t => t = (((f + l4 * j) % 12 : Nat) : Int)) (by decide) (by rw [fm (by decide)]; exact (Int.natCast_emod _ _).symm)) fun t13 e13 => ?_
      subst e13
      have hm := Nat.mod_lt (f + l4 * j) (show 0 < 12 by decide)
      refine wp_bind (wp_atI (xs := W12) (P := fun y => W12[(f + l4 * j) % 12]? = some y) (by simpa using hm) (List.getElem?_eq_getElem (by simpa using hm))) fun t14 h14 => wp_some ?_
      rw [Int.toNat_natCast]
      exact h14
    · intro ys hl hy
      rw [irange_nat_len] at hl
      have at' : ∀ i y, ys[i]? = some y → i < n ∧ W12[((f : Int) + t4 * (i : Int)).toNat % 12]? = some y := fun i y e => by
        have hi : i < n := by have := (List.getElem?_eq_some_iff.mp e).1; omega
        have hx : (irange 0 (n : Int))[i]? = some (i : Int) := by rw [irange_get (by omega)]; simp
        exact ⟨hi, hy i (i : Int) y hx e⟩
      refine ⟨hl, fun x hx => ?_, nodup_at fun i j x y hij hx hy' e => ?_⟩
      · obtain ⟨i, hi⟩ := List.mem_iff_getElem?.mp hx
        exact nameB_of ((List.all_eq_true.mp w12_ok) x (List.mem_of_getElem? (at' i x hi).2))
      · subst e
        obtain ⟨b1, b2⟩ := at' i x hx
        obtain ⟨b3, b4⟩ := at' j x hy'
        have q : ((f : Int) + t4 * (i : Int)).toNat % 12 = ((f : Int) + t4 * (j : Int)).toNat % 12 := by
          have hi := (List.getElem?_eq_some_iff.mp b2).1
          exact (List.getElem?_inj hi w12_nd).mp (b2.trans b4.symm)
        rcases h4 with rfl | rfl | rfl | rfl <;> omega
    · exact wp_bind (sort_nms (P := fun ys => ys.length = n ∧ Nms ys) (by omega) a2 a3 fun ys h1 h2 => ⟨by omega, h2⟩) fun t16 h => wp_some h
  · refine wp_bind (pull_nat _ (by decide) (by decide)) fun t17 ⟨w, e17, hw⟩ => wp_bind (pull_nat _ (by decide) (by decide)) fun t18 ⟨l, e18, hl⟩ => ?_
    rw [e17, e18]
    refine wp_bind (wp_at4 (by omega)) fun t19 h19 => ?_
    have ew : ((1 : Int) + (w : Int)) - 1 = (w : Int) := by omega
    rw [ew]
    have hw6 : w < 6 := by omega
    refine wp_bind (wp_is (P := fun t => t = ((26 ^ (w + 1) : Nat) : Int)) (pow6 hw6) rfl) fun t20 e20 => ?_
    subst e20
    have hpos : 0 < 26 ^ (w + 1) := Nat.pos_of_ne_zero (by simp)
    have hbig : 26 ^ (w + 1) ≤ 308915776 := Nat.le_trans (Nat.pow_le_pow_right (by decide) (by omega : w + 1 ≤ 6)) (by decide)
    refine wp_bind (pull_nat _ (by omega) (by omega)) fun t21 ⟨f, e21, hf⟩ => ?_
    rw [e21]
    refine wp_bind (wp_rngN (P := fun t => t = irange 0 (n : Int)) (by omega) rfl) fun t22 e22 => ?_
    subst e22
    refine wp_bind (P := fun t : List Str => t.length = n ∧ (∀ x ∈ t, NameOk x) ∧ t.Nodup) (wp_lcO (fun x y => y.cps.toList = dg (w + 1) (((f : Int) + t19 * x).toNat % 26 ^ (w + 1))) (by rw [irange_nat_len]; omega) (fun x hx => ?_) ?_) fun t32 ⟨a1, a2, a3⟩ => ?_
    · obtain ⟨j, hj, rfl⟩ := irange_mem hx
      refine wp_bind (wp_mulO (P := fun t => t = t19 * (j : Int)) (small_mul ⟨by omega, by omega⟩) rfl) fun t29 e29 => ?_
      subst e29
      obtain ⟨l4, rfl⟩ : ∃ l4 : Nat, t19 = (l4 : Int) := ⟨t19.toNat, by omega⟩
      have en : (f : Int) + (l4 : Int) * (j : Int) = ((f + l4 * j : Nat) : Int) := by push_cast; rfl
      rw [en]
      refine wp_bind (wp_modO (P := fun t => t = (((f + l4 * j) % 26 ^ (w + 1) : Nat) : Int)) (by omega) (by rw [fm (by omega)]; exact (Int.natCast_emod _ _).symm)) fun t30 e30 => ?_
      subst e30
      have e1 : (1 : Int) + (w : Int) = ((w + 1 : Nat) : Int) := by omega
      rw [e1]
      refine wp_bind (spelt_spec (by omega)) fun t31 h31 => wp_some ?_
      rw [Int.toNat_natCast]
      exact h31
    · intro ys hl hy
      rw [irange_nat_len] at hl
      have at' : ∀ i y, ys[i]? = some y → i < n ∧ y.cps.toList = dg (w + 1) (((f : Int) + t19 * (i : Int)).toNat % 26 ^ (w + 1)) := fun i y e => by
        have hi : i < n := by have := (List.getElem?_eq_some_iff.mp e).1; omega
        have hx : (irange 0 (n : Int))[i]? = some (i : Int) := by rw [irange_get (by omega)]; simp
        exact ⟨hi, hy i (i : Int) y hx e⟩
      refine ⟨hl, fun x hx => ?_, nodup_at fun i j x y hij hx hy' e => ?_⟩
      · obtain ⟨i, hi⟩ := List.mem_iff_getElem?.mp hx
        have e := (at' i x hi).2
        exact ⟨by rw [e, dg_len]; omega, by rw [e, dg_len]; omega, fun c hc => dg_b _ _ c (by rw [← e]; exact hc)⟩
      · subst e
        obtain ⟨b1, b2⟩ := at' i x hx
        obtain ⟨b3, b4⟩ := at' j x hy'
        have q := dg_inj (b2.symm.trans b4)
        rw [Nat.mod_mod, Nat.mod_mod] at q
        clear b2 b4
        by_cases hw0 : w = 0
        · subst hw0
          rw [show (26 : Nat) ^ (0 + 1) = 26 from rfl] at q
          rcases h19 with rfl | rfl | rfl | rfl <;> omega
        · have hM : 676 ≤ 26 ^ (w + 1) := Nat.le_trans (by decide : 676 ≤ 26 ^ 2) (Nat.pow_le_pow_right (by decide) (by omega))
          have hlt : ((f : Int) + t19 * (i : Int)).toNat < ((f : Int) + t19 * (j : Int)).toNat ∧ ((f : Int) + t19 * (j : Int)).toNat - ((f : Int) + t19 * (i : Int)).toNat < 676 := by
            rcases h19 with rfl | rfl | rfl | rfl <;> omega
          have z := Nat.sub_mod_eq_zero_of_mod_eq q.symm
          rw [Nat.mod_eq_of_lt (by omega)] at z
          omega
    · exact wp_bind (sort_nms (P := fun ys => ys.length = n ∧ Nms ys) (by omega) a2 a3 fun ys h1 h2 => ⟨by omega, h2⟩) fun t16 h => wp_some h
theorem figure_spec {m : Nat} {s : Int} (z : Sto) (hm : m ≤ 5) (h1 : 2 ≤ s) (h2 : s ≤ 24) : Wp (m__law_figure ((m : Int), s) z) fun r => 0 ≤ r.1 ∧ r.1 ≤ 99 := by
  unfold m__law_figure
  refine wp_bind (pull_nat z (by omega) (by omega)) fun t1 ⟨a, e1, ha⟩ => wp_bind (pull_nat _ (by decide) (by decide)) fun t2 ⟨b, e2, hb⟩ => ?_
  rw [e1, e2]
  refine wp_bind (wp_mulO (P := fun t => t = 2 * s) (small_mul' ⟨by decide, by decide⟩) rfl) fun t3 e3 => wp_bind (wp_fdivO (P := fun t => t = s / 2) ⟨by decide, by decide⟩ (fd (by decide))) fun t4 e4 => ?_
  subst e3; subst e4
  refine wp_bind (pull_nat _ (by decide) (by decide)) fun t5 ⟨c, e5, hc⟩ => ?_
  rw [e5]
  refine wp_bind (wp_at4 (by omega)) fun t6 h6 => ?_
  have b6 : 0 ≤ t6 ∧ t6 ≤ 99 := by rcases h6 with rfl | rfl | rfl | rfl <;> omega
  refine wp_bind (wp_appO (P := fun t => t = [(1 : Int), 1 + (a : Int), 1 + (b : Int), t6]) (by simp) rfl) fun t7 e7 => ?_
  subst e7
  refine wp_cond (fun e => ?_) fun e => ?_
  · have : (m : Int) < 4 := of_decide_eq_true e
    refine wp_bind (wp_at4 (by omega)) fun t8 h8 => wp_some ?_
    rcases h8 with rfl | rfl | rfl | rfl <;> constructor <;> dsimp only <;> omega
  · have : ¬ (m : Int) < 4 := of_decide_eq_false e
    refine wp_bind (wp_is (P := fun t => t = 1 + (a : Int)) rfl rfl) fun t9 e9 => ?_
    subst e9
    refine wp_bind (pull_nat _ (by omega) (by omega)) fun t10 _ => ?_
    refine wp_bind (wp_mulO (P := fun t => 0 ≤ t ∧ t ≤ 99) (small_mul (by split <;> omega)) ?_) fun t11 h => wp_some h
    split
    · rw [Int.mul_one]; omega
    · rw [Int.mul_zero]; omega
end K14

end

section
set_option maxHeartbeats 2000000
namespace K14
open PySem L2 Kx Mx
/-! ### kits -/
def NotOk (cs : List Str) (ns : List (Str × Str × Int)) : Prop :=
  (∀ n ∈ ns, n.1 ∈ cs ∧ n.2.1 ∈ cs ∧ n.1 ≠ n.2.1 ∧ 1 ≤ n.2.2 ∧ n.2.2 ≤ 99) ∧ ns.Pairwise fun a b => ltP (a.1, a.2.1) (b.1, b.2.1) = true
structure Kit (k : List (Str × Int) × List (Str × Str × Int)) : Prop where
  l1 : 1 ≤ k.1.length
  l2 : k.1.length ≤ 8
  nm : Nms (k.1.map (·.1))
  sz : ∀ x ∈ k.1, 2 ≤ x.2 ∧ x.2 ≤ 24
  nt : NotOk (k.1.map (·.1)) k.2
  nl : k.2.length ≤ 64
theorem slt_ne {a b : Str} (h : sLt a b = true) : a ≠ b := fun e => by
  rw [e, sLt_irr] at h
  cases h
theorem pw_at {α : Type} {R : α → α → Prop} {xs : List α} (h : xs.Pairwise R) {i j : Nat} {x y : α} (hij : i < j) (hx : xs[i]? = some x) (hy : xs[j]? = some y) : R x y := by
  obtain ⟨h1, rfl⟩ := List.getElem?_eq_some_iff.mp hx
  obtain ⟨h2, rfl⟩ := List.getElem?_eq_some_iff.mp hy
  exact List.pairwise_iff_getElem.mp h i j h1 h2 hij
theorem pw_snoc {α : Type} {R : α → α → Prop} {xs : List α} {x : α} (h : xs.Pairwise R) (hx : ∀ y ∈ xs, R y x) : (xs ++ [x]).Pairwise R :=
  List.pairwise_append.mpr ⟨h, List.pairwise_singleton _ _, fun a ha b hb => by rw [List.mem_singleton.mp hb]; exact hx a ha⟩
theorem kit_spec {u m : Int} (z : Sto) (hu1 : 1 ≤ u) (hu2 : u ≤ 8) (hm1 : 2 ≤ m) (hm2 : m ≤ 24) : Wp (m__law_kit (u, m) z) fun r => Kit r.1 ∧ (r.1.1.length : Int) ≤ u ∧ ∀ b ∈ r.1.1, b.2 ≤ m := by
  unfold m__law_kit
  dsimp only
  refine wp_bind (pull_nat z (by omega) (by omega)) fun t1 ⟨n, e1, hn⟩ => ?_
  rw [e1]
  have en : (1 : Int) + (n : Int) = ((n + 1 : Nat) : Int) := by omega
  rw [en]
  refine wp_bind (calls_spec _ (by omega)) fun t2 ⟨hl2, hc⟩ => wp_bind (pull_nat _ (by omega) (by omega)) fun t3 ⟨s3, e3, h3⟩ => wp_bind (pull_nat _ (by decide) (by decide)) fun t4 _ => wp_bind (pull_nat _ (by decide) (by decide)) fun t5 ⟨md, e5, h5⟩ => ?_
  rw [e3, e5]
  generalize hcs : t2.1 = cs at hl2 hc
  refine wp_bind (wp_lcS (P := fun r : List Int × Sto => r.1.length = n + 1 ∧ ∀ s ∈ r.1, 2 ≤ s ∧ s ≤ m) (fun _ y => 2 ≤ y ∧ y ≤ m) (by omega) (fun x hx z => ?_) ?_) fun t14 ⟨hl14, h14⟩ => ?_
  · refine wp_bind (P := fun t : Int × Sto => 2 ≤ t.1 ∧ t.1 ≤ m) (wp_cond (fun _ => wp_some ⟨by dsimp only; omega, by dsimp only; omega⟩) fun _ => wp_bind (pull_nat _ (by omega) (by omega)) fun t12 ⟨a, e, h⟩ => wp_some ⟨by dsimp only; omega, by dsimp only; omega⟩) fun t13 h => wp_some h
  · intro r hl h
    refine ⟨by omega, fun s hs => ?_⟩
    obtain ⟨i, hi⟩ := List.mem_iff_getElem?.mp hs
    have hil := (List.getElem?_eq_some_iff.mp hi).1
    exact h i _ s (List.getElem?_eq_getElem (by omega)) hi
  have uq : ∀ {i j : Nat} {x y : Str}, i < j → cs[i]? = some x → cs[j]? = some y → sLt x y = true := fun hij hx hy => pw_at hc.2 hij hx hy
  refine wp_bind (wp_forO (P := fun s : List (Str × Str × Int) × Sto => NotOk cs s.1 ∧ s.1.length ≤ 64) (fun i s => NotOk cs s.1 ∧ (∀ q ∈ s.1, ∃ j, j < i ∧ cs[j]? = some q.1) ∧ s.1.length ≤ i * 8) ⟨⟨fun q hq => (nomatch hq), List.Pairwise.nil⟩, fun q hq => (nomatch hq), by simp⟩ ?_ ?_) fun fin ⟨hf, hf2⟩ => ?_
  · intro i x s hx ⟨g1, g2, g3⟩
    have hi : i < n + 1 := by have := (List.getElem?_eq_some_iff.mp hx).1; omega
    rw [hl2]
    refine wp_bind (wp_rngN (P := fun t => t = irange 0 ((n + 1 : Nat) : Int)) (by omega) rfl) fun t22 e22 => ?_
    subst e22
    refine wp_bind (wp_forO (P := fun s : List (Str × Str × Int) × Sto => NotOk cs s.1 ∧ (∀ q ∈ s.1, ∃ j, j < i + 1 ∧ cs[j]? = some q.1) ∧ s.1.length ≤ (i + 1) * 8) (fun k s => NotOk cs s.1 ∧ (∀ q ∈ s.1, (∃ j, j < i ∧ cs[j]? = some q.1) ∨ (q.1 = x ∧ ∃ j, j < k ∧ cs[j]? = some q.2.1)) ∧ s.1.length ≤ i * 8 + k) ⟨g1, fun q hq => .inl (g2 q hq), by dsimp only; omega⟩ ?_ ?_) fun f2 h => wp_some h
    · intro k y s hy ⟨b1, b2, b3⟩
      obtain ⟨hk, rfl⟩ := irange_at hy
      refine wp_bind (wp_atI (P := fun t => 2 ≤ t ∧ t ≤ m) (by omega) (h14 _ (List.getElem_mem _))) fun t30 h30 => ?_
      refine wp_bind (figure_spec _ (by omega) h30.1 (by omega)) fun t31 h31 => ?_
      have hk' : k < cs.length := by omega
      have ey : cs[k]? = some cs[k] := List.getElem?_eq_getElem hk'
      refine wp_bind (wp_is (P := fun t => t = cs[k]) (atI_nat' hk') rfl) fun t32 e32 => ?_
      subst e32
      refine wp_cond (fun e => ?_) fun e => wp_some ⟨b1, fun q hq => (b2 q hq).imp id fun ⟨c1, j, c2, c3⟩ => ⟨c1, j, by omega, c3⟩, by dsimp only; omega⟩
      rw [Bool.and_eq_true] at e
      have e1 : cs[k] ≠ x := by simpa using e.1
      have e2 : 0 < t31.1 := by simpa using e.2
      refine wp_bind (wp_is (P := fun t => t = cs[k]) (atI_nat' hk') rfl) fun t33 e33 => ?_
      subst e33
      refine wp_bind (wp_appO (P := fun t => t = s.1 ++ [(x, cs[k], t31.1)]) (by omega) rfl) fun t34 e34 => wp_some ?_
      subst e34
      refine ⟨⟨fun q hq => ?_, pw_snoc b1.2 fun q hq => ?_⟩, fun q hq => ?_, by dsimp only; rw [List.length_append]; simp; omega⟩
      · rcases List.mem_append.mp hq with hq | hq
        · exact b1.1 q hq
        · rw [List.mem_singleton.mp hq]
          exact ⟨List.mem_of_getElem? hx, List.mem_of_getElem? ey, fun z => e1 z.symm, by dsimp only; omega, by dsimp only; omega⟩
      · unfold ltP
        dsimp only
        rcases b2 q hq with ⟨j, c1, c2⟩ | ⟨c1, j, c2, c3⟩
        · have := uq c1 c2 hx
          rw [if_neg (slt_ne this)]
          exact this
        · rw [if_pos c1]
          exact uq c2 c3 ey
      · rcases List.mem_append.mp hq with hq | hq
        · exact (b2 q hq).imp id fun ⟨c1, j, c2, c3⟩ => ⟨c1, j, by omega, c3⟩
        · rw [List.mem_singleton.mp hq]
          exact .inr ⟨rfl, k, by omega, ey⟩
    · intro s ⟨b1, b2, b3⟩
      rw [irange_nat_len] at b2 b3
      refine ⟨b1, fun q hq => ?_, by omega⟩
      rcases b2 q hq with ⟨j, c1, c2⟩ | ⟨c1, j, c2, c3⟩
      · exact ⟨j, by omega, c2⟩
      · exact ⟨i, by omega, by rw [c1]; exact hx⟩
  · intro s ⟨g1, g2, g3⟩
    exact ⟨g1, by omega⟩
  rw [hl2]
  refine wp_bind (wp_rngN (P := fun t => t = irange 0 ((n + 1 : Nat) : Int)) (by omega) rfl) fun t35 e35 => ?_
  subst e35
  refine wp_bind (P := fun t : List (Str × Int) => t.length = n + 1 ∧ t.map (·.1) = cs ∧ ∀ x ∈ t, 2 ≤ x.2 ∧ x.2 ≤ m) (wp_lcO (fun x y => ∃ k : Nat, x = (k : Int) ∧ cs[k]? = some y.1 ∧ 2 ≤ y.2 ∧ y.2 ≤ m) (by rw [irange_nat_len]; omega) (fun x hx => ?_) ?_) fun t44 ⟨d1, d2, d3⟩ => wp_some ?_
  · obtain ⟨k, hk, rfl⟩ := irange_mem hx
    have hk' : k < cs.length := by omega
    refine wp_bind (wp_is (P := fun t => t = cs[k]) (atI_nat' hk') rfl) fun t42 e42 => ?_
    subst e42
    refine wp_bind (wp_atI (P := fun t => 2 ≤ t ∧ t ≤ m) (by omega) (h14 _ (List.getElem_mem _))) fun t43 h43 => wp_some ⟨k, rfl, List.getElem?_eq_getElem hk', h43⟩
  · intro ys hl h
    rw [irange_nat_len] at hl
    have at' : ∀ (i : Nat) (y : Str × Int), ys[i]? = some y → cs[i]? = some y.1 ∧ 2 ≤ y.2 ∧ y.2 ≤ m := fun i y e => by
      have hi : i < n + 1 := by have := (List.getElem?_eq_some_iff.mp e).1; omega
      obtain ⟨k, c1, c2⟩ := h i (i : Int) y (by rw [irange_get (by omega)]; simp) e
      have : i = k := by omega
      subst this
      exact c2
    refine ⟨hl, List.ext_getElem? fun i => ?_, fun x hx => ?_⟩
    · rw [List.getElem?_map]
      by_cases hi : i < n + 1
      · have := (at' i _ (List.getElem?_eq_getElem (by omega))).1
        rw [List.getElem?_eq_getElem (by omega : i < ys.length), this]
        rfl
      · rw [List.getElem?_eq_none (by omega), List.getElem?_eq_none (by omega)]
        rfl
    · obtain ⟨i, hi⟩ := List.mem_iff_getElem?.mp hx
      exact (at' i x hi).2
  · refine ⟨⟨by dsimp only; omega, by dsimp only; omega, ?_, fun x hx => (by have := d3 x hx; omega), ?_, hf2⟩, by dsimp only; omega, fun x hx => (d3 x hx).2⟩
    · dsimp only; rw [d2]; exact hc
    · dsimp only; rw [d2]; exact hf
end K14

end

section
set_option maxHeartbeats 2000000
namespace K14
open PySem L2 Kx Mx
theorem within_spec {x lo hi : Int} (h1 : lo ≤ x) (h2 : x ≤ hi) : m_is_within (x, lo, hi) = some true := by
  unfold m_is_within m_is_whole
  simp [h1, h2]
/-! ### tables whose keys differ -/
section
variable {α β : Type} [DecidableEq α]
theorem putA_new {xs : List (α × β)} {k : α} {v : β} (h : k ∉ xs.map (·.1)) : putA xs k v = xs ++ [(k, v)] := by
  unfold putA
  rw [if_neg]
  intro e
  obtain ⟨x, hx, e⟩ := List.any_eq_true.mp e
  exact h (List.mem_map.mpr ⟨x, hx, of_decide_eq_true e⟩)
theorem mergeA_nodup : ∀ {more acc : List (α × β)}, ((acc ++ more).map (·.1)).Nodup → mergeA acc more = acc ++ more
  | [], acc, _ => by rw [List.append_nil]; rfl
  | p :: more, acc, h => by
    have hn : p.1 ∉ acc.map (·.1) := fun e => by
      rw [List.map_append] at h
      have := (List.nodup_append.mp h).2.2 p.1 e p.1 (by simp)
      exact this rfl
    show mergeA (putA acc p.1 p.2) more = _
    rw [putA_new hn, mergeA_nodup (by simpa using h)]
    simp
theorem dictO_nodup {xs : List (α × β)} (hl : xs.length ≤ 16777216) (h : (xs.map (·.1)).Nodup) : dictO xs = some xs := by
  unfold dictO
  rw [grd_yes hl, mergeA_nodup (by simpa using h)]
  rfl
theorem getA_mem {xs : List (α × β)} {k : α} (h : k ∈ xs.map (·.1)) : ∃ b, getA xs k = some b := by
  induction xs with
  | nil => simp at h
  | cons p xs ih =>
    by_cases e : p.1 = k
    · exact ⟨_, getA_pos e⟩
    · rw [getA_neg e]
      refine ih ?_
      rcases List.mem_cons.mp h with q | q
      · exact absurd q.symm e
      · exact q
end
def cs (k : List (Str × Int) × List (Str × Str × Int)) : List Str := k.1.map (·.1)
def tb (k : List (Str × Int) × List (Str × Str × Int)) : List ((Str × Str) × Int) := k.2.map fun n => ((n.1, n.2.1), n.2.2)
abbrev pl (k : List (Str × Int) × List (Str × Str × Int)) : List (Str × Int) × List (Str × Str × Int) × List (Str × Int) × List ((Str × Str) × Int) := (k.1, k.2, k.1, tb k)
def tk (k : List (Str × Int) × List (Str × Str × Int)) (a b : Str) : Int := getD' (tb k) (a, b) 0
theorem nms_nodup {xs : List Str} (h : Nms xs) : xs.Nodup := h.2.imp fun h => slt_ne h
theorem ltP_ne {a b : Str × Str} (h : ltP a b = true) : a ≠ b := fun e => by
  unfold ltP at h
  rw [e, if_pos rfl, sLt_irr] at h
  cases h
section
variable {k : List (Str × Int) × List (Str × Str × Int)}
theorem Kit.nd (h : Kit k) : (cs k).Nodup := nms_nodup h.nm
theorem Kit.tnd (h : Kit k) : ((tb k).map (·.1)).Nodup := by
  unfold tb
  rw [List.map_map]
  exact (List.pairwise_map.mpr (h.nt.2.imp fun h => ltP_ne h))
theorem dcO_spec (h : Kit k) : dcO (fun x : Str × Str × Int => some ((x.1, x.2.1), x.2.2)) k.2 = some (tb k) := by
  unfold dcO
  have : lcO (fun x : Str × Str × Int => some ((x.1, x.2.1), x.2.2)) k.2 = some (tb k) := by
    obtain ⟨r, e1, e2⟩ := wp_lcO_map (P := fun t => t = tb k) (f := fun x : Str × Str × Int => some ((x.1, x.2.1), x.2.2)) (fun n => ((n.1, n.2.1), n.2.2)) (by have := h.nl; omega) (fun _ _ => rfl) rfl
    rw [e1, e2]
  rw [this]
  show some (mergeA [] (tb k)) = _
  rw [mergeA_nodup (by simpa using h.tnd)]
  rfl
theorem is_bell_spec {b : Str × Int} (h1 : NameOk b.1) (h2 : 2 ≤ b.2 ∧ b.2 ≤ 24) : m_is_bell b = some true := by
  unfold m_is_bell
  rw [is_name_spec h1, within_spec h2.1 h2.2]
  rfl
theorem Kit.name (h : Kit k) {x : Str × Int} (hx : x ∈ k.1) : NameOk x.1 := h.nm.1 _ (List.mem_map.mpr ⟨x, hx, rfl⟩)
theorem check_bells_spec (h : Kit k) : m_check_bells k.1 = some () := by
  have W : Wp (m_check_bells k.1) fun _ => True := by
    unfold m_check_bells
    refine wp_cond (fun e => ?_) fun _ => ?_
    · have h1 := h.l1
      have h2 := h.l2
      have e1 : decide ((1 : Int) ≤ (k.1.length : Int)) = true := decide_eq_true (by omega)
      have e2 : decide ((k.1.length : Int) ≤ 8) = true := decide_eq_true (by omega)
      rw [e1, e2] at e
      cases e
    refine wp_bind (wp_forO (P := fun _ => True) (fun _ _ => True) trivial (fun i p s hp _ => ?_) fun _ _ => trivial) fun _ _ => wp_some trivial
    obtain ⟨x, hx, rfl⟩ := enum_at hp
    have hxm := List.mem_of_getElem? hx
    refine wp_bind (wp_is (P := fun t => t = true) (is_bell_spec (h.name hxm) (h.sz x hxm)) rfl) fun t e => ?_
    subst e
    refine wp_bind (P := fun t => t = false) (wp_cond (fun e => by cases e) fun _ => wp_bind (P := fun t => t = false) (wp_cond (fun e => ?_) fun _ => wp_some rfl) fun t e => wp_some e) fun t e => ?_
    · have hi : 0 < i := by have : (0 : Int) < (i : Int) := of_decide_eq_true e; omega
      have hil := (List.getElem?_eq_some_iff.mp hx).1
      have e1 : (i : Int) - 1 = ((i - 1 : Nat) : Int) := by omega
      dsimp only
      rw [e1]
      refine wp_bind (wp_is (P := fun t => t = k.1[i - 1]) (atI_nat' (by omega)) rfl) fun t13 e13 => wp_some ?_
      subst e13
      have := pw_at h.nm.2 (i := i - 1) (j := i) (x := (k.1[i - 1]).1) (y := x.1) (by omega) (by rw [List.getElem?_map, List.getElem?_eq_getElem (by omega)]; rfl) (by rw [List.getElem?_map, hx]; rfl)
      rw [this]
      rfl
    · subst e
      exact wp_cond (fun e => by cases e) fun _ => wp_some trivial
  obtain ⟨⟨⟩, hr, _⟩ := W
  exact hr
theorem is_notch_spec (h : Kit k) {n : Str × Str × Int} (hn : n ∈ k.2) : m_is_notch (n, cs k) = some true := by
  obtain ⟨h1, h2, h3, h4, h5⟩ := h.nt.1 n hn
  have n1 := h.nm.1 _ h1
  have n2 := h.nm.1 _ h2
  have W : Wp (m_is_notch (n, cs k)) fun b => b = true := by
    unfold m_is_notch
    refine wp_cond (fun e => by cases e) fun _ => ?_
    refine wp_bind (P := fun t : List Bool => t.all id = true) ?_ fun t8 h8 => ?_
    · refine (wp_is (x := [true, true]) ?_ rfl)
      unfold lcO
      rw [grd_yes (by simp)]
      have m1 : memB n.1 (cs k) = true := decide_eq_true h1
      have m2 : memB n.2.1 (cs k) = true := decide_eq_true h2
      simp [mapO, is_name_spec n1, is_name_spec n2, m1, m2]
    · rw [h8]
      refine wp_cond (fun e => by cases e) fun _ => wp_bind (P := fun t => t = true) (wp_cond (fun _ => ?_) fun e => ?_) fun t e => wp_some e
      · rw [within_spec h4 h5]
        exact wp_some rfl
      · exact absurd (by simpa using e) h3
  obtain ⟨r, hr, e⟩ := W
  rw [hr, e]
theorem check_notches_spec (h : Kit k) : m_check_notches (k.2, cs k) = some () := by
  have W : Wp (m_check_notches (k.2, cs k)) fun _ => True := by
    unfold m_check_notches
    refine wp_cond (fun e => by cases e) fun _ => ?_
    refine wp_bind (wp_forO (P := fun _ => True) (fun _ _ => True) trivial (fun i p s hp _ => ?_) fun _ _ => trivial) fun _ _ => wp_some trivial
    obtain ⟨x, hx, rfl⟩ := enum_at hp
    have hxm := List.mem_of_getElem? hx
    refine wp_bind (wp_is (P := fun t => t = true) (is_notch_spec h hxm) rfl) fun t e => ?_
    subst e
    refine wp_bind (P := fun t => t = false) (wp_cond (fun e => by cases e) fun _ => wp_bind (P := fun t => t = false) (wp_cond (fun e => ?_) fun _ => wp_some rfl) fun t e => wp_some e) fun t e => ?_
    · have hi : 0 < i := by have : (0 : Int) < (i : Int) := of_decide_eq_true e; omega
      have hil := (List.getElem?_eq_some_iff.mp hx).1
      have e1 : (i : Int) - 1 = ((i - 1 : Nat) : Int) := by omega
      dsimp only at hil ⊢
      rw [e1]
      refine wp_bind (wp_is (P := fun t => t = k.2[i - 1]) (atI_nat' (by omega)) rfl) fun t13 e13 => wp_some ?_
      subst e13
      have := pw_at h.nt.2 (i := i - 1) (j := i) (x := k.2[i - 1]) (y := x) (by omega) (List.getElem?_eq_getElem (by omega)) hx
      rw [this]
      rfl
    · subst e
      exact wp_cond (fun e => by cases e) fun _ => wp_some trivial
  obtain ⟨⟨⟩, hr, _⟩ := W
  exact hr
theorem names_lc (h : Kit k) : lcO (fun x : Str × Int => some x.1) k.1 = some (cs k) := by
  obtain ⟨r, e1, e2⟩ := wp_lcO_map (P := fun t => t = cs k) (f := fun x : Str × Int => some x.1) (fun n => n.1) (by have := h.l2; omega) (fun _ _ => rfl) rfl
  rw [e1, e2]
theorem init_spec (h : Kit k) : m_Peal___init__ (k.1, k.2) = some (pl k) := by
  unfold m_Peal___init__
  rw [check_bells_spec h]
  show (lcO _ k.1).bind _ = _
  rw [names_lc h]
  show (m_check_notches (k.2, cs k)).bind _ = _
  rw [check_notches_spec h]
  show (dictO k.1).bind _ = _
  rw [dictO_nodup (by have := h.l2; omega) h.nd]
  show (dcO _ k.2).bind _ = _
  rw [dcO_spec h]
  rfl
end
end K14

end

section
set_option maxHeartbeats 2000000
namespace K14
open PySem L2 Kx Mx
section
variable {k : List (Str × Int) × List (Str × Str × Int)}
theorem seq_nat {i n : Nat} (h : i < n) : seqIndex? (i : Int) n = some i := by
  unfold seqIndex?
  have e1 : ¬ ((i : Int) < 0) := by omega
  simp only [e1, if_false]
  rw [if_pos (by simp; omega), Int.toNat_natCast]
theorem wp_popO {α : Type} {xs : List α} {i : Nat} {P : α × List α → Prop} (h : i < xs.length) (hl : xs.length ≤ 16777216) (q : P (xs[i], xs.eraseIdx i)) : Wp (popO xs (i : Int)) P := by
  unfold popO
  refine wp_bind (wp_grd (by omega)) fun _ _ => wp_bind (wp_is (P := fun t => t = i) (seq_nat h) rfl) fun t e => ?_
  subst e
  exact wp_bind (wp_is (P := fun y => y = xs[t]) (List.getElem?_eq_getElem h) rfl) fun y e => by subst e; exact wp_some q
theorem perm_erase {α : Type} {xs : List α} {i : Nat} (h : i < xs.length) : xs.Perm (xs[i] :: xs.eraseIdx i) := by
  have e : xs = xs.take i ++ xs[i] :: xs.drop (i + 1) := by rw [List.getElem_cons_drop, List.take_append_drop]
  have e2 : xs.eraseIdx i = xs.take i ++ xs.drop (i + 1) := List.eraseIdx_eq_take_drop_succ xs i
  rw [e2]
  calc xs = xs.take i ++ xs[i] :: xs.drop (i + 1) := e
    List.Perm _ _ := List.perm_middle
theorem cut_mid {α : Type} (xs : List α) (p q : Nat) : cut xs (some (p : Int)) (some (q : Int)) = (xs.drop p).take (q - p) := by
  unfold cut
  rw [HT.sIx_nat, HT.sIx_nat]
  by_cases h : p ≤ xs.length
  · rw [Nat.min_eq_left h]
    by_cases h2 : q ≤ xs.length
    · rw [Nat.min_eq_left h2]
    · rw [Nat.min_eq_right (by omega), List.take_of_length_le (by rw [List.length_drop]; omega), List.take_of_length_le (by rw [List.length_drop]; omega)]
  · rw [show min p xs.length = xs.length from Nat.min_eq_right (by omega), List.drop_length, List.drop_of_length_le (by omega)]
    simp
end
end K14

end

section
set_option maxHeartbeats 2000000
namespace K14
open PySem L2 Kx Mx
/-! ### the pairs of a row: the one ahead of the other -/
def prs : List Str → List (Str × Str)
  | [] => []
  | x :: xs => xs.map (fun y => (x, y)) ++ prs xs
theorem mem_prs_cons {a b x : Str} {xs : List Str} : (a, b) ∈ prs (x :: xs) ↔ (a = x ∧ b ∈ xs) ∨ (a, b) ∈ prs xs := by
  rw [prs, List.mem_append, List.mem_map]
  constructor
  · rintro (⟨y, hy, e⟩ | h)
    · cases e
      exact .inl ⟨rfl, hy⟩
    · exact .inr h
  · rintro (⟨rfl, h⟩ | h)
    · exact .inl ⟨b, h, rfl⟩
    · exact .inr h
theorem prs_mem {a b : Str} : ∀ {xs : List Str}, (a, b) ∈ prs xs → a ∈ xs ∧ b ∈ xs
  | [], h => nomatch h
  | x :: xs, h => by
    rcases mem_prs_cons.mp h with ⟨e, h2⟩ | h2
    · exact ⟨e ▸ List.mem_cons_self, List.mem_cons_of_mem _ h2⟩
    · obtain ⟨h1, h2⟩ := prs_mem h2
      exact ⟨List.mem_cons_of_mem _ h1, List.mem_cons_of_mem _ h2⟩
theorem prs_len : ∀ xs : List Str, (prs xs).length ≤ xs.length * xs.length
  | [] => Nat.le_refl _
  | x :: xs => by
    have := prs_len xs
    rw [prs, List.length_append, List.length_map, List.length_cons, Nat.add_mul, Nat.mul_add]
    omega
theorem mem_prs_snoc {a b x : Str} : ∀ {xs : List Str}, (a, b) ∈ prs (xs ++ [x]) ↔ (a, b) ∈ prs xs ∨ (a ∈ xs ∧ b = x)
  | [] => by simp [prs]
  | y :: ys => by
    have ih := mem_prs_snoc (a := a) (b := b) (x := x) (xs := ys)
    have m : b ∈ ys ++ [x] ↔ b ∈ ys ∨ b = x := by simp
    have m2 : a ∈ y :: ys ↔ a = y ∨ a ∈ ys := List.mem_cons
    rw [List.cons_append, mem_prs_cons, ih, mem_prs_cons, m, m2]
    constructor
    · intro h
      rcases h with ⟨h1, h2 | h2⟩ | h | ⟨h1, h2⟩
      · exact .inl (.inl ⟨h1, h2⟩)
      · exact .inr ⟨.inl h1, h2⟩
      · exact .inl (.inr h)
      · exact .inr ⟨.inr h1, h2⟩
    · intro h
      rcases h with (⟨h1, h2⟩ | h) | ⟨h1 | h1, h2⟩
      · exact .inl ⟨h1, .inl h2⟩
      · exact .inr (.inl h)
      · exact .inl ⟨h1, .inr h2⟩
      · exact .inr (.inr ⟨h1, h2⟩)
theorem mem_prs_rev {a b : Str} : ∀ {xs : List Str}, (a, b) ∈ prs xs.reverse ↔ (b, a) ∈ prs xs
  | [] => by simp [prs]
  | x :: xs => by
    rw [List.reverse_cons, mem_prs_snoc, mem_prs_rev, mem_prs_cons, List.mem_reverse]
    constructor
    · rintro (h | ⟨h1, h2⟩)
      · exact .inr h
      · exact .inl ⟨h2, h1⟩
    · rintro (⟨h1, h2⟩ | h)
      · exact .inr ⟨h2, h1⟩
      · exact .inl h
theorem prs_anti {a b : Str} : ∀ {xs : List Str}, xs.Nodup → (a, b) ∈ prs xs → (b, a) ∉ prs xs
  | [], _, h => nomatch h
  | x :: xs, nd, h => by
    obtain ⟨n1, n2⟩ := List.nodup_cons.mp nd
    intro h'
    rcases mem_prs_cons.mp h with ⟨e1, q1⟩ | q1
    · rcases mem_prs_cons.mp h' with ⟨e2, q2⟩ | q2
      · exact n1 (e1 ▸ q2)
      · exact n1 (e1 ▸ (prs_mem q2).2)
    · rcases mem_prs_cons.mp h' with ⟨e2, q2⟩ | q2
      · exact n1 (e2 ▸ (prs_mem q1).2)
      · exact prs_anti n2 q1 q2
theorem prs_ne {a b : Str} {xs : List Str} (nd : xs.Nodup) (h : (a, b) ∈ prs xs) : a ≠ b := fun e => by
  subst e
  exact prs_anti nd h h
theorem prs_tot {a b : Str} : ∀ {xs : List Str}, a ∈ xs → b ∈ xs → a ≠ b → (a, b) ∈ prs xs ∨ (b, a) ∈ prs xs
  | [], h, _, _ => nomatch h
  | x :: xs, ha, hb, n => by
    rw [mem_prs_cons, mem_prs_cons]
    rcases List.mem_cons.mp ha with e1 | q1
    · rcases List.mem_cons.mp hb with e2 | q2
      · exact absurd (e1.trans e2.symm) n
      · exact .inl (.inl ⟨e1, q2⟩)
    · rcases List.mem_cons.mp hb with e2 | q2
      · exact .inr (.inl ⟨e2, q1⟩)
      · exact (prs_tot q1 q2 n).imp .inr .inr
/-! places -/
theorem idx_mem {a : Str} : ∀ {xs : List Str}, a ∈ xs → ∃ i, idxO a xs = some i
  | [], h => nomatch h
  | x :: xs, h => by
    unfold idxO
    by_cases e : x = a
    · exact ⟨0, if_pos e⟩
    · rw [if_neg e]
      rcases List.mem_cons.mp h with q | q
      · exact absurd q.symm e
      · obtain ⟨i, hi⟩ := idx_mem q
        exact ⟨i + 1, by rw [hi]; rfl⟩
theorem idx_lt {a b : Str} : ∀ {xs : List Str} {i j : Nat}, xs.Nodup → idxO a xs = some i → idxO b xs = some j → ((a, b) ∈ prs xs ↔ i < j)
  | [], _, _, _, h, _ => by cases h
  | x :: xs, i, j, nd, ha, hb => by
    obtain ⟨n1, n2⟩ := List.nodup_cons.mp nd
    unfold idxO at ha hb
    rw [mem_prs_cons]
    by_cases ea : x = a
    · rw [if_pos ea] at ha
      cases ha
      subst ea
      by_cases eb : x = b
      · rw [if_pos eb] at hb
        cases hb
        subst eb
        constructor
        · rintro (⟨_, h⟩ | h)
          · exact absurd h n1
          · exact absurd (prs_mem h).1 n1
        · intro h; omega
      · rw [if_neg eb] at hb
        cases e : idxO b xs with
        | none => rw [e] at hb; cases hb
        | some j' =>
          rw [e] at hb
          cases hb
          refine ⟨fun _ => Nat.succ_pos _, fun _ => .inl ⟨rfl, List.mem_of_getElem? (idxO_of e).1⟩⟩
    · rw [if_neg ea] at ha
      cases e1 : idxO a xs with
      | none => rw [e1] at ha; cases ha
      | some i' =>
        rw [e1] at ha
        cases ha
        by_cases eb : x = b
        · rw [if_pos eb] at hb
          cases hb
          subst eb
          constructor
          · rintro (⟨h, _⟩ | h)
            · exact absurd h.symm ea
            · exact absurd (prs_mem h).2 n1
          · intro h; omega
        · rw [if_neg eb] at hb
          cases e2 : idxO b xs with
          | none => rw [e2] at hb; cases hb
          | some j' =>
            rw [e2] at hb
            cases hb
            have ih := idx_lt n2 e1 e2
            constructor
            · rintro (⟨h, _⟩ | h)
              · exact absurd h.symm ea
              · have := ih.mp h
                show i' + 1 < j' + 1
                omega
            · intro h
              have h : i' + 1 < j' + 1 := h
              exact .inr (ih.mpr (by omega))
theorem idx_app {x : Str} : ∀ {xs ys : List Str}, x ∉ xs → idxO x (xs ++ x :: ys) = some xs.length
  | [], ys, _ => by
    show idxO x (x :: ys) = _
    unfold idxO
    rw [if_pos rfl]
    rfl
  | y :: xs, ys, h => by
    show idxO x (y :: (xs ++ x :: ys)) = _
    unfold idxO
    rw [if_neg (fun e => h (by rw [e]; exact List.mem_cons_self)), idx_app fun e => h (List.mem_cons_of_mem _ e)]
    rfl
/-! ahead_in -/
def ps2 : List Str → List (List (Str × Str))
  | [] => []
  | x :: xs => xs.map (fun y => (x, y)) :: ps2 xs
theorem ps2_flat : ∀ xs : List Str, (ps2 xs).flatten = prs xs
  | [] => rfl
  | x :: xs => by rw [ps2, List.flatten_cons, ps2_flat xs, prs]
theorem mapO_some {α β : Type} {f : α → Option β} {g : α → β} : ∀ {xs : List α}, (∀ x ∈ xs, f x = some (g x)) → mapO f xs = some (xs.map g)
  | [], _ => rfl
  | x :: xs, h => by
    unfold mapO
    rw [h x List.mem_cons_self, mapO_some fun y hy => h y (List.mem_cons_of_mem _ hy)]
    rfl
theorem ahead_map (r : List Str) : ∀ (pre s : List Str), r = pre ++ s → mapO (fun x : Int × Str => (some (cut r (some (x.1 + 1)) none)).bind fun zs => mapO (fun y : Str => some (x.2, y)) zs) (s.mapIdx fun i x => (((pre.length + i : Nat) : Int), x)) = some (ps2 s)
  | pre, [], _ => rfl
  | pre, x :: s, e => by
    rw [List.mapIdx_cons]
    have e1 : ((pre.length + 0 : Nat) : Int) + 1 = ((pre.length + 1 : Nat) : Int) := by omega
    have e2 : cut r (some (((pre.length + 0 : Nat) : Int) + 1)) none = s := by
      rw [e1, cut_from, e]
      rw [show pre.length + 1 = (pre ++ [x]).length by simp, show pre ++ x :: s = (pre ++ [x]) ++ s by simp, List.drop_left]
    have ih := ahead_map r (pre ++ [x]) s (by rw [e]; simp)
    have e3 : (fun (i : Nat) (y : Str) => (((pre.length + (i + 1) : Nat) : Int), y)) = fun (i : Nat) (y : Str) => ((((pre ++ [x]).length + i : Nat) : Int), y) := by
      funext i y
      rw [List.length_append, List.length_singleton]
      congr 2
      omega
    rw [← e3] at ih
    unfold mapO
    rw [ih]
    dsimp only
    rw [e2]
    show ((some s).bind fun zs => mapO _ zs).bind _ = _
    rw [Option.bind_some, mapO_some (g := fun y => (x, y)) fun _ _ => rfl]
    rfl
/-! ### sums -/
def sumF {α : Type} (xs : List α) (f : α → Int) : Int := (xs.map f).sum
theorem sumF_nil {α : Type} {f : α → Int} : sumF [] f = 0 := rfl
theorem sumF_cons {α : Type} {x : α} {xs : List α} {f : α → Int} : sumF (x :: xs) f = f x + sumF xs f := by unfold sumF; simp
theorem sumF_app {α : Type} {xs ys : List α} {f : α → Int} : sumF (xs ++ ys) f = sumF xs f + sumF ys f := by unfold sumF; simp
theorem sumF_map {α β : Type} {xs : List α} {g : α → β} {f : β → Int} : sumF (xs.map g) f = sumF xs fun x => f (g x) := by unfold sumF; rw [List.map_map]; rfl
theorem sumF_perm {α : Type} {xs ys : List α} {f : α → Int} (h : xs.Perm ys) : sumF xs f = sumF ys f := by
  induction h with
  | nil => rfl
  | cons x _ ih => rw [sumF_cons, sumF_cons, ih]
  | swap x y l => rw [sumF_cons, sumF_cons, sumF_cons, sumF_cons]; omega
  | trans _ _ h1 h2 => exact h1.trans h2
theorem sumF_congr {α : Type} {xs : List α} {f g : α → Int} (h : ∀ x ∈ xs, f x = g x) : sumF xs f = sumF xs g := by
  unfold sumF
  rw [List.map_congr_left h]
theorem sumF_zero {α : Type} {xs : List α} {f : α → Int} (h : ∀ x ∈ xs, f x = 0) : sumF xs f = 0 := by
  induction xs with
  | nil => rfl
  | cons x xs ih => rw [sumF_cons, h x List.mem_cons_self, ih fun y hy => h y (List.mem_cons_of_mem _ hy)]; rfl
/-- one of them alone -/
theorem sumF_one {xs : List Str} {b : Str} {v : Int} (nd : xs.Nodup) : sumF xs (fun y => if y = b then v else 0) = if b ∈ xs then v else 0 := by
  induction xs with
  | nil => simp [sumF_nil]
  | cons x xs ih =>
    obtain ⟨n1, n2⟩ := List.nodup_cons.mp nd
    rw [sumF_cons, ih n2]
    by_cases e : x = b
    · subst e
      rw [if_pos rfl, if_neg n1, if_pos List.mem_cons_self]
      omega
    · rw [if_neg e]
      by_cases hb : b ∈ xs
      · rw [if_pos hb, if_pos (List.mem_cons_of_mem _ hb)]; omega
      · rw [if_neg hb, if_neg fun q => (List.mem_cons.mp q).elim (fun z => e z.symm) hb]; omega
/-- over the pairs with b behind -/
theorem sum_behind {b : Str} {g : Str → Int} : ∀ {xs : List Str}, xs.Nodup → sumF (prs xs) (fun p => if p.2 = b then g p.1 else 0) = sumF xs fun a => if (a, b) ∈ prs xs then g a else 0
  | [], _ => rfl
  | x :: xs, nd => by
    obtain ⟨n1, n2⟩ := List.nodup_cons.mp nd
    rw [prs, sumF_app, sumF_map, sum_behind n2, sumF_cons]
    have e1 : sumF xs (fun y => if (x, y).2 = b then g (x, y).1 else 0) = if (x, b) ∈ prs (x :: xs) then g x else 0 := by
      rw [show (fun y : Str => if (x, y).2 = b then g (x, y).1 else 0) = fun y => if y = b then g x else 0 from rfl, sumF_one n2]
      by_cases hb : b ∈ xs
      · rw [if_pos hb, if_pos (mem_prs_cons.mpr (.inl ⟨rfl, hb⟩))]
      · rw [if_neg hb, if_neg fun q => (mem_prs_cons.mp q).elim (fun z => hb z.2) fun z => n1 (prs_mem z).1]
    have e2 : sumF xs (fun a => if (a, b) ∈ prs xs then g a else 0) = sumF xs fun a => if (a, b) ∈ prs (x :: xs) then g a else 0 := by
      refine sumF_congr fun a ha => ?_
      have : (a, b) ∈ prs (x :: xs) ↔ (a, b) ∈ prs xs := by
        rw [mem_prs_cons]
        exact ⟨fun q => q.elim (fun z => absurd (z.1 ▸ ha) n1) id, .inr⟩
      by_cases q : (a, b) ∈ prs xs
      · rw [if_pos q, if_pos (this.mpr q)]
      · rw [if_neg q, if_neg fun z => q (this.mp z)]
    rw [e1, e2]
    rfl
/-- over the pairs with b ahead -/
theorem sum_ahead {b : Str} {g : Str → Int} : ∀ {xs : List Str}, xs.Nodup → sumF (prs xs) (fun p => if p.1 = b then g p.2 else 0) = sumF xs fun a => if (b, a) ∈ prs xs then g a else 0
  | [], _ => rfl
  | x :: xs, nd => by
    obtain ⟨n1, n2⟩ := List.nodup_cons.mp nd
    rw [prs, sumF_app, sumF_map, sum_ahead n2, sumF_cons]
    have e0 : ¬ (b, x) ∈ prs (x :: xs) := fun q => (mem_prs_cons.mp q).elim (fun z => n1 z.2) fun z => n1 (prs_mem z).2
    rw [show (if (b, x) ∈ xs.map (fun y => (x, y)) ++ prs xs then g x else 0) = 0 from if_neg e0, Int.zero_add]
    by_cases e : x = b
    · subst e
      have z : sumF xs (fun a => if (x, a) ∈ prs xs then g a else 0) = 0 := sumF_zero fun a _ => if_neg fun q => n1 (prs_mem q).1
      rw [z, Int.add_zero]
      refine sumF_congr fun a ha => ?_
      show (if x = x then g a else 0) = _
      rw [if_pos rfl]
      exact (if_pos (mem_prs_cons.mpr (.inl ⟨rfl, ha⟩) : (x, a) ∈ prs (x :: xs))).symm
    · have z : sumF xs (fun y => if (x, y).1 = b then g (x, y).2 else 0) = 0 := sumF_zero fun a _ => if_neg e
      rw [z, Int.zero_add]
      refine sumF_congr fun a ha => ?_
      have : (b, a) ∈ prs (x :: xs) ↔ (b, a) ∈ prs xs := by
        rw [mem_prs_cons]
        exact ⟨fun q => q.elim (fun z => absurd z.1.symm e) id, .inr⟩
      by_cases q : (b, a) ∈ prs xs
      · rw [if_pos q]
        exact (if_pos (this.mpr q)).symm
      · rw [if_neg q]
        exact (if_neg fun z => q (this.mp z)).symm
end K14

end

section
set_option maxHeartbeats 2000000
namespace K14
open PySem L2 Kx Mx
section
variable {α β : Type} [DecidableEq α]
theorem getA_map {k j : α} {v : β} : ∀ {xs : List (α × β)}, getA (xs.map fun x => if x.1 = k then (x.1, v) else x) j = (getA xs j).map fun y => if j = k then v else y
  | [] => rfl
  | p :: xs => by
    rw [List.map_cons]
    have e1 : (if p.1 = k then (p.1, v) else p).1 = p.1 := by split <;> rfl
    by_cases e : p.1 = j
    · rw [getA_pos (e1.trans e), getA_pos e]
      subst e
      by_cases q : p.1 = k
      · simp [q]
      · simp [q]
    · rw [getA_neg (fun z => e (e1.symm.trans z)), getA_neg e, getA_map]
theorem getA_snoc {k j : α} {v : β} : ∀ {xs : List (α × β)}, (¬ k ∈ xs.map (·.1)) → getA (xs ++ [(k, v)]) j = if j = k then some v else getA xs j
  | [], _ => by
    by_cases e : k = j
    · subst e
      rw [if_pos rfl]
      exact getA_pos (p := (k, v)) rfl
    · rw [if_neg (fun z => e z.symm)]
      exact getA_neg (p := (k, v)) e
  | p :: xs, h => by
    have h1 : p.1 ≠ k := fun e => h (by rw [List.map_cons, e]; exact List.mem_cons_self)
    have ih := getA_snoc (j := j) (v := v) (xs := xs) fun e => h (by rw [List.map_cons]; exact List.mem_cons_of_mem _ e)
    rw [List.cons_append]
    by_cases e : p.1 = j
    · rw [getA_pos e, getA_pos e, if_neg fun z => h1 (e.trans z)]
    · rw [getA_neg e, getA_neg e, ih]
theorem getA_put {k j : α} {v : β} {xs : List (α × β)} : getA (putA xs k v) j = if j = k then some v else getA xs j := by
  by_cases q : k ∈ xs.map (·.1)
  · obtain ⟨b, hb⟩ := getA_mem q
    have : (xs.any fun x => decide (x.1 = k)) = true := by
      obtain ⟨x, hx, e⟩ := List.mem_map.mp q
      exact List.any_eq_true.mpr ⟨x, hx, decide_eq_true e⟩
    unfold putA
    rw [if_pos this, getA_map]
    by_cases e : j = k
    · subst e
      rw [hb, if_pos rfl]
      simp
    · rw [if_neg e]
      cases getA xs j <;> simp [e]
  · rw [putA_new q, getA_snoc q]
theorem getD_put {k j : α} {v z : β} {xs : List (α × β)} : getD' (putA xs k v) j z = if j = k then v else getD' xs j z := by
  unfold getD'
  rw [getA_put]
  by_cases e : j = k
  · rw [if_pos e, if_pos e]; rfl
  · rw [if_neg e, if_neg e]
end
abbrev KT0 := List (Str × Int) × List (Str × Str × Int)
section
variable {k : KT0}
theorem row_len (h : Kit k) {r : List Str} (p : r.Perm (cs k)) : r.length ≤ 8 := by
  rw [p.length_eq]
  unfold cs
  rw [List.length_map]
  exact h.l2
theorem row_nd (h : Kit k) {r : List Str} (p : r.Perm (cs k)) : r.Nodup := p.nodup_iff.mpr h.nd
theorem lc_mod (h : Kit k) {f : Str × Int → Int} : lcO (fun x : Str × Int => (modO (f x) x.2).bind fun t => some t) k.1 = some (k.1.map fun b => f b % b.2) := by
  obtain ⟨r, e1, e2⟩ := wp_lcO_map (P := fun t => t = k.1.map fun b => f b % b.2) (f := fun x : Str × Int => (modO (f x) x.2).bind fun t => some t) (fun b => f b % b.2) (by have := h.l2; omega) (fun x hx => by
    have := h.sz x hx
    unfold modO
    rw [grd_yes (by omega)]
    show some ((f x).fmod x.2) = _
    rw [fm (by omega)]) rfl
  rw [e1, e2]
theorem take_map {γ δ : Type} {f : γ → δ} {xs : List γ} {i : Nat} {x : γ} (h : xs[i]? = some x) : (xs.take i).map f ++ [f x] = (xs.take (i + 1)).map f := by
  rw [List.take_add_one, h, List.map_append]
  rfl
end
end K14

end

section
set_option maxHeartbeats 2000000
namespace K14
open PySem L2 Kx Mx
/-! ### standings: the row, each dial by its bell -/
abbrev SS := List Str × (Str × Int → Int)
/-- the bells ahead of x -/
def ahd (r : List Str) (x : Str) : List Str := r.takeWhile fun y => !decide (y = x)
theorem ahd_split {x : Str} : ∀ {r : List Str}, x ∈ r → ∃ post, r = ahd r x ++ x :: post ∧ x ∉ ahd r x ∧ r.erase x = ahd r x ++ post
  | [], h => nomatch h
  | y :: r, h => by
    by_cases e : y = x
    · subst e
      refine ⟨r, by simp [ahd], by simp [ahd], by simp [ahd]⟩
    · have hx : x ∈ r := (List.mem_cons.mp h).resolve_left fun z => e z.symm
      obtain ⟨post, e1, e2, e3⟩ := ahd_split hx
      have ea : ahd (y :: r) x = y :: ahd r x := by simp [ahd, e]
      refine ⟨post, by rw [ea, List.cons_append, ← e1], by rw [ea]; exact fun z => (List.mem_cons.mp z).elim (fun z => e z.symm) e2, ?_⟩
      rw [List.erase_cons_tail (by simpa using e), ea, List.cons_append, e3]
/-- one ring -/
def ringS (k : KT0) (s : SS) (x : Str) : SS := (x :: s.1.erase x, fun b => (s.2 b + if b.1 ∈ ahd s.1 x then tk k x b.1 else 0) % b.2)
abbrev evS (k : KT0) (s : SS) : List Str × List Int := (s.1, k.1.map s.2)
structure OkS (k : KT0) (s : SS) : Prop where
  p : s.1.Perm (cs k)
  d : ∀ b ∈ k.1, 0 ≤ s.2 b ∧ s.2 b < b.2
section
variable {k : KT0} {s : SS} {x : Str}
theorem OkS.ring (h : Kit k) (o : OkS k s) (hx : x ∈ cs k) : OkS k (ringS k s x) := by
  refine ⟨((List.perm_cons_erase (o.p.mem_iff.mpr hx)).symm.trans o.p), fun b hb => ?_⟩
  have := h.sz b hb
  exact ⟨Int.emod_nonneg _ (by omega), Int.emod_lt_of_pos _ (by omega)⟩
theorem zip_map {α β : Type} (f : α → β) : ∀ l : List α, (l.map f).zip l = l.map fun b => (f b, b)
  | [] => rfl
  | a :: l => by rw [List.map_cons, List.zip_cons_cons, zip_map f l, List.map_cons]
theorem all_true {α : Type} {xs : List α} {ys : List Bool} (hl : ys.length = xs.length) (h : ∀ (i : Nat) (x : α) (y : Bool), xs[i]? = some x → ys[i]? = some y → y = true) : ys.all id = true := by
  rw [List.all_eq_true]
  intro y hy
  obtain ⟨i, hi⟩ := List.mem_iff_getElem?.mp hy
  have hil := (List.getElem?_eq_some_iff.mp hi).1
  have := h i _ y (List.getElem?_eq_getElem (by omega)) hi
  rw [this]; rfl
theorem Kit.knd (h : Kit k) : k.1.Nodup := by
  have := h.nd
  unfold cs at this
  exact (List.pairwise_map.mp this).imp fun {a b} z e => z (by rw [e])
theorem dials_fn (h : Kit k) {ds : List Int} (hl : ds.length = k.1.length) : ∃ f, ds = k.1.map f := by
  refine ⟨fun b => ds.getD (k.1.idxOf b) 0, ?_⟩
  refine List.ext_getElem (by rw [List.length_map, hl]) fun i h1 h2 => ?_
  rw [List.getElem_map]
  have hi : i < k.1.length := by omega
  rw [h.knd.idxOf_getElem i hi]
  simp [List.getD, h1]
abbrev eS : List Str × List Int → Dat := eP2 (eT Dat.str) (eT Dat.int)
theorem without (h : Kit k) : Kit (k.1, []) := ⟨h.l1, h.l2, h.nm, h.sz, ⟨fun n hn => (nomatch hn), .nil⟩, by simp⟩
end
end K14

end

section
set_option maxHeartbeats 2000000
namespace K14
open PySem L2 Kx Mx
/-! ### rings in turn -/
/-- rings, one behind the other -/
def goneS (k : KT0) (s : SS) (rs : List Str) : SS := rs.foldl (ringS k) s
structure RgOk (k : KT0) (rs : List Str) : Prop where
  l : rs.length ≤ 400
  m : ∀ x ∈ rs, x ∈ cs k
section
variable {k : KT0} {s : SS} {rs : List Str}
theorem goneS_ok (h : Kit k) : ∀ {rs : List Str} {s : SS}, OkS k s → (∀ x ∈ rs, x ∈ cs k) → OkS k (goneS k s rs)
  | [], _, o, _ => o
  | x :: rs, s, o, m => goneS_ok h (rs := rs) (s := ringS k s x) (o.ring h (m x List.mem_cons_self)) fun y hy => m y (List.mem_cons_of_mem _ hy)
theorem goneS_app {a b : List Str} : goneS k s (a ++ b) = goneS k (goneS k s a) b := List.foldl_append
/-- a for whose turn is a ring -/
theorem forO_ring (h : Kit k) {f : List Str × List Int → Str → Option (List Str × List Int)} (hf : ∀ (s : SS) (x : Str), OkS k s → x ∈ cs k → f (evS k s) x = some (evS k (ringS k s x))) : ∀ {rs : List Str} {s : SS}, OkS k s → (∀ x ∈ rs, x ∈ cs k) → forO f rs (evS k s) = some (evS k (goneS k s rs))
  | [], _, _, _ => rfl
  | x :: rs, s, o, m => by
    have hx := m x List.mem_cons_self
    show (f (evS k s) x).bind _ = _
    rw [hf s x o hx]
    exact forO_ring h hf (rs := rs) (s := ringS k s x) (o.ring h hx) fun y hy => m y (List.mem_cons_of_mem _ hy)
end
end K14

end

section
set_option maxHeartbeats 2000000
namespace K14
open PySem L2 Kx Mx
/-! ### rows behind rings, and what is turned -/
def rowS (r : List Str) (rs : List Str) : List Str := rs.foldl (fun r x => x :: r.erase x) r
section
variable {r rs : List Str} {x y : Str}
theorem rowS_cons : rowS r (x :: rs) = rowS (x :: r.erase x) rs := rfl
theorem rowS_app {a b : List Str} : rowS r (a ++ b) = rowS (rowS r a) b := List.foldl_append
theorem goneS_row {k : KT0} : ∀ {rs : List Str} {s : SS}, (goneS k s rs).1 = rowS s.1 rs
  | [], _ => rfl
  | x :: rs, s => goneS_row (rs := rs) (s := ringS k s x)
theorem mem_rowS : ∀ {rs r : List Str}, y ∈ rowS r rs ↔ y ∈ r ∨ y ∈ rs
  | [], r => by simp [rowS]
  | x :: rs, r => by
    rw [rowS_cons, mem_rowS (rs := rs), List.mem_cons, List.mem_cons]
    by_cases e : y = x
    · simp [e]
    · rw [List.mem_erase_of_ne e]
      simp [e]
theorem cons_erase_nd (nd : r.Nodup) : (x :: r.erase x).Nodup := List.nodup_cons.mpr ⟨fun h => (List.Nodup.not_mem_erase nd h), nd.erase x⟩
theorem rowS_nd : ∀ {rs r : List Str}, r.Nodup → (rowS r rs).Nodup
  | [], _, nd => nd
  | x :: rs, r, nd => rowS_nd (rs := rs) (cons_erase_nd nd)
theorem rowS_split : ∀ {rs r : List Str}, r.Nodup → rowS r rs = rowS [] rs ++ r.filter fun y => !decide (y ∈ rs)
  | [], r, _ => by
    rw [show (r.filter fun y => !decide (y ∈ ([] : List Str))) = r from List.filter_eq_self.mpr fun y _ => by simp]
    rfl
  | x :: rs, r, nd => by
    have e1 := rowS_split (rs := rs) (r := x :: r.erase x) (cons_erase_nd nd)
    have e2 := rowS_split (rs := rs) (r := [x]) (by simp)
    have e3 : rowS [] (x :: rs) = rowS [x] rs := by rw [rowS_cons]; rfl
    rw [rowS_cons, e1, e3, e2, List.append_assoc]
    congr 1
    rw [show x :: r.erase x = [x] ++ r.erase x from rfl, List.filter_append]
    congr 1
    rw [nd.erase_eq_filter, List.filter_filter]
    apply List.filter_congr
    intro y hy
    by_cases e : y = x <;> simp [e]
theorem rowS_idem (nd : r.Nodup) : rowS (rowS r rs) rs = rowS r rs := by
  rw [rowS_split (rowS_nd nd)]
  conv => rhs; rw [rowS_split nd]
  congr 1
  conv => lhs; rw [rowS_split nd]
  rw [List.filter_append]
  have e1 : (rowS [] rs).filter (fun y => !decide (y ∈ rs)) = [] := by
    rw [List.filter_eq_nil_iff]
    intro y hy
    have := (mem_rowS.mp hy).resolve_left (by simp)
    simp [this]
  rw [e1, List.nil_append, List.filter_filter]
  apply List.filter_congr
  intro y hy
  simp
theorem rowS_perm (h : ∀ x ∈ rs, x ∈ r) : (rowS r rs).Perm r := by
  induction rs generalizing r with
  | nil => exact .refl _
  | cons x rs ih =>
    have p : (x :: r.erase x).Perm r := (List.perm_cons_erase (h x List.mem_cons_self)).symm
    exact (ih fun y hy => p.mem_iff.mpr (h y (List.mem_cons_of_mem _ hy))).trans p
/-- what each bell that goes ahead of another one adds -/
def tot (g : Str × Str → Int) : List Str → List Str → Int
  | _, [] => 0
  | r, x :: rs => sumF (ahd r x) (fun o => g (x, o)) + tot g (x :: r.erase x) rs
theorem tot_cons {g : Str × Str → Int} : tot g r (x :: rs) = sumF (ahd r x) (fun o => g (x, o)) + tot g (x :: r.erase x) rs := rfl
theorem tot_app {g : Str × Str → Int} : ∀ {a b r : List Str}, tot g r (a ++ b) = tot g r a + tot g (rowS r a) b
  | [], b, r => by simp [tot, rowS]
  | x :: a, b, r => by
    rw [List.cons_append, tot_cons, tot_cons, tot_app (a := a), rowS_cons]
    omega
theorem tot_still {g : Str × Str → Int} (h : rowS r rs = r) : ∀ n : Nat, tot g r (List.replicate n rs).flatten = (n : Int) * tot g r rs
  | 0 => by simp [tot]
  | n + 1 => by
    rw [List.replicate_succ, List.flatten_cons, tot_app, h, tot_still h n]
    have : ((n + 1 : Nat) : Int) = (n : Int) + 1 := by omega
    rw [this, Int.add_mul]
    omega
theorem rowS_still (h : rowS r rs = r) : ∀ n : Nat, rowS r (List.replicate n rs).flatten = r
  | 0 => rfl
  | n + 1 => by rw [List.replicate_succ, List.flatten_cons, rowS_app, h, rowS_still h n]
theorem tot_rep {g : Str × Str → Int} (nd : r.Nodup) (n : Nat) : tot g r (List.replicate (n + 1) rs).flatten = tot g r rs + (n : Int) * tot g (rowS r rs) rs := by
  rw [List.replicate_succ, List.flatten_cons, tot_app, tot_still (rowS_idem nd)]
theorem rowS_rep (nd : r.Nodup) (n : Nat) : rowS r (List.replicate (n + 1) rs).flatten = rowS r rs := by
  rw [List.replicate_succ, List.flatten_cons, rowS_app, rowS_still (rowS_idem nd)]
theorem sumF_range {α : Type} {g : α → Int} (h0 : ∀ p, 0 ≤ g p ∧ g p ≤ 1) : ∀ l : List α, 0 ≤ sumF l g ∧ sumF l g ≤ l.length
  | [] => by simp [sumF_nil]
  | a :: l => by
    have := sumF_range h0 l
    have := h0 a
    rw [sumF_cons, List.length_cons]
    omega
theorem ahd_len : (ahd r x).length ≤ r.length := by
  unfold ahd
  exact (List.takeWhile_sublist _).length_le
theorem erase_len : (x :: r.erase x).length ≤ r.length + 1 := by
  rw [List.length_cons, List.length_erase]
  split <;> omega
theorem tot_range {g : Str × Str → Int} (h0 : ∀ p, 0 ≤ g p ∧ g p ≤ 1) : ∀ {rs r : List Str}, (∀ x ∈ rs, x ∈ r) → r.length ≤ 8 → 0 ≤ tot g r rs ∧ tot g r rs ≤ 8 * rs.length
  | [], r, _, _ => by simp [tot]
  | x :: rs, r, hm, hl => by
    have p : (x :: r.erase x).Perm r := (List.perm_cons_erase (hm x List.mem_cons_self)).symm
    have ih := tot_range h0 (rs := rs) (r := x :: r.erase x) (fun y hy => p.mem_iff.mpr (hm y (List.mem_cons_of_mem _ hy))) (by rw [p.length_eq]; exact hl)
    have a := sumF_range (fun o => h0 (x, o)) (ahd r x)
    have b := ahd_len (r := r) (x := x)
    rw [tot_cons, List.length_cons]
    have e : sumF (ahd r x) (fun o => g (x, o)) ≤ 8 := by omega
    omega
theorem ahd_nd (nd : r.Nodup) : (ahd r x).Nodup := by
  unfold ahd
  exact nd.sublist (List.takeWhile_sublist _)
/-- what turns the bell b -/
def gB (k : KT0) (b : Str × Int) (p : Str × Str) : Int := if p.2 = b.1 then tk k p.1 b.1 else 0
theorem ring_gB {k : KT0} {b : Str × Int} (nd : r.Nodup) : sumF (ahd r x) (fun o => gB k b (x, o)) = if b.1 ∈ ahd r x then tk k x b.1 else 0 := by
  show sumF (ahd r x) (fun o => if o = b.1 then tk k x b.1 else 0) = _
  exact sumF_one (ahd_nd nd)
theorem goneS_dial {k : KT0} (h : Kit k) {b : Str × Int} (hb : b ∈ k.1) : ∀ {rs : List Str} {s : SS}, OkS k s → (∀ x ∈ rs, x ∈ cs k) → (goneS k s rs).2 b = (s.2 b + tot (gB k b) s.1 rs) % b.2
  | [], s, o, _ => by
    have := o.d b hb
    show s.2 b = (s.2 b + 0) % b.2
    rw [Int.add_zero, Int.emod_eq_of_lt this.1 this.2]
  | x :: rs, s, o, m => by
    have hx := m x List.mem_cons_self
    have nd := row_nd h o.p
    have := goneS_dial h hb (rs := rs) (s := ringS k s x) (o.ring h hx) fun y hy => m y (List.mem_cons_of_mem _ hy)
    show (goneS k (ringS k s x) rs).2 b = _
    rw [this]
    show ((s.2 b + if b.1 ∈ ahd s.1 x then tk k x b.1 else 0) % b.2 + tot (gB k b) (x :: s.1.erase x) rs) % b.2 = _
    rw [tot_cons, ring_gB nd, Int.emod_add_emod, Int.add_assoc]
end
end K14

end

section
set_option maxHeartbeats 2000000
namespace K14
open PySem L2 Kx Mx
/-! ### passes: dicts by pairs, as sums -/
abbrev PD := List ((Str × Str) × Int)
def dS (g : Str × Str → Int) (xs : PD) : Int := sumF xs fun e => e.2 * g e.1
def ind (p q : Str × Str) : Int := if q = p then 1 else 0
theorem ind_range (p : Str × Str) : ∀ q, 0 ≤ ind p q ∧ ind p q ≤ 1 := fun q => by unfold ind; split <;> omega
structure DK (k : KT0) (xs : PD) : Prop where
  nd : (xs.map (·.1)).Nodup
  m : ∀ e ∈ xs, e.1.1 ∈ cs k ∧ e.1.2 ∈ cs k
theorem sub_len {α : Type} [DecidableEq α] : ∀ {xs ys : List α}, xs.Nodup → (∀ x ∈ xs, x ∈ ys) → xs.length ≤ ys.length
  | [], _, _, _ => by simp
  | x :: xs, ys, nd, h => by
    obtain ⟨n1, n2⟩ := List.nodup_cons.mp nd
    have hx := h x List.mem_cons_self
    have := sub_len (xs := xs) (ys := ys.erase x) n2 fun y hy => by
      have e : y ≠ x := fun e => n1 (e ▸ hy)
      exact (List.mem_erase_of_ne e).mpr (h y (List.mem_cons_of_mem _ hy))
    rw [List.length_erase_of_mem hx] at this
    have : 0 < ys.length := List.length_pos_of_mem hx
    rw [List.length_cons]
    omega
def pairsOf (l : List Str) : List (Str × Str) := l.flatMap fun a => l.map fun b => (a, b)
theorem pairsOf_mem {l : List Str} {a b : Str} (ha : a ∈ l) (hb : b ∈ l) : (a, b) ∈ pairsOf l := List.mem_flatMap.mpr ⟨a, ha, List.mem_map.mpr ⟨b, hb, rfl⟩⟩
theorem flat_len {α β : Type} {f : α → List β} {n : Nat} (h : ∀ a, (f a).length = n) : ∀ l : List α, (l.flatMap f).length = n * l.length
  | [] => by simp
  | a :: l => by rw [List.flatMap_cons, List.length_append, h, flat_len h l, List.length_cons, Nat.mul_add]; omega
theorem DK.len {k : KT0} {xs : PD} (h : Kit k) (d : DK k xs) : xs.length ≤ 64 := by
  have := sub_len (xs := xs.map (·.1)) (ys := pairsOf (cs k)) d.nd fun p hp => by
    obtain ⟨e, he, rfl⟩ := List.mem_map.mp hp
    exact pairsOf_mem (d.m e he).1 (d.m e he).2
  rw [List.length_map] at this
  unfold pairsOf at this
  rw [flat_len (n := (cs k).length) fun a => List.length_map _] at this
  have hc : (cs k).length = k.1.length := by unfold cs; rw [List.length_map]
  have hl := h.l2
  have : (cs k).length * (cs k).length ≤ 8 * 8 := Nat.mul_le_mul (by omega) (by omega)
  omega
section
variable {g : Str × Str → Int} {xs : PD} {p : Str × Str} {v : Int}
theorem dS_nil : dS g [] = 0 := rfl
theorem dS_cons {e : (Str × Str) × Int} : dS g (e :: xs) = e.2 * g e.1 + dS g xs := sumF_cons
theorem dS_app {ys : PD} : dS g (xs ++ ys) = dS g xs + dS g ys := sumF_app
theorem getD_nil {z : Int} : getD' ([] : PD) p z = z := rfl
theorem getD_pos {e : (Str × Str) × Int} {z : Int} (h : e.1 = p) : getD' (e :: xs) p z = e.2 := by unfold getD'; rw [getA_pos h]; rfl
theorem getD_neg {e : (Str × Str) × Int} {z : Int} (h : e.1 ≠ p) : getD' (e :: xs) p z = getD' xs p z := by unfold getD'; rw [getA_neg h]
theorem getD_no : ∀ {xs : PD}, p ∉ xs.map (·.1) → getD' xs p 0 = 0
  | [], _ => rfl
  | e :: xs, h => by
    have h1 : e.1 ≠ p := fun z => h (by rw [List.map_cons, z]; exact List.mem_cons_self)
    rw [getD_neg h1]
    exact getD_no fun z => h (by rw [List.map_cons]; exact List.mem_cons_of_mem _ z)
theorem map_no {w : Int} : ∀ {xs : PD}, p ∉ xs.map (·.1) → xs.map (fun x => if x.1 = p then (x.1, w) else x) = xs
  | [], _ => rfl
  | e :: xs, h => by
    have h1 : e.1 ≠ p := fun z => h (by rw [List.map_cons, z]; exact List.mem_cons_self)
    rw [List.map_cons, if_neg h1, map_no fun z => h (by rw [List.map_cons]; exact List.mem_cons_of_mem _ z)]
theorem dS_map {w : Int} : ∀ {xs : PD}, (xs.map (·.1)).Nodup → p ∈ xs.map (·.1) → dS g (xs.map fun x => if x.1 = p then (x.1, w) else x) = dS g xs + (w - getD' xs p 0) * g p
  | [], _, h => nomatch h
  | e :: xs, nd, h => by
    rw [List.map_cons] at nd h
    obtain ⟨n1, n2⟩ := List.nodup_cons.mp nd
    by_cases q : e.1 = p
    · subst q
      rw [List.map_cons, if_pos rfl, dS_cons, dS_cons, map_no n1, getD_pos rfl, Int.sub_mul]
      dsimp only
      omega
    · rw [List.map_cons, if_neg q, dS_cons, dS_cons, getD_neg q, dS_map n2 ((List.mem_cons.mp h).resolve_left fun z => q z.symm)]
      omega
theorem put_keys {w : Int} : (putA xs p w).map (·.1) = if p ∈ xs.map (·.1) then xs.map (·.1) else xs.map (·.1) ++ [p] := by
  by_cases q : p ∈ xs.map (·.1)
  · have : (xs.any fun x => decide (x.1 = p)) = true := by
      obtain ⟨x, hx, e⟩ := List.mem_map.mp q
      exact List.any_eq_true.mpr ⟨x, hx, decide_eq_true e⟩
    unfold putA
    rw [if_pos this, if_pos q, List.map_map]
    apply List.map_congr_left
    intro a _
    show (if a.1 = p then (a.1, w) else a).1 = a.1
    split <;> rfl
  · rw [putA_new q, if_neg q, List.map_append]
    rfl
theorem dS_put (nd : (xs.map (·.1)).Nodup) : dS g (putA xs p (getD' xs p 0 + v)) = dS g xs + v * g p := by
  by_cases q : p ∈ xs.map (·.1)
  · have : (xs.any fun x => decide (x.1 = p)) = true := by
      obtain ⟨x, hx, e⟩ := List.mem_map.mp q
      exact List.any_eq_true.mpr ⟨x, hx, decide_eq_true e⟩
    unfold putA
    rw [if_pos this, dS_map nd q]
    congr 2
    omega
  · rw [putA_new q, getD_no q, dS_app, dS_cons, dS_nil]
    dsimp only
    rw [Int.zero_add, Int.add_zero]
theorem DK.put {k : KT0} {w : Int} (d : DK k xs) (h1 : p.1 ∈ cs k) (h2 : p.2 ∈ cs k) : DK k (putA xs p w) := by
  refine ⟨?_, fun e he => ?_⟩
  · rw [put_keys]
    by_cases q : p ∈ xs.map (·.1)
    · rw [if_pos q]; exact d.nd
    · rw [if_neg q]
      exact List.nodup_append.mpr ⟨d.nd, by simp, fun a ha b hb => by rw [List.mem_singleton.mp hb]; exact fun z => q (z ▸ ha)⟩
  · have : e.1 ∈ (putA xs p w).map (·.1) := List.mem_map.mpr ⟨e, he, rfl⟩
    rw [put_keys] at this
    have z : e.1 ∈ xs.map (·.1) ∨ e.1 = p := by
      by_cases q : p ∈ xs.map (·.1)
      · rw [if_pos q] at this; exact .inl this
      · rw [if_neg q] at this
        rcases List.mem_append.mp this with z | z
        · exact .inl z
        · exact .inr (List.mem_singleton.mp z)
    rcases z with z | z
    · obtain ⟨e', he', z⟩ := List.mem_map.mp z
      rw [← z]
      exact d.m e' he'
    · rw [z]; exact ⟨h1, h2⟩
/-- each entry's number, as a sum -/
theorem dS_ind : ∀ {xs : PD}, (xs.map (·.1)).Nodup → dS (ind p) xs = getD' xs p 0
  | [], _ => rfl
  | e :: xs, nd => by
    rw [List.map_cons] at nd
    obtain ⟨n1, n2⟩ := List.nodup_cons.mp nd
    rw [dS_cons, dS_ind n2]
    unfold ind
    by_cases q : e.1 = p
    · subst q
      rw [if_pos rfl, getD_pos rfl, getD_no n1, Int.mul_one, Int.add_zero]
    · rw [if_neg q, getD_neg q, Int.mul_zero, Int.zero_add]
theorem getD_mem {e : (Str × Str) × Int} : ∀ {xs : PD}, (xs.map (·.1)).Nodup → e ∈ xs → getD' xs e.1 0 = e.2
  | [], _, h => nomatch h
  | a :: xs, nd, h => by
    rw [List.map_cons] at nd
    obtain ⟨n1, n2⟩ := List.nodup_cons.mp nd
    rcases List.mem_cons.mp h with rfl | h
    · exact getD_pos rfl
    · rw [getD_neg fun z => n1 (z ▸ List.mem_map.mpr ⟨e, h, rfl⟩), getD_mem n2 h]
end
theorem bits_le {i : Int} {n : Nat} (h : i.natAbs < 2 ^ n) : Builtin.Int.intBits i ≤ n + 1 := by
  have b : Builtin.Int.intBits i ≤ i.natAbs.log2 + 1 := by
    unfold Builtin.Int.intBits
    split <;> omega
  have : i.natAbs.log2 ≤ n := by
    by_cases z : i.natAbs = 0
    · rw [z]; simp
    · have := (Nat.log2_lt z).mpr h
      omega
  omega
theorem wide_mul {i j : Int} (hi : i.natAbs < 2 ^ 2000) (hj : j.natAbs < 2 ^ 2000) : CMulO i j := by
  refine .inr ?_
  unfold CMulX
  have a := bits_le hi
  have b := bits_le hj
  omega
end K14

end

section
set_option maxHeartbeats 2000000
namespace K14
open PySem L2 Kx Mx
/-! ### passes put to others; courses -/
section
variable {k : KT0} {xs ys : PD} {t : Int}
/-- a dict of passes is that of these rings from this row -/
structure PO (k : KT0) (r rs : List Str) (xs : PD) : Prop where
  d : DK k xs
  s : ∀ g, dS g xs = tot g r rs
theorem PO.val {r rs : List Str} (p : PO k r rs xs) (hr : ∀ x ∈ rs, x ∈ r) (hl : r.length ≤ 8) {e : (Str × Str) × Int} (he : e ∈ xs) : 0 ≤ e.2 ∧ e.2 ≤ 8 * rs.length := by
  rw [← getD_mem p.d.nd he, ← dS_ind p.d.nd, p.s]
  exact tot_range (ind_range e.1) hr hl
theorem PO.nil {r : List Str} : PO k r [] [] := ⟨⟨by simp, fun e he => nomatch he⟩, fun g => rfl⟩
/-- courses: how deep, the rings, how many parts -/
inductive Crs (k : KT0) : Nat → List Dat → List Str → Nat → Prop
  | nil {n : Nat} : Crs k n [] [] 0
  | nm {n p : Nat} {ds : List Dat} {rs : List Str} {x : Str} (hx : x ∈ cs k) (h : Crs k n ds rs p) : Crs k n (.str x :: ds) (x :: rs) (1 + p)
  | rp {n p q t : Nat} {ds es : List Dat} {rs qs : List Str} (h1 : Crs k n es qs q) (ht : 1 ≤ t) (ht2 : t ≤ 10 ^ 30) (h : Crs k (n + 1) ds rs p) : Crs k (n + 1) (.tuple [.tuple es, .int (t : Int)] :: ds) ((List.replicate t qs).flatten ++ rs) (1 + q + p)
theorem Crs.mem {n p : Nat} {ds : List Dat} {rs : List Str} (h : Crs k n ds rs p) : ∀ x ∈ rs, x ∈ cs k := by
  induction h with
  | nil => intro x hx; cases hx
  | nm hx _ ih =>
    intro x h
    rcases List.mem_cons.mp h with rfl | h
    · exact hx
    · exact ih x h
  | rp _ _ _ _ ih1 ih2 =>
    intro x h
    rcases List.mem_append.mp h with h | h
    · obtain ⟨l, hl, hy⟩ := List.mem_flatten.mp h
      rw [(List.mem_replicate.mp hl).2] at hy
      exact ih1 x hy
    · exact ih2 x h
theorem rep_len {α : Type} {l : List α} {t : Nat} : (List.replicate t l).flatten.length = t * l.length := PyProof.Rows.lm_len_rep_flat _ _
theorem Crs.len {n p : Nat} {ds : List Dat} {rs : List Str} (h : Crs k n ds rs p) : rs.length ≤ p * 2 ^ (100 * n) := by
  induction h with
  | nil => simp
  | @nm n p ds rs x hx _ ih =>
    rw [List.length_cons, Nat.add_mul]
    have : 1 ≤ 2 ^ (100 * n) := Nat.one_le_two_pow
    omega
  | @rp n p q t ds es rs qs _ ht ht2 _ ih1 ih2 =>
    rw [List.length_append, rep_len, Nat.add_mul, Nat.add_mul]
    have e : 2 ^ (100 * (n + 1)) = 2 ^ 100 * 2 ^ (100 * n) := by rw [← Nat.pow_add]; congr 1; omega
    have a : t * qs.length ≤ 2 ^ 100 * (q * 2 ^ (100 * n)) := Nat.mul_le_mul (Nat.le_trans ht2 (by decide)) ih1
    have b : q * 2 ^ (100 * (n + 1)) = 2 ^ 100 * (q * 2 ^ (100 * n)) := by
      rw [e, Nat.mul_left_comm]
    omega
theorem Crs.mono {n m p : Nat} {ds : List Dat} {rs : List Str} (h : Crs k n ds rs p) (hm : n ≤ m) : Crs k m ds rs p := by
  induction h generalizing m with
  | nil => exact .nil
  | nm hx _ ih => exact .nm hx (ih hm)
  | rp _ ht ht2 _ ih1 ih2 =>
    obtain ⟨m, rfl⟩ : ∃ j, m = j + 1 := ⟨m - 1, by omega⟩
    exact .rp (ih1 (by omega)) ht ht2 (ih2 hm)
theorem Crs.app {n p q : Nat} {ds es : List Dat} {rs qs : List Str} (h : Crs k n ds rs p) (h2 : Crs k n es qs q) : Crs k n (ds ++ es) (rs ++ qs) (p + q) := by
  induction h with
  | nil => simpa using h2
  | nm hx _ ih => rw [Nat.add_assoc]; exact .nm hx (ih h2)
  | rp h1 ht ht2 _ _ ih2 => rw [Nat.add_assoc, List.append_assoc]; exact .rp h1 ht ht2 (ih2 h2)
theorem isO_str {x : Str} : isO isS (.str x) = some true := rfl
theorem isO_str_t {ds : List Dat} : isO isS (.tuple ds) = some false := rfl
theorem isO_tup {ds : List Dat} : isO isT (.tuple ds) = some true := rfl
end
end K14

end

section
set_option maxHeartbeats 2000000
namespace K14
open PySem L2 Kx Mx
/-! ### drawn courses, and their rings one by one -/
def pB (w : Nat) : Nat → Nat
  | 0 => 0
  | d + 1 => w * (1 + pB w d)
def lB (w o : Nat) : Nat → Nat
  | 0 => 1
  | d + 1 => w * (o * lB w o d)
section
variable {k : KT0} {s : SS}
theorem tune_spec (h : Kit k) {w o : Nat} (hw1 : 1 ≤ w) (hw : w ≤ 1000) (ho : 1 ≤ o) (ho2 : o ≤ 10 ^ 30) : ∀ {d n : Nat} (z : Sto), d < n → Wp (m__law_tune n (k, ((d + 1 : Nat) : Int), (w : Int), (o : Int)) z) fun r => ∃ rs p, Crs k d r.1 rs p ∧ p ≤ pB w (d + 1) ∧ rs.length ≤ lB w o (d + 1)
  | _, 0, _, hd => absurd hd (Nat.not_lt_zero _)
  | d, n + 1, z, hd => by
    unfold m__law_tune
    dsimp only
    have hk1 := h.l1
    have hk2 := h.l2
    refine wp_bind (pull_nat z (by omega) (by omega)) fun t1 ⟨j, e1, hj⟩ => ?_
    rw [e1]
    refine wp_bind (wp_rngN (P := fun t => t = irange 0 (j : Int)) (by omega) rfl) fun t2 e2 => ?_
    subst e2
    have hL : 1 ≤ o * lB w o d := by
      have : ∀ d, 1 ≤ lB w o d := fun d => by
        induction d with
        | zero => exact Nat.le_refl _
        | succ d ih => exact Nat.mul_pos hw1 (Nat.mul_pos ho ih)
      exact Nat.mul_pos ho (this d)
    refine wp_bind (wp_forO (P := fun st : List Dat × Sto => ∃ rs p, Crs k d st.1 rs p ∧ p ≤ j * (1 + pB w d) ∧ rs.length ≤ j * (o * lB w o d)) (fun i st => st.1.length = i ∧ ∃ rs p, Crs k d st.1 rs p ∧ p ≤ i * (1 + pB w d) ∧ rs.length ≤ i * (o * lB w o d)) ⟨rfl, [], 0, .nil, by simp, by simp⟩ (fun i x st hx ⟨hl, rs, p, c, hp, hr⟩ => ?_) fun st hst => by rw [irange_nat_len] at hst; exact hst.2) fun fin ⟨rs, p, c, hp, hr⟩ => wp_some ⟨rs, p, c, ?_, ?_⟩
    · have hij := (irange_at hx).1
      refine wp_bind (P := fun t => t.1 = true → 1 ≤ d) (wp_cond (fun e => ?_) fun _ => wp_some (fun e => by cases e)) fun t11 h11 => ?_
      · refine wp_bind (pull_spec _ (by decide) (by decide)) fun t _ => wp_some fun _ => ?_
        have := of_decide_eq_true e
        omega
      · refine wp_cond (fun e => ?_) fun _ => ?_
        · obtain ⟨d', rfl⟩ : ∃ d', d = d' + 1 := ⟨d - 1, by have := h11 e; omega⟩
          rw [show (((d' + 1 + 1 : Nat) : Int) - 1) = ((d' + 1 : Nat) : Int) by omega]
          refine wp_bind (tune_spec h hw1 hw ho ho2 (d := d') (n := n) t11.2 (by omega)) fun t12 ⟨qs, q, c1, hq, hqs⟩ => ?_
          refine wp_bind (pull_nat _ (by omega) (by omega)) fun t13 ⟨m, e13, hm⟩ => ?_
          rw [e13]
          have et : (1 : Int) + (m : Int) = ((1 + m : Nat) : Int) := by omega
          rw [et]
          refine wp_bind (wp_appO (P := fun r => r = st.1 ++ [.tuple [.tuple t12.1, .int ((1 + m : Nat) : Int)]]) (by omega) (by rw [show (eP2 (eT id) Dat.int) (t12.1, ((1 + m : Nat) : Int)) = .tuple [.tuple (t12.1.map id), .int ((1 + m : Nat) : Int)] from rfl, List.map_id])) fun t14 e14 => ?_
          subst e14
          have c2 : Crs k (d' + 1) [.tuple [.tuple t12.1, .int ((1 + m : Nat) : Int)]] ((List.replicate (1 + m) qs).flatten ++ []) (1 + q + 0) := .rp c1 (by omega) (by omega) .nil
          refine wp_some ⟨by simp; omega, _, _, c.app c2, ?_, ?_⟩
          · rw [Nat.add_mul, Nat.one_mul]
            omega
          · rw [List.append_nil, List.length_append, rep_len, Nat.add_one_mul i]
            have : (1 + m) * qs.length ≤ o * lB w o (d' + 1) := Nat.mul_le_mul (by omega) hqs
            omega
        · refine wp_bind (pull_nat _ (by omega) (by omega)) fun t15 ⟨m, e15, hm⟩ => ?_
          rw [e15]
          refine wp_bind (wp_atI (P := fun b => b ∈ k.1) (by omega) (List.getElem_mem _)) fun b hb => ?_
          refine wp_bind (wp_appO (P := fun r => r = st.1 ++ [.str b.1]) (by omega) rfl) fun t17 e17 => ?_
          subst e17
          have c2 : Crs k d [.str b.1] [b.1] (1 + 0) := .nm (List.mem_map.mpr ⟨b, hb, rfl⟩) .nil
          refine wp_some ⟨by simp; omega, _, _, c.app c2, ?_, ?_⟩
          · rw [Nat.add_mul, Nat.one_mul]
            omega
          · rw [List.length_append, List.length_singleton, Nat.add_mul, Nat.one_mul]
            omega
    · exact Nat.le_trans hp (Nat.mul_le_mul (by omega) (Nat.le_refl _))
    · exact Nat.le_trans hr (Nat.mul_le_mul (by omega) (Nat.le_refl _))
theorem unroll_loop {F : List Str → Dat → Option (List Str)} {d p : Nat} {ds : List Dat} {rs : List Str} (c : Crs k d ds rs p)
    (h1 : ∀ st x, st.length < 16777216 → F st (.str x) = some (st ++ [x]))
    (h2 : ∀ st n es qs q (t : Nat), n + 1 ≤ d → Crs k n es qs q → 1 ≤ t → t ≤ 10 ^ 30 → st.length + t * qs.length ≤ 16777216 → F st (.tuple [.tuple es, .int (t : Int)]) = some (st ++ (List.replicate t qs).flatten)) :
    ∀ st, st.length + rs.length ≤ 16777216 → forO F ds st = some (st ++ rs) := by
  induction c with
  | nil => intro st _; show some st = _; rw [List.append_nil]
  | @nm n p ds rs x hx c ih =>
    intro st hl
    rw [List.length_cons] at hl
    show (F st (.str x)).bind _ = _
    rw [h1 st x (by omega)]
    show forO F ds (st ++ [x]) = _
    rw [ih h2 _ (by rw [List.length_append, List.length_singleton]; omega), List.append_assoc]
    rfl
  | @rp n p q t ds es rs qs c1 ht ht2 c ih1 ih2 =>
    intro st hl
    rw [List.length_append, rep_len] at hl
    show (F st _).bind _ = _
    rw [h2 st n es qs q t (Nat.le_refl _) c1 ht ht2 (by omega)]
    show forO F ds (st ++ _) = _
    rw [ih2 h2 _ (by rw [List.length_append, rep_len]; omega), List.append_assoc]
end
end K14

end

section
set_option maxHeartbeats 2000000
namespace K14
open PySem L2 Kx Mx
section
variable {α : Type}
theorem rep_add (a b : Nat) (l : List α) : (List.replicate (a + b) l).flatten = (List.replicate a l).flatten ++ (List.replicate b l).flatten := by
  rw [← List.replicate_append_replicate, List.flatten_append]
theorem rep_one (l : List α) : (List.replicate 1 l).flatten = l := by simp
theorem rep_nil (n : Nat) : (List.replicate n ([] : List α)).flatten = [] := List.eq_nil_of_length_eq_zero (by rw [rep_len]; rfl)
theorem cat_some {x y : List α} (h : x.length + y.length ≤ 16777216) : catO x y = some (x ++ y) := by
  unfold catO
  rw [grd_yes h]
  rfl
end
section
variable {k : KT0} {s : SS}
theorem Crs.one {n q t : Nat} {es : List Dat} {qs : List Str} (c : Crs k n es qs q) (h1 : 1 ≤ t) (h2 : t ≤ 10 ^ 30) : Crs k (n + 1) [.tuple [.tuple es, .int (t : Int)]] (List.replicate t qs).flatten (1 + q) := by
  have := Crs.rp c h1 h2 (.nil (k := k) (n := n + 1))
  rw [List.append_nil] at this
  exact this
theorem Crs.is {n p q : Nat} {ds : List Dat} {rs qs : List Str} (c : Crs k n ds rs p) (e : rs = qs) (e2 : p = q) : Crs k n ds qs q := e ▸ e2 ▸ c
theorem part_eq {es : List Dat} {i : Int} : (eP2 (eT id) Dat.int) (es, i) = .tuple [.tuple es, .int i] := by
  show Dat.tuple [.tuple (es.map id), .int i] = _
  rw [List.map_id]
theorem Crs.dlen {n p : Nat} {ds : List Dat} {rs : List Str} (c : Crs k n ds rs p) : ds.length ≤ p := by
  induction c with
  | nil => simp
  | nm _ _ ih => rw [List.length_cons]; omega
  | rp _ _ _ _ _ ih => rw [List.length_cons]; omega
/-- rings alone are a course -/
theorem Crs.names {n : Nat} : ∀ {rs : List Str}, (∀ x ∈ rs, x ∈ cs k) → Crs k n (rs.map Dat.str) rs rs.length
  | [], _ => .nil
  | x :: rs, h => by
    rw [List.length_cons, Nat.add_comm]
    exact .nm (h x List.mem_cons_self) (Crs.names fun y hy => h y (List.mem_cons_of_mem _ hy))
end
end K14

end

section
set_option maxHeartbeats 2000000
namespace K14
open PySem L2 Kx Mx
/-! ### things of any kind -/
inductive Adm : Dat → Prop
  | non : Adm .none
  | bl (b : Bool) : Adm (.bool b)
  | int (i : Int) : Adm (.int i)
  | str {z : Str} (h : z.length ≤ 1000) : Adm (.str z)
  | lst (xs : List Dat) : Adm (.list xs)
  | tup {xs : List Dat} (h : ∀ x ∈ xs, Adm x) (hl : xs.length ≤ 1000) : Adm (.tuple xs)
  | dK (ks : List Key) (xs : List Dat) : Adm (.dK ks xs)
  | ins (ns : List Str) (xs : List Dat) : Adm (.ins "Peal" ns xs)
theorem Adm.is {d : Dat} (h : Adm d) (f : Dat → Bool) : isO1 "Peal" f d = some (f d) := by
  cases h with
  | ins ns xs =>
    show cond (decide (("Peal" : Str) = "Peal")) (some (f (.ins "Peal" ns xs))) none = _
    rw [decide_eq_true rfl]
    rfl
  | _ => rfl
theorem Adm.one {d : Dat} (h : Adm d) : Adm (.tuple [d]) := .tup (fun x hx => by rw [List.mem_singleton.mp hx]; exact h) (by simp)
theorem Adm.two {d e : Dat} (h : Adm d) (g : Adm e) : Adm (.tuple [d, e]) := .tup (fun x hx => by
  simp only [List.mem_cons, List.not_mem_nil, or_false] at hx
  rcases hx with rfl | rfl
  · exact h
  · exact g) (by simp)
theorem Adm.three {d e f : Dat} (h : Adm d) (g : Adm e) (i : Adm f) : Adm (.tuple [d, e, f]) := .tup (fun x hx => by
  simp only [List.mem_cons, List.not_mem_nil, or_false] at hx
  rcases hx with rfl | rfl | rfl
  · exact h
  · exact g
  · exact i) (by simp)
theorem Adm.row {r : List Str} (h : ∀ x ∈ r, x.length ≤ 1000) (hl : r.length ≤ 1000) : Adm (.tuple (r.map Dat.str)) := .tup (fun x hx => by
  obtain ⟨y, hy, rfl⟩ := List.mem_map.mp hx
  exact .str (h y hy)) (by rw [List.length_map]; exact hl)
theorem Adm.nums {r : List Int} (hl : r.length ≤ 1000) : Adm (.tuple (r.map Dat.int)) := .tup (fun x hx => by
  obtain ⟨y, hy, rfl⟩ := List.mem_map.mp hx
  exact .int y) (by rw [List.length_map]; exact hl)
def whB : Dat → Bool
  | .int _ => true
  | _ => false
theorem whole2 {d : Dat} (h : Adm d) : m_is_whole_2 d = some (whB d) := by
  unfold m_is_whole_2
  rw [h.is]
  cases h <;> rfl
def wiB (lo hi : Int) : Dat → Bool
  | .int i => decide (lo ≤ i) && decide (i ≤ hi)
  | _ => false
theorem within2 {d : Dat} {lo hi : Int} (h : Adm d) : m_is_within_2 (d, lo, hi) = some (wiB lo hi d) := by
  unfold m_is_within_2
  dsimp only
  rw [whole2 h]
  cases h <;> rfl
theorem name_len {z : Str} (h : NameOk z) : z.length ≤ 6 := by rw [str_len]; exact h.l2
theorem name2 {d : Dat} (h : Adm d) : Wp (m_is_name_2 d) fun b => (b = true → ∃ z, d = .str z) ∧ ∀ z, d = .str z → NameOk z → b = true := by
  unfold m_is_name_2
  rw [h.is, Option.bind_some]
  by_cases e : ∃ z, d = .str z
  · obtain ⟨z, rfl⟩ := e
    have hz : z.length ≤ 1000 := by cases h with | str h => exact h
    have el : lenS z = some (z.length : Int) := by unfold lenS; rw [grd_yes (by omega)]; rfl
    rw [show isS (.str z) = true from rfl, show strD (.str z) = some z from rfl]
    simp only [Bool.not_true, cond_false, Option.bind_some, el]
    refine wp_cond (fun e => wp_some ⟨fun z => (by cases z), fun w hw no => ?_⟩) fun e => ?_
    · cases hw
      have h1 := no.l1
      have h2 := name_len no
      rw [← str_len] at h1
      simp at e
      omega
    · have hs : (signs z).length = z.length := by unfold signs; rw [List.length_map, str_len]
      refine wp_bind (P := fun t : List Bool => NameOk z → t.all id = true) (wp_lcO (fun x y => NameOk z → y = true) (by rw [hs]; omega) (fun x hx => ?_) ?_) fun t13 h13 => wp_some ⟨fun _ => ⟨z, rfl⟩, fun w hw no => by cases hw; exact h13 no⟩
      · unfold signs at hx
        obtain ⟨c, hc, rfl⟩ := List.mem_map.mp hx
        refine wp_bind (P := fun t => NameOk z → t = true) (wp_some fun no => ?_) fun t9 e => wp_some e
        have hb := no.b c hc
        rw [letters]
        refine decide_eq_true (List.mem_range'.mpr ⟨c - 97, by omega, by omega⟩)
      · intro ys hl h no
        rw [List.all_eq_true]
        intro y hy
        obtain ⟨i, hi⟩ := List.mem_iff_getElem?.mp hy
        have hil := (List.getElem?_eq_some_iff.mp hi).1
        have := h i _ y (List.getElem?_eq_getElem (by omega)) hi no
        rw [this]; rfl
  · have ef : isS d = false := by cases h <;> first | rfl | exact absurd ⟨_, rfl⟩ e
    rw [ef]
    exact wp_some ⟨fun z => (by cases z), fun z hz => absurd ⟨z, hz⟩ e⟩
theorem upper_ok {z : Str} (h : NameOk z) : ∃ y, upperO z = some y ∧ y.length ≤ 6 := by
  have hA : ∀ c ∈ z.cps.toList, c < 128 := fun c hc => by have := h.b c hc; omega
  have e := PyProof.Rows.upper_ascii hA
  have hl : (Txt.upper z).length ≤ 6 := by
    rw [e, str_len]
    have := h.l2
    simpa using this
  refine ⟨Txt.upper z, ?_, hl⟩
  unfold upperO
  have hs : sok (Txt.upper z) = true := by
    rw [e, sok_iff]
    intro c hc
    simp only [Array.toList_map, List.mem_map] at hc
    obtain ⟨a, ha, rfl⟩ := hc
    have := h.b a ha
    unfold PyProof.Rows.up1
    split <;> omega
  rw [grd_yes ⟨by have := name_len h; omega, hs⟩]
  rfl
theorem cat_ok {α : Type} {x y : List α} (h : x.length + y.length ≤ 16777216) : catO x y = some (x ++ y) := by
  unfold catO
  rw [grd_yes h]
  rfl
theorem orI {S R T : Type} {s : S} {f : S → Option T} {g : R → Option T} : orR (.inl s) f g = f s := rfl
theorem orJ {S R T : Type} {v : R} {f : S → Option T} {g : R → Option T} : orR (.inr v) f g = g v := rfl
theorem wi_int {lo hi v : Int} : wiB lo hi (.int v) = (decide (lo ≤ v) && decide (v ≤ hi)) := rfl
theorem rep4 (a b c d : Bool) : ∃ t, reprO (toPy (Dat.list [.bool a, .bool b, .bool c, .bool d])) = some t := by
  cases a <;> cases b <;> cases c <;> cases d <;> exact Option.isSome_iff_exists.mp (by decide +kernel)
theorem rep2 (a b : Bool) : ∃ t, reprO (toPy (Dat.list [.bool a, .bool b])) = some t := by
  cases a <;> cases b <;> exact Option.isSome_iff_exists.mp (by decide +kernel)
end K14

end

section
set_option maxHeartbeats 2000000
namespace K14
open PySem L2 Kx Mx
/-- things of any kind, their tuples of at most B parts -/
inductive AdmB (B : Nat) : Dat → Prop
  | non : AdmB B .none
  | bl (b : Bool) : AdmB B (.bool b)
  | int (i : Int) : AdmB B (.int i)
  | str (z : Str) : AdmB B (.str z)
  | lst (xs : List Dat) : AdmB B (.list xs)
  | tup {xs : List Dat} (h : ∀ x ∈ xs, AdmB B x) (hl : xs.length ≤ B) : AdmB B (.tuple xs)
  | dK (ks : List Key) (xs : List Dat) : AdmB B (.dK ks xs)
  | ins (ns : List Str) (xs : List Dat) : AdmB B (.ins "Peal" ns xs)
section
variable {k : KT0} {d e f : Dat} {B C : Nat}
theorem AdmB.is (h : AdmB B d) (f : Dat → Bool) : isO1 "Peal" f d = some (f d) := by
  cases h with
  | ins ns xs =>
    show cond (decide (("Peal" : Str) = "Peal")) (some (f (.ins "Peal" ns xs))) none = _
    rw [decide_eq_true rfl]
    rfl
  | _ => rfl
theorem AdmB.up (hB : B ≤ C) (h : AdmB B d) : AdmB C d := by
  induction h with
  | non => exact .non
  | bl b => exact .bl b
  | int i => exact .int i
  | str z => exact .str z
  | lst xs => exact .lst xs
  | tup _ hl ih => exact .tup ih (by omega)
  | dK a b => exact .dK a b
  | ins a b => exact .ins a b
theorem AdmB.one (hB : 3 ≤ B) (h : AdmB B d) : AdmB B (.tuple [d]) := .tup (fun x hx => by rw [List.mem_singleton.mp hx]; exact h) (by simp; omega)
theorem AdmB.two (hB : 3 ≤ B) (h : AdmB B d) (g : AdmB B e) : AdmB B (.tuple [d, e]) := .tup (fun x hx => by
  simp only [List.mem_cons, List.not_mem_nil, or_false] at hx
  rcases hx with rfl | rfl
  · exact h
  · exact g) (by simp; omega)
theorem AdmB.three (hB : 3 ≤ B) (h : AdmB B d) (g : AdmB B e) (i : AdmB B f) : AdmB B (.tuple [d, e, f]) := .tup (fun x hx => by
  simp only [List.mem_cons, List.not_mem_nil, or_false] at hx
  rcases hx with rfl | rfl | rfl
  · exact h
  · exact g
  · exact i) (by simp; omega)
theorem AdmB.nil : AdmB B (.tuple []) := .tup (fun x hx => by cases hx) (by simp)
theorem AdmB.row {r : List Str} (hl : r.length ≤ B) : AdmB B (.tuple (r.map Dat.str)) := .tup (fun x hx => by
  obtain ⟨y, hy, rfl⟩ := List.mem_map.mp hx
  exact .str _) (by rw [List.length_map]; exact hl)
theorem AdmB.parts {xs : List Dat} (h : AdmB B (.tuple xs)) : (∀ x ∈ xs, AdmB B x) ∧ xs.length ≤ B := by
  cases h with
  | tup h hl => exact ⟨h, hl⟩
theorem eT_id {xs : List Dat} : eT id xs = .tuple xs := by
  show Dat.tuple (xs.map id) = _
  rw [List.map_id]
theorem eP_id {a b : Dat} : (eP2 id id) (a, b) = .tuple [a, b] := rfl
theorem whole3 (h : AdmB B d) : m_is_whole_2 d = some (whB d) := by
  unfold m_is_whole_2
  rw [h.is]
  cases h <;> rfl
theorem within3 {lo hi : Int} (h : AdmB B d) : m_is_within_2 (d, lo, hi) = some (wiB lo hi d) := by
  unfold m_is_within_2
  dsimp only
  rw [whole3 h]
  cases h <;> rfl
theorem pow30 : powO (10 : Int) (30 : Int) = some 1000000000000000000000000000000 := by
  obtain ⟨r, e1, e2⟩ := wp_powO (i := 10) (j := 30) (P := fun x => x = 1000000000000000000000000000000) (by decide) (by decide)
  rw [e1, e2]
theorem times3 (h : AdmB B d) : m__law_is_times d = some (wiB 1 1000000000000000000000000000000 d) := by
  unfold m__law_is_times
  rw [h.is, pow30]
  cases h <;> rfl
theorem hasA_cs {z : Str} : hasA k.1 z = memB z (cs k) := by
  unfold memB
  by_cases q : z ∈ cs k
  · obtain ⟨b, e⟩ := getA_mem (xs := k.1) q
    unfold hasA
    rw [e, decide_eq_true q]
    rfl
  · rw [decide_eq_false q]
    unfold hasA getA
    rw [List.find?_eq_none.mpr fun x hx => ?_]
    · rfl
    · simp
      intro e
      exact q (e ▸ List.mem_map.mpr ⟨x, hx, rfl⟩)
/-- a part, looked at by the program and by the law -/
def StepOk (k : KT0) (M : Nat) (F : Int → Dat → Option (Int ⊕ Option Int)) (F' : Int → Dat → Option (Int ⊕ Int)) (x : Dat) : Prop :=
  ∀ m : Int, 0 ≤ m → (F m x = some (.inr none) ∧ F' m x = some (.inr (0 - 1))) ∨ ∃ c : Nat, (∀ ds rs p, Crs k M ds rs p → ∃ rs', Crs k M (x :: ds) rs' (c + p)) ∧ F m x = some (.inl (m + (c : Int))) ∧ F' m x = some (.inl (m + (c : Int)))
theorem parts_lock {M : Nat} {F : Int → Dat → Option (Int ⊕ Option Int)} {F' : Int → Dat → Option (Int ⊕ Int)} : ∀ {ys : List Dat}, (∀ x ∈ ys, StepOk k M F F' x) → ∀ m : Int, 0 ≤ m → (forR F ys m = some (.inr none) ∧ forR F' ys m = some (.inr (0 - 1))) ∨ ∃ rs p, Crs k M ys rs p ∧ forR F ys m = some (.inl (m + (p : Int))) ∧ forR F' ys m = some (.inl (m + (p : Int)))
  | [], _, m, _ => .inr ⟨[], 0, .nil, by show some _ = _; simp, by show some _ = _; simp⟩
  | y :: ys, h, m, hm => by
    rcases h y List.mem_cons_self m hm with ⟨e1, e2⟩ | ⟨c, hc, e1, e2⟩
    · refine .inl ⟨?_, ?_⟩
      · show (F m y).bind _ = _
        rw [e1]; rfl
      · show (F' m y).bind _ = _
        rw [e2]; rfl
    · have f1 : forR F (y :: ys) m = forR F ys (m + (c : Int)) := by
        show (F m y).bind _ = _
        rw [e1]; rfl
      have f2 : forR F' (y :: ys) m = forR F' ys (m + (c : Int)) := by
        show (F' m y).bind _ = _
        rw [e2]; rfl
      rw [f1, f2]
      rcases parts_lock (fun x hx => h x (List.mem_cons_of_mem _ hx)) (m + (c : Int)) (by omega) with q | ⟨rs, p, cr, g1, g2⟩
      · exact .inl q
      · obtain ⟨rs', cr'⟩ := hc ys rs p cr
        refine .inr ⟨rs', c + p, cr', ?_, ?_⟩
        · rw [g1]; congr 2; omega
        · rw [g2]; congr 2; omega
/-- what both tell of a thing -/
def PartsOk (k : KT0) (d : Dat) (w : Int) (o : Option Int) (i : Int) : Prop := (o = none ∧ i = 0 - 1) ∨ ∃ (M : Nat) (ds : List Dat) (rs : List Str) (p : Nat), w + M = 5 ∧ d = .tuple ds ∧ Crs k M ds rs p ∧ o = some (p : Int) ∧ i = (p : Int)
theorem lc_names (h : Kit k) : lcO (fun x2 : Str × Int => some x2.1) k.1 = some (cs k) := names_lc h
theorem isT_tup (h : AdmB B d) (e : isT d = true) : ∃ xs, d = .tuple xs := by
  cases h with
  | tup _ _ => exact ⟨_, rfl⟩
  | _ => cases e
theorem isS_str (h : AdmB B d) (e : isS d = true) : ∃ z, d = .str z := by
  cases h with
  | str z => exact ⟨_, rfl⟩
  | _ => cases e
theorem parts_end {M : Nat} {F : Int → Dat → Option (Int ⊕ Option Int)} {F' : Int → Dat → Option (Int ⊕ Int)} {xs : List Dat} {w : Int} (hl : ∀ x ∈ xs, StepOk k M F F' x) (hw : w + M = 5) :
    ∃ o i, ((forR F xs 0).bind fun fin3 => orR fin3 (fun fin3s => some (some fin3s)) (fun r => some r)) = some o ∧ ((forR F' xs 0).bind fun fin10 => orR fin10 (fun fin10s => some fin10s) (fun r => some r)) = some i ∧ PartsOk k (.tuple xs) w o i := by
  rcases parts_lock hl 0 (by omega) with ⟨e1, e2⟩ | ⟨rs, p, c, e1, e2⟩
  · exact ⟨none, 0 - 1, by rw [e1]; rfl, by rw [e2]; rfl, .inl ⟨rfl, rfl⟩⟩
  · rw [Int.zero_add] at e1 e2
    exact ⟨some (p : Int), (p : Int), by rw [e1]; rfl, by rw [e2]; rfl, .inr ⟨M, xs, rs, p, hw, rfl, c, rfl, rfl⟩⟩
theorem cond_none {j : Option Int} {x : Int ⊕ Option Int} {f : Int → Option (Int ⊕ Option Int)} (h : j = none) : cond j.isNone (some x) (j.bind f) = some x := by subst h; rfl
theorem parts_same (h : Kit k) : ∀ {n : Nat} {d : Dat} {w : Int}, AdmB B d → 1 ≤ w → w ≤ 6 → 7 ≤ (n : Int) + w → ∃ o i, m_parts_in n (pl k, d, w) = some o ∧ m__law_parts_in n (k, d, w) = some i ∧ PartsOk k d w o i
  | 0, d, w, hd, h1, h6, h7 => by
    exfalso
    omega
  | n + 1, d, w, hd, h1, h6, h7 => by
    unfold m_parts_in m__law_parts_in
    dsimp only
    rw [hd.is, Option.bind_some, Option.bind_some, lc_names h, Option.bind_some]
    cases et : isT d with
    | false =>
      refine ⟨none, 0 - 1, ?_, ?_, .inl ⟨rfl, rfl⟩⟩
      · simp only [Bool.not_false, Bool.true_or, cond_true]
      · simp only [Bool.not_false, Bool.true_or, cond_true]
    | true =>
      obtain ⟨xs, rfl⟩ := isT_tup hd et
      by_cases hw : 5 < w
      · rw [decide_eq_true hw]
        refine ⟨none, 0 - 1, ?_, ?_, .inl ⟨rfl, rfl⟩⟩
        · simp only [Bool.or_true, cond_true]
        · simp only [Bool.or_true, cond_true]
      · rw [decide_eq_false hw]
        simp only [Bool.not_true, Bool.or_false, cond_false]
        rw [show tupD (.tuple xs) = some xs from rfl, Option.bind_some, Option.bind_some]
        obtain ⟨M, hM⟩ : ∃ M : Nat, w + M = 5 := ⟨(5 - w).toNat, by omega⟩
        refine parts_end (M := M) (fun x hx => ?_) hM
        have ax := hd.parts.1 x hx
        intro m hm
        dsimp only
        rw [ax.is, ax.is, Option.bind_some, Option.bind_some, Option.bind_some, Option.bind_some]
        by_cases es : isS x = true
        · obtain ⟨z, rfl⟩ := isS_str ax es
          rw [es, show strD (.str z) = some z from rfl]
          simp only [cond_true, Option.bind_some, hasA_cs]
          cases q : memB z (cs k) with
          | true =>
            have hz : z ∈ cs k := of_decide_eq_true q
            refine .inr ⟨1, fun ds rs p c => ⟨_, .nm hz c⟩, ?_, ?_⟩
            · simp only [cond_true, Option.isNone_some, cond_false, Option.bind_some]
              rfl
            · simp only [cond_true]
              rfl
          | false =>
            refine .inl ⟨?_, ?_⟩
            · simp only [cond_false, Option.isNone_none, cond_true]
            · simp only [show isT (.str z) = false from rfl, cond_false, Option.bind_some]
        · have es : isS x = false := by
            cases q : isS x with
            | false => rfl
            | true => exact absurd q es
          rw [es]
          simp only [cond_false, Option.bind_some]
          cases ext : isT x with
          | false =>
            refine .inl ⟨?_, ?_⟩
            · simp only [cond_false, Option.bind_some, Option.isNone_none, cond_true]
            · simp only [cond_false, Option.bind_some]
          | true =>
            obtain ⟨ys, rfl⟩ := isT_tup ax ext
            rw [show lenD (.tuple ys) = some (ys.length : Int) from rfl]
            simp only [cond_true, Option.bind_some]
            by_cases el : (ys.length : Int) = 2
            · rw [decide_eq_true el]
              match ys, el, ax with
              | [a, b], _, ax =>
                have aa := ax.parts.1 a List.mem_cons_self
                have ab := ax.parts.1 b (List.mem_cons_of_mem _ List.mem_cons_self)
                rw [show atD (.tuple [a, b]) 0 = some a from rfl, show atD (.tuple [a, b]) 1 = some b from rfl]
                simp only [cond_true, Option.bind_some, within3 ab, times3 ab]
                cases ew : wiB 1 1000000000000000000000000000000 b with
                | false =>
                  refine .inl ⟨?_, ?_⟩
                  · simp only [cond_false, Option.bind_some, Option.isNone_none, cond_true]
                  · simp only [cond_false, Option.bind_some]
                | true =>
                  obtain ⟨o, i, e1, e2, q⟩ := parts_same h (n := n) (d := a) (w := w + 1) aa (by omega) (by omega) (by omega)
                  simp only [cond_true, Option.bind_some, e1, e2]
                  rcases q with ⟨rfl, rfl⟩ | ⟨M', ds, rs, p, hM', rfl, c, rfl, rfl⟩
                  · refine .inl ⟨?_, ?_⟩
                    · simp only [Option.isNone_none, cond_true]
                    · rw [decide_eq_true (by decide)]; simp only [cond_true]
                  · obtain ⟨t, rfl, ht1, ht2⟩ : ∃ t : Nat, b = .int (t : Int) ∧ 1 ≤ t ∧ t ≤ 10 ^ 30 := by
                      cases ab with
                      | int v =>
                        rw [wi_int, Bool.and_eq_true] at ew
                        have w1 := of_decide_eq_true ew.1
                        have w2 := of_decide_eq_true ew.2
                        exact ⟨v.toNat, by congr 1; omega, by omega, by omega⟩
                      | _ => cases ew
                    have eM : M = M' + 1 := by omega
                    subst eM
                    refine .inr ⟨1 + p, fun ds' rs' p' c' => ⟨_, .rp c ht1 ht2 c'⟩, ?_, ?_⟩
                    · simp only [Option.isNone_some, cond_false, Option.bind_some]
                      congr 2
                    · rw [decide_eq_false (by omega)]
                      simp only [cond_false]
                      congr 2
                      omega
              | [], el, _ => exact absurd el (by simp)
              | [_], el, _ => exact absurd el (by simp)
              | _ :: _ :: _ :: _, el, _ => exact absurd el (by simp; omega)
            · rw [decide_eq_false el]
              refine .inl ⟨?_, ?_⟩
              · simp only [cond_false, Option.bind_some, Option.isNone_none, cond_true]
              · simp only [cond_false, Option.bind_some]
theorem course_same (h : Kit k) {i : Int} (hd : AdmB B d) (e : m__law_parts_in 8 (k, d, (1 : Int)) = some i) : m_is_course (pl k, d) = some (decide ((0 : Int) ≤ i) && decide (i ≤ (120 : Int))) := by
  obtain ⟨o, i', e1, e2, q⟩ := parts_same h (n := 8) (w := 1) hd (by omega) (by omega) (by omega)
  rw [e] at e2
  cases e2
  unfold m_is_course m_fits_course
  have ec : m_check_peal (pl k) = some () := by unfold m_check_peal; rfl
  dsimp only
  rw [ec, Option.bind_some, e1]
  rcases q with ⟨rfl, rfl⟩ | ⟨M, ds, rs, p, _, _, _, rfl, rfl⟩
  · rfl
  · simp only [Option.bind_some, Option.isSome_some, cond_true]
    rw [decide_eq_true (show (0 : Int) ≤ (p : Int) by omega), Bool.true_and]
/-! what is drawn -/
theorem Crs.adm {n p : Nat} {ds : List Dat} {rs : List Str} (c : Crs k n ds rs p) (hp : p ≤ B) (hB : 3 ≤ B) : AdmB B (.tuple ds) := by
  refine .tup ?_ (by have := c.dlen; omega)
  induction c with
  | nil => intro x hx; cases hx
  | nm hx _ ih =>
    intro x hx
    rcases List.mem_cons.mp hx with rfl | hx
    · exact .str _
    · exact ih (by omega) x hx
  | rp c1 _ _ _ ih1 ih2 =>
    intro x hx
    rcases List.mem_cons.mp hx with rfl | hx
    · exact AdmB.two hB (.tup (ih1 (by omega)) (by have := c1.dlen; omega)) (.int _)
    · exact ih2 (by omega) x hx
theorem Crs.pure {n p : Nat} {ds : List Dat} {rs : List Str} (c : Crs k n ds rs p) : purs ds = true ∧ PyData.depthAll (toPys ds) ≤ 2 * n := by
  induction c with
  | nil => exact ⟨by unfold purs; rfl, by unfold toPys PyData.depthAll; omega⟩
  | @nm n p ds rs x _ _ ih =>
    refine ⟨by unfold purs pur; rw [ih.1]; rfl, ?_⟩
    unfold toPys PyData.depthAll
    have : (toPy (.str x)).depth = 0 := by unfold toPy PyData.depth; rfl
    rw [this]
    have := ih.2
    omega
  | @rp n p q t ds es rs qs _ _ _ _ ih1 ih2 =>
    refine ⟨?_, ?_⟩
    · have e : pur (.tuple [.tuple es, .int (t : Int)]) = true := by
        unfold pur purs pur
        rw [ih1.1]
        unfold purs pur purs
        rfl
      unfold purs
      rw [e, ih2.1]
      rfl
    · unfold toPys PyData.depthAll
      have e : (toPy (.tuple [.tuple es, .int (t : Int)])).depth ≤ 2 + 2 * n := by
        have := ih1.2
        unfold toPy toPys toPys toPys toPy PyData.depth PyData.depthAll PyData.depthAll PyData.depthAll PyData.depth
        omega
      have := ih2.2
      omega
theorem eq_nil_S {n p : Nat} {ds : List Dat} {rs : List Str} (c : Crs k n ds rs p) (hn : n ≤ 20) : Wp (eqDO ((eT id) ds) ((eT id) ([] : List Dat))) fun _ => True := by
  rw [eT_id, eT_id]
  unfold eqDO
  have h1 : pur (.tuple ds) = true := by unfold pur; exact c.pure.1
  have h2 : pur (.tuple []) = true := by unfold pur purs; rfl
  have h3 : (toPy (.tuple ds)).depth ≤ 64 := by
    unfold toPy PyData.depth
    have := c.pure.2
    omega
  have h4 : (toPy (.tuple [])).depth ≤ 64 := by unfold toPy toPys PyData.depth PyData.depthAll; omega
  rw [grd_yes ⟨⟨h1, h2⟩, h3, h4⟩]
  exact wp_some trivial
theorem Crs.elem {n p : Nat} {ds : List Dat} {rs : List Str} (c : Crs k n ds rs p) : ∀ d ∈ ds, (∃ x, d = .str x) ∨ ∃ m es qs q t, m < n ∧ d = .tuple [.tuple es, .int t] ∧ Crs k m es qs q := by
  induction c with
  | nil => intro d hd; cases hd
  | nm hx _ ih =>
    intro d hd
    rcases List.mem_cons.mp hd with rfl | hd
    · exact .inl ⟨_, rfl⟩
    · exact ih d hd
  | rp c1 _ _ _ _ ih =>
    intro d hd
    rcases List.mem_cons.mp hd with rfl | hd
    · exact .inr ⟨_, _, _, _, _, Nat.lt_succ_self _, rfl, c1⟩
    · exact ih d hd
theorem bent_part_spec {call : Str} (hn : NameOk call) (hB : 3 ≤ B) (hd : AdmB B d) (z : Sto) : Wp (m__law_bent_part (d, call) z) fun r => AdmB B r.1 := by
  unfold m__law_bent_part
  dsimp only
  obtain ⟨u, eu, lu⟩ := upper_ok hn
  rw [eu, Option.bind_some, pow30]
  have one : AdmB B ((eT Dat.str) ([call] : List Str)) := AdmB.one hB (.str _)
  refine wp_bind (P := fun t : List Dat => t.length = 11 ∧ ∀ x ∈ t, AdmB B x) (wp_catO (by simp) ⟨by simp, fun x hx => ?_⟩) fun t2 ⟨l2, a2⟩ => ?_
  · simp only [List.cons_append, List.nil_append, List.mem_cons, List.not_mem_nil, or_false] at hx
    rcases hx with rfl | rfl | rfl | rfl | rfl | rfl | rfl | rfl | rfl | rfl | rfl
    · exact .str _
    · exact .str _
    · exact .str _
    · exact .non
    · exact .int _
    · exact .bl _
    · exact .lst _
    · exact one
    · exact AdmB.two hB one (.int _)
    · exact AdmB.two hB one (.int _)
    · exact AdmB.two hB one (.bl _)
  rw [Option.bind_some, Option.bind_some]
  refine wp_bind (P := fun t : List Dat => t.length = 15 ∧ ∀ x ∈ t, AdmB B x) (wp_catO (by simp; omega) ⟨by simp [l2], fun x hx => ?_⟩) fun t5 ⟨l5, a5⟩ => ?_
  · rcases List.mem_append.mp hx with hx | hx
    · exact a2 x hx
    · simp only [List.mem_cons, List.not_mem_nil, or_false] at hx
      rcases hx with rfl | rfl | rfl | rfl
      · exact AdmB.two hB one (.int _)
      · exact AdmB.two hB one (.int _)
      · exact AdmB.two hB (.lst _) (.int _)
      · exact AdmB.two hB (.int _) one
  refine wp_bind (P := fun t : List Dat => t.length = 18 ∧ ∀ x ∈ t, AdmB B x) (wp_catO (by simp; omega) ⟨by simp [l5], fun x hx => ?_⟩) fun t6 ⟨l6, a6⟩ => ?_
  · rcases List.mem_append.mp hx with hx | hx
    · exact a5 x hx
    · simp only [List.mem_cons, List.not_mem_nil, or_false] at hx
      rcases hx with rfl | rfl | rfl
      · exact AdmB.three hB one (.int _) (.int _)
      · exact AdmB.two hB .nil (.int _)
      · exact .str _
  refine wp_bind (P := fun t : List Dat => t.length = 24 ∧ ∀ x ∈ t, AdmB B x) (wp_catO (by simp; omega) ⟨by simp [l6], fun x hx => ?_⟩) fun t7 ⟨l7, a7⟩ => ?_
  · rcases List.mem_append.mp hx with hx | hx
    · exact a6 x hx
    · simp only [List.mem_cons, List.not_mem_nil, or_false] at hx
      rcases hx with rfl | rfl | rfl | rfl | rfl | rfl
      · exact AdmB.two hB (.str _) (.int _)
      · exact AdmB.two hB (AdmB.one hB hd) (.int _)
      · exact AdmB.one hB (AdmB.two hB (AdmB.two hB hd hd) (.int _))
      · exact .dK _ _
      · exact AdmB.one hB (AdmB.two hB one (.str _))
      · exact AdmB.two hB one .non
  refine wp_bind (pull_nat z (by decide) (by decide)) fun t8 ⟨j, ej, hj⟩ => ?_
  rw [ej]
  exact wp_bind (P := fun x => AdmB B x) (wp_atI (by omega) (a7 _ (List.getElem_mem _))) fun t9 ad => wp_some ad
theorem adm_put {xs : List Dat} {x : Dat} {i j : Nat} (hx : AdmB B (.tuple xs)) (hd : AdmB (B + 1) x) (hij : i ≤ j) : AdmB (B + 1) ((eT id) ((xs.take i ++ [x]) ++ xs.drop j)) := by
  rw [eT_id]
  obtain ⟨h1, h2⟩ := hx.parts
  refine .tup (fun y hy => ?_) ?_
  · rcases List.mem_append.mp hy with hy | hy
    · rcases List.mem_append.mp hy with hy | hy
      · exact (h1 y (List.mem_of_mem_take hy)).up (by omega)
      · rw [List.mem_singleton.mp hy]; exact hd
    · exact (h1 y (List.mem_of_mem_drop hy)).up (by omega)
  · rw [List.length_append, List.length_append, List.length_take, List.length_drop, List.length_singleton]
    omega
theorem bent_spec {call : Str} (hn : NameOk call) (hB : 3 ≤ B) (hB2 : B ≤ 1000) : ∀ {n d p : Nat} {ds : List Dat} {rs : List Str} (z : Sto), d < n → d ≤ 20 → Crs k d ds rs p → AdmB B (.tuple ds) → Wp (m__law_bent n (ds, call) z) fun r => AdmB (B + 1) r.1
  | 0, _, _, _, _, _, hd, _, _, _ => absurd hd (Nat.not_lt_zero _)
  | n + 1, d, p, ds, rs, z, hd, h20, c, ha => by
    unfold m__law_bent
    dsimp only
    obtain ⟨hx, hl⟩ := ha.parts
    have lt : ∀ i, (ds.take i).length ≤ 1000 := fun i => by rw [List.length_take]; omega
    have ld : ∀ i, (ds.drop i).length ≤ 1000 := fun i => by rw [List.length_drop]; omega
    refine wp_bind (pull_nat z (by omega) (by omega)) fun t1 ⟨i, ei, hi⟩ => wp_bind (pull_nat _ (by decide) (by decide)) fun t2 _ => ?_
    rw [ei, cut_to]
    refine wp_bind (eq_nil_S c h20) fun t3 _ => ?_
    have l1 := lt i
    have l2 := ld i
    have l3 := ld (i + 1)
    refine wp_cond (fun _ => ?_) fun e => ?_
    · refine wp_bind (bent_part_spec hn hB (.str call) t2.2) fun t4 a4 => ?_
      rw [cut_from, cat_ok (by rw [List.length_singleton]; omega), Option.bind_some, cat_ok (by rw [List.length_append, List.length_singleton]; omega), Option.bind_some]
      exact wp_some (adm_put ha (a4.up (by omega)) (Nat.le_refl _))
    · rw [Bool.or_eq_false_iff] at e
      have ne := of_decide_eq_false e.2
      have hil : i < ds.length := by omega
      rw [atI_nat' hil, Option.bind_some, show (i : Int) + 1 = ((i + 1 : Nat) : Int) by omega, cut_from]
      have ai := hx _ (List.getElem_mem hil)
      have ce := c.elem _ (List.getElem_mem hil)
      generalize ds[i] = y at ai ce
      refine wp_bind (P := fun b : Bool => b = true → isT y = true) (wp_cond (fun _ => ?_) fun _ => wp_some fun z => by cases z) fun t9 h9 => ?_
      · rw [ai.is]
        exact wp_some id
      · refine wp_cond (fun e9 => ?_) fun _ => wp_cond (fun _ => ?_) fun _ => ?_
        · rcases ce with ⟨x, rfl⟩ | ⟨m, es, qs, q, t, hm, rfl, c1⟩
          · cases h9 e9
          · rw [show atD (.tuple [.tuple es, .int t]) 0 = some (.tuple es) from rfl, show atD (.tuple [.tuple es, .int t]) 1 = some (.int t) from rfl, Option.bind_some, show tupD (.tuple es) = some es from rfl, Option.bind_some]
            refine wp_bind (bent_spec hn hB hB2 (n := n) t2.2 (by omega) (by omega) c1 (ai.parts.1 _ List.mem_cons_self)) fun t12 a12 => ?_
            rw [Option.bind_some, eP_id, cat_ok (by rw [List.length_singleton]; omega), Option.bind_some, cat_ok (by rw [List.length_append, List.length_singleton]; omega), Option.bind_some]
            exact wp_some (adm_put ha (AdmB.two (by omega) a12 (.int _)) (by omega))
        · rw [cat_ok (by rw [List.length_singleton]; omega), Option.bind_some]
          refine wp_bind (pull_nat _ (by decide) (by decide)) fun t17 ⟨j, ej, hj⟩ => ?_
          rw [ej]
          refine wp_bind (P := fun x => AdmB (B + 1) x) (wp_atI (by simp; omega) ?_) fun t18 a18 => wp_some a18
          have all : ∀ x ∈ ([((eL id) ds), ((eT id) (ds ++ [((eT id) ds)])), ((eP2 (eT id) Dat.int) (ds, (2 : Int))), ((eT id) ds.reverse)] : (List Dat)), AdmB (B + 1) x := fun x hx' => by
            have up := ha.up (show B ≤ B + 1 by omega)
            simp only [List.mem_cons, List.not_mem_nil, or_false] at hx'
            rcases hx' with rfl | rfl | rfl | rfl
            · exact .lst _
            · rw [eT_id, eT_id]
              refine .tup (fun y hy => ?_) (by rw [List.length_append, List.length_singleton]; omega)
              rcases List.mem_append.mp hy with hy | hy
              · exact (hx y hy).up (by omega)
              · rw [List.mem_singleton.mp hy]; exact up
            · rw [part_eq]
              exact AdmB.two (by omega) up (.int _)
            · rw [eT_id]
              exact .tup (fun y hy => (hx y (List.mem_reverse.mp hy)).up (by omega)) (by rw [List.length_reverse]; omega)
          exact all _ (List.getElem_mem _)
        · refine wp_bind (bent_part_spec hn hB ai t2.2) fun t19 a19 => ?_
          rw [cat_ok (by rw [List.length_singleton]; omega), Option.bind_some, cat_ok (by rw [List.length_append, List.length_singleton]; omega), Option.bind_some]
          exact wp_some (adm_put ha (a19.up (by omega)) (by omega))
theorem nest_spec {ds : List Dat} {n : Nat} (hB : 3 ≤ B) (hn : n ≤ 7) (ha : AdmB B (.tuple ds)) : Wp (m__law_nest (ds, (n : Int))) fun r => AdmB B (.tuple r) := by
  unfold m__law_nest
  dsimp only
  refine wp_bind (wp_rngN (P := fun t => t = irange 0 (n : Int)) (by omega) rfl) fun t1 e1 => ?_
  subst e1
  refine wp_bind (wp_forO (P := fun st : List Dat => AdmB B (.tuple st)) (fun i st => AdmB B (.tuple st)) ha (fun i x st _ a => ?_) fun st a => a) fun fin a => wp_some a
  refine wp_some ?_
  rw [part_eq]
  exact AdmB.one hB (AdmB.two hB a (.int _))
theorem wp_mulTO {α : Type} {xs : List α} {n : Int} {P : List α → Prop} (h : 0 ≤ n ∧ n ≤ 1000 ∧ xs.length ≤ 1000) (q : ∀ ys, ys.length = n.toNat * xs.length → (∀ y ∈ ys, y ∈ xs) → P ys) : Wp (mulTO xs n) P :=
  wp_bind (wp_grd h) fun _ _ => wp_some (q _ (PyProof.Rows.lm_len_rep_flat _ _) fun y hy => by
    obtain ⟨l, hl, hy⟩ := List.mem_flatten.mp hy
    rw [(List.mem_replicate.mp hl).2] at hy
    exact hy)
theorem mul_one_S {a : Str} {n : Nat} (hn : n ≤ 200) : Wp (mulTO ([a] : List Str) (n : Int)) fun ys => ys.length = n := wp_mulTO ⟨by omega, by omega, by simp⟩ fun ys h _ => by rw [h]; simp
theorem edges_spec {call : Str} : Wp (m__law_edges call) fun r => r.length ≤ 200 ∧ ∀ x ∈ r, AdmB 200 x := by
  unfold m__law_edges
  refine wp_bind (mul_one_S (n := 120) (by omega)) fun t1 l1 => wp_bind (mul_one_S (n := 121) (by omega)) fun t2 l2 => wp_bind (mul_one_S (n := 3) (by omega)) fun t3 l3 => wp_bind (mul_one_S (n := 119) (by omega)) fun t4 l4 => wp_bind (mul_one_S (n := 120) (by omega)) fun t5 l5 => ?_
  refine wp_bind (wp_rngN (P := fun t => t = irange 0 ((7 : Nat) : Int)) (n := 7) (by omega) rfl) fun t6 e6 => ?_
  subst e6
  have row : ∀ {r : List Str}, r.length ≤ 200 → AdmB 200 ((eT Dat.str) r) := fun h => AdmB.row h
  have nests : ∀ {ds : List Dat}, AdmB 200 (.tuple ds) → Wp (lcO (fun x7 : Int => (m__law_nest (ds, x7)).bind fun t13 => some ((eT id) t13)) (irange 0 ((7 : Nat) : Int))) fun t => t.length = 7 ∧ ∀ x ∈ t, AdmB 200 x := fun {ds} ha => by
    refine wp_lcO (fun _ y => AdmB 200 y) (by rw [irange_nat_len]; omega) (fun x hx => ?_) fun ys hl h => ?_
    · obtain ⟨i, hi, rfl⟩ := irange_mem hx
      exact wp_bind (nest_spec (by omega) (by omega) ha) fun t a => wp_some (by rw [eT_id]; exact a)
    · rw [irange_nat_len] at hl
      refine ⟨hl, fun y hy => ?_⟩
      obtain ⟨i, hi⟩ := List.mem_iff_getElem?.mp hy
      have hil := (List.getElem?_eq_some_iff.mp hi).1
      exact h i _ y (List.getElem?_eq_getElem (by rw [irange_nat_len]; omega)) hi
  refine wp_bind (nests (AdmB.one (by omega) (.str call))) fun t14 ⟨l14, a14⟩ => ?_
  refine wp_bind (P := fun t : List Dat => t.length = 12 ∧ ∀ x ∈ t, AdmB 200 x) (wp_catO (by simp; omega) ⟨by simp; omega, fun x hx => ?_⟩) fun t15 ⟨l15, a15⟩ => ?_
  · rcases List.mem_append.mp hx with hx | hx
    · simp only [List.mem_cons, List.not_mem_nil, or_false] at hx
      rcases hx with rfl | rfl | rfl | rfl | rfl
      · exact row (by omega)
      · exact row (by omega)
      · exact AdmB.two (by omega) .nil (row (r := t3) (by omega))
      · exact AdmB.one (by omega) (AdmB.two (by omega) (row (r := t4) (by omega)) (.int _))
      · exact AdmB.one (by omega) (AdmB.two (by omega) (row (r := t5) (by omega)) (.int _))
    · exact a14 x hx
  refine wp_bind (wp_rngN (P := fun t => t = irange 0 ((7 : Nat) : Int)) (n := 7) (by omega) rfl) fun t16 e16 => ?_
  subst e16
  refine wp_bind (nests AdmB.nil) fun t24 ⟨l24, a24⟩ => ?_
  refine wp_bind (P := fun t : List Dat => t.length = 19 ∧ ∀ x ∈ t, AdmB 200 x) (wp_catO (by omega) ⟨by rw [List.length_append]; omega, fun x hx => ?_⟩) fun t25 ⟨l25, a25⟩ => ?_
  · rcases List.mem_append.mp hx with hx | hx
    · exact a15 x hx
    · exact a24 x hx
  rw [pow30, Option.bind_some]
  have many : ∀ {α : Type} {e : α → Dat} {x : α} {n : Nat}, n ≤ 200 → AdmB 200 (e x) → Wp (mulTO ([x] : List α) (n : Int)) fun ys => AdmB 200 ((eT e) ys) := fun {α e x n} hn ha => wp_mulTO ⟨by omega, by omega, by simp⟩ fun ys hl hm => .tup (fun y hy => by
    obtain ⟨u, hu, rfl⟩ := List.mem_map.mp hy
    rw [List.mem_singleton.mp (hm u hu)]
    exact ha) (by rw [List.length_map, hl]; simp; omega)
  refine wp_bind (many (e := eP2 (eT id) Dat.int) (n := 60) (by omega) (by rw [part_eq]; exact AdmB.two (by omega) .nil (.int _))) fun t27 a27 => ?_
  refine wp_bind (many (e := eP2 (eT Dat.str) Dat.int) (n := 60) (by omega) (AdmB.two (by omega) (row (r := [call]) (by simp)) (.int _))) fun t28 a28 => ?_
  refine wp_bind (many (e := eP2 (eT Dat.str) Dat.int) (n := 61) (by omega) (AdmB.two (by omega) (row (r := [call]) (by simp)) (.int _))) fun t29 a29 => ?_
  refine wp_bind (mul_one_S (n := 116) (by omega)) fun t30 l30 => ?_
  refine wp_bind (nest_spec (n := 4) (by omega) (by omega) (row (r := t30) (by omega))) fun t31 a31 => ?_
  refine wp_bind (P := fun t : List Dat => t.length ≤ 200 ∧ ∀ x ∈ t, AdmB 200 x) (wp_catO (by simp; omega) ⟨by simp; omega, fun x hx => ?_⟩) fun t32 h32 => wp_some h32
  rcases List.mem_append.mp hx with hx | hx
  · exact a25 x hx
  · simp only [List.mem_cons, List.not_mem_nil, or_false] at hx
    rcases hx with rfl | rfl | rfl | rfl
    · exact a27
    · exact a28
    · exact a29
    · rw [eT_id]; exact a31
/-- the Peal without the first bell -/
def bare (k : KT0) : KT0 := (cond (decide ((1 : Int) < (k.1.length : Int))) (cut k.1 (some (1 : Int)) none) ([((Str.ofString "qq"), (5 : Int))] : (List (Str × Int))), [])
theorem bare_kit (h : Kit k) : Kit (bare k) := by
  unfold bare
  have hl := h.l2
  have ec : cut k.1 (some (1 : Int)) none = k.1.drop 1 := cut_from k.1 1
  rw [ec]
  by_cases q : (1 : Int) < (k.1.length : Int)
  · rw [decide_eq_true q, cond_true]
    refine ⟨by dsimp only; rw [List.length_drop]; omega, by dsimp only; rw [List.length_drop]; omega, ?_, fun x hx => h.sz x (List.mem_of_mem_drop hx), ⟨fun n hn => (nomatch hn), .nil⟩, by simp⟩
    dsimp only
    rw [List.map_drop]
    exact ⟨fun x hx => h.nm.1 x (List.mem_of_mem_drop hx), h.nm.2.sublist (List.drop_sublist _ _)⟩
  · rw [decide_eq_false q, cond_false]
    refine ⟨by simp, by simp, ⟨fun x hx => ?_, by simp⟩, fun x hx => ?_, ⟨fun n hn => (nomatch hn), .nil⟩, by simp⟩
    · simp at hx
      rw [hx]
      exact nameB_of (by decide +kernel)
    · simp at hx
      rw [hx]
      decide
theorem right_spec (z : Sto) : Wp (m__law_right () z) fun r => r.1 = true := by
  unfold m__law_right
  refine wp_bind (kit_spec z (by decide) (by decide) (by decide) (by decide)) fun t1 ⟨h, _, _⟩ => ?_
  rw [init_spec h, Option.bind_some]
  have hl1 := h.l1
  have hl := h.l2
  generalize t1.1 = k at *
  refine wp_bind (pull_nat _ (by omega) (by omega)) fun t3 ⟨j, ej, hj⟩ => ?_
  rw [ej]
  refine wp_bind (wp_atI (P := fun b => b ∈ k.1) (by omega) (List.getElem_mem _)) fun t4 h4 => ?_
  have hn : NameOk t4.1 := h.name h4
  have hb := bare_kit h
  have eb : m_Peal___init__ ((bare k).1, (bare k).2) = some (pl (bare k)) := init_spec hb
  show Wp ((m_Peal___init__ ((bare k).1, (bare k).2)).bind _) _
  rw [eb, Option.bind_some]
  refine wp_bind edges_spec fun t6 ⟨l6, a6⟩ => ?_
  refine wp_bind (P := fun t : List Dat => t.length ≤ 210 ∧ ∀ x ∈ t, AdmB 200 x) (wp_catO (by simp; omega) ⟨by simp; omega, fun x hx => ?_⟩) fun t7 ⟨l7, a7⟩ => ?_
  · rcases List.mem_append.mp hx with hx | hx
    · exact a6 x hx
    · simp only [List.mem_cons, List.not_mem_nil, or_false] at hx
      rcases hx with rfl | rfl | rfl | rfl | rfl | rfl | rfl | rfl | rfl | rfl
      · exact .nil
      · exact .non
      · exact .str _
      · exact .str _
      · exact .int _
      · exact .bl _
      · exact .lst _
      · exact .dK _ _
      · exact .ins _ _
      · exact AdmB.one (by omega) .non
  refine wp_bind (P := fun t : List Dat => t.length ≤ 214 ∧ ∀ x ∈ t, AdmB 200 x) (wp_catO (by simp; omega) ⟨by simp; omega, fun x hx => ?_⟩) fun t8 ⟨l8, a8⟩ => ?_
  · rcases List.mem_append.mp hx with hx | hx
    · exact a7 x hx
    · simp only [List.mem_cons, List.not_mem_nil, or_false] at hx
      rcases hx with rfl | rfl | rfl | rfl
      · exact AdmB.one (by omega) .nil
      · exact AdmB.one (by omega) (AdmB.two (by omega) .nil (.int _))
      · exact .lst _
      · exact AdmB.two (by omega) (AdmB.one (by omega) (.str _)) (.int _)
  refine wp_bind (wp_rngN (P := fun t => t = irange 0 ((10 : Nat) : Int)) (n := 10) (by omega) rfl) fun t9 e9 => ?_
  subst e9
  refine wp_bind (wp_forO (P := fun st : List Dat × Sto => st.1.length ≤ 1000 ∧ ∀ x ∈ st.1, AdmB 202 x) (fun i st => st.1.length ≤ 214 + 3 * i ∧ ∀ x ∈ st.1, AdmB 202 x) ⟨by omega, fun x hx => (a8 x hx).up (by omega)⟩ (fun i x st hx ⟨ls, as⟩ => ?_) fun st ⟨l, a⟩ => ⟨by rw [irange_nat_len] at l; omega, a⟩) fun fin ⟨lf, af⟩ => ?_
  · have hil := (irange_at hx).1
    refine wp_bind (pull_nat _ (by decide) (by decide)) fun t17 ⟨u, eu, hu⟩ => ?_
    rw [eu]
    refine wp_bind (P := fun t : List Int => ∃ w g : Nat, t = [(w : Int), ((g + 1 : Nat) : Int)] ∧ 1 ≤ w ∧ w ≤ 1000 ∧ g ≤ 4 ∧ pB w (g + 1) ≤ 200) (wp_atI (by simp; omega) ?_) fun t18 ⟨w, g, e18, w1, w2, g1, pb⟩ => ?_
    · have all : ∀ x ∈ ([([(4 : Int), (3 : Int)] : (List Int)), ([(2 : Int), (5 : Int)] : (List Int)), ([(9 : Int), (2 : Int)] : (List Int)), ([(30 : Int), (1 : Int)] : (List Int))] : (List (List Int))), ∃ w g : Nat, x = [(w : Int), ((g + 1 : Nat) : Int)] ∧ 1 ≤ w ∧ w ≤ 1000 ∧ g ≤ 4 ∧ pB w (g + 1) ≤ 200 := fun x hx => by
        simp only [List.mem_cons, List.not_mem_nil, or_false] at hx
        rcases hx with rfl | rfl | rfl | rfl
        · exact ⟨4, 2, rfl, by decide, by decide, by decide, by decide⟩
        · exact ⟨2, 4, rfl, by decide, by decide, by decide, by decide⟩
        · exact ⟨9, 1, rfl, by decide, by decide, by decide, by decide⟩
        · exact ⟨30, 0, rfl, by decide, by decide, by decide, by decide⟩
      exact all _ (List.getElem_mem _)
    subst e18
    rw [show atI [(w : Int), ((g + 1 : Nat) : Int)] 1 = some ((g + 1 : Nat) : Int) from rfl, show atI [(w : Int), ((g + 1 : Nat) : Int)] 0 = some (w : Int) from rfl, Option.bind_some, Option.bind_some, pow30, Option.bind_some]
    refine wp_bind (pull_nat _ (by decide) (by decide)) fun t22 ⟨v, ev, hv⟩ => ?_
    rw [ev]
    refine wp_bind (P := fun o : Int => ∃ o' : Nat, o = (o' : Int) ∧ 1 ≤ o' ∧ o' ≤ 10 ^ 30) (wp_atI (by simp; omega) ?_) fun t23 ⟨o', eo, o1, o2⟩ => ?_
    · have all : ∀ x ∈ ([(3 : Int), 1000000000000000000000000000000] : (List Int)), ∃ o' : Nat, x = (o' : Int) ∧ 1 ≤ o' ∧ o' ≤ 10 ^ 30 := fun x hx => by
        simp only [List.mem_cons, List.not_mem_nil, or_false] at hx
        rcases hx with rfl | rfl
        · exact ⟨3, rfl, by decide, by decide⟩
        · exact ⟨10 ^ 30, rfl, by decide, by decide⟩
      exact all _ (List.getElem_mem _)
    rw [eo]
    refine wp_bind (tune_spec h w1 w2 o1 o2 (d := g) (n := 6) t22.2 (by omega)) fun t24 ⟨rs, p, c, hp, _⟩ => ?_
    have ac : AdmB 200 (.tuple t24.1) := c.adm (by omega) (by omega)
    refine wp_bind (bent_spec hn (by omega) (by omega) t24.2 (by omega) (by omega) c ac) fun t25 a25 => ?_
    obtain ⟨o, i', _, e2, q⟩ := parts_same h (n := 8) (w := 1) a25 (by omega) (by omega) (by omega)
    rw [e2, Option.bind_some]
    refine wp_bind (P := fun t : Dat × Sto => AdmB 202 t.1) (wp_cond (fun e => ?_) fun _ => wp_some (a25.up (by omega))) fun t29 a29 => ?_
    · have := of_decide_eq_true e
      rcases q with ⟨_, q⟩ | ⟨M, ds, rs', p', hM, ed, c', _, _⟩
      · omega
      · rw [ed] at a25 ⊢
        rw [show tupD (.tuple ds) = some ds from rfl, Option.bind_some]
        exact wp_bind (bent_spec hn (by omega) (by omega) t25.2 (by omega) (by omega) c' a25) fun t28 a28 => wp_some a28
    · refine wp_bind (P := fun t : List Dat => t.length ≤ 214 + 3 * (i + 1) ∧ ∀ x ∈ t, AdmB 202 x) (wp_catO (by simp; omega) ⟨by simp; omega, fun x hx => ?_⟩) fun t30 h30 => wp_some h30
      rcases List.mem_append.mp hx with hx | hx
      · exact as x hx
      · simp only [List.mem_cons, List.not_mem_nil, or_false] at hx
        rcases hx with rfl | rfl | rfl
        · rw [eT_id]; exact ac.up (by omega)
        · exact a25.up (by omega)
        · exact a29
  refine wp_bind (P := fun r : Unit ⊕ (Bool × Sto) => r = .inl ()) (wp_forR (fun _ => True) trivial (fun x hx st _ => ?_) fun st _ => rfl) fun fin31 e31 => ?_
  · have ax := af x hx
    obtain ⟨_, i1, _, e1, _⟩ := parts_same h (n := 8) (w := 1) ax (by omega) (by omega) (by omega)
    obtain ⟨_, i2, _, e2, _⟩ := parts_same hb (n := 8) (w := 1) ax (by omega) (by omega) (by omega)
    have c1 := course_same h ax e1
    have c2 := course_same hb ax e2
    rw [e1, Option.bind_some, c1, Option.bind_some, Option.bind_some]
    obtain ⟨t, et⟩ := rep2 (decide ((0 : Int) ≤ i1) && decide (i1 ≤ (120 : Int))) (decide ((0 : Int) ≤ i1) && decide (i1 ≤ (120 : Int)))
    rw [et, Option.bind_some, Option.bind_some, decide_eq_true rfl]
    show Wp ((m__law_parts_in 8 (bare k, x, (1 : Int))).bind _) _
    rw [e2, Option.bind_some, c2, Option.bind_some, Option.bind_some]
    obtain ⟨t', et'⟩ := rep2 (decide ((0 : Int) ≤ i2) && decide (i2 ≤ (120 : Int))) (decide ((0 : Int) ≤ i1) && decide (i1 ≤ (120 : Int)))
    rw [et', Option.bind_some, Option.bind_some, decide_eq_true rfl]
    exact wp_some ⟨(), rfl, trivial⟩
  subst e31
  rw [orI]
  exact wp_some rfl
end
end K14

end

section
set_option maxHeartbeats 2000000
namespace K14
open PySem L2 Kx Mx
theorem law_true (ns : List Int) (h : ns.length ≤ 63) : m_law ns = some true := by
  have W : Wp (m_law ns) fun b => b = true := by
    unfold m_law
    generalize hn : (if (if (6 : Int) < (ns.length : Int) then (6 : Int) else (ns.length : Int)) > (2 : Int) then (if (6 : Int) < (ns.length : Int) then (6 : Int) else (ns.length : Int)) else (2 : Int)) = n
    have b : 0 ≤ n ∧ n ≤ 63 := by
      rw [← hn]
      split <;> split <;> omega
    obtain ⟨k, rfl⟩ : ∃ k : Nat, n = (k : Int) := ⟨n.toNat, by omega⟩
    refine wp_bind (wp_rngN (P := fun t => t = irange 0 (k : Int)) (by omega) rfl) fun t1 e1 => ?_
    subst e1
    refine wp_bind (P := fun t : List Bool => t.all id = true) (wp_lcO (fun _ y => y = true) (by rw [irange_nat_len]; omega) (fun x hx => ?_) ?_) fun t10 h => wp_some h
    · obtain ⟨j, hj, rfl⟩ := irange_mem hx
      exact wp_bind (opened_spec ns j) fun t8 _ => wp_bind (right_spec t8) fun t9 h => wp_some h
    · intro ys hl h
      rw [List.all_eq_true]
      intro y hy
      obtain ⟨i, hi⟩ := List.mem_iff_getElem?.mp hy
      have hil := (List.getElem?_eq_some_iff.mp hi).1
      have := h i _ y (List.getElem?_eq_getElem (by omega)) hi
      rw [this]; rfl
  obtain ⟨r, hr, e⟩ := W
  rw [hr, e]
end K14

end

section
set_option maxHeartbeats 4000000
namespace K14
open PySem L2 Kx
theorem kwv_is_course_thing_peal {zs : List V} {ws : List Value} (h : Vals zs ws) : Vals (kw_is_course_thing_peal zs) (kw_is_course_thing_peal ws) := by
  cases h with
  | nil => exact .nil
  | cons a0 h =>
    cases h with
    | nil => exact .nil
    | cons a1 h =>
      cases h with
      | nil => exact (.cons a1 (.cons a0 .nil))
      | cons _ _ => exact .nil
theorem all_mk {l : PySem.W.OpenLaw} {w : World} {K : PySem.W.Frag} {h : Heap} {mg : Str → Option Value} {fa : Addr} (X : K.In h) (G : h.Ns mainGlobals mg) (hfa : mg "law" = some (.ref fa))
    {c_Peal : Addr}
    {f0 : Addr} {od0 an0 : Option Addr} {sl0 : Array (Option Value)} {oc0 kV0 dc0 pm0 cd0 ct0 : Value}
    {f1 : Addr} {od1 an1 : Option Addr} {sl1 : Array (Option Value)} {oc1 kV1 dc1 pm1 cd1 ct1 : Value}
    {f2 : Addr} {od2 an2 : Option Addr} {sl2 : Array (Option Value)} {oc2 kV2 dc2 pm2 cd2 ct2 : Value}
    {f3 : Addr} {od3 an3 : Option Addr} {sl3 : Array (Option Value)} {oc3 kV3 dc3 pm3 cd3 ct3 : Value}
    {f4 : Addr} {od4 an4 : Option Addr} {sl4 : Array (Option Value)} {oc4 kV4 dc4 pm4 cd4 ct4 : Value}
    {f5 : Addr} {od5 an5 : Option Addr} {sl5 : Array (Option Value)} {oc5 kV5 dc5 pm5 cd5 ct5 : Value}
    {f6 : Addr} {od6 an6 : Option Addr} {sl6 : Array (Option Value)} {oc6 kV6 dc6 pm6 cd6 ct6 : Value}
    {tt7 te7 : Addr} {dt7 : Option Addr} {st7 : Array (Option Value)} {cc7 : Value} {nt7 : Nat}
    {f7 : Addr} {od7 an7 : Option Addr} {sl7 : Array (Option Value)} {oc7 kV7 dc7 pm7 cd7 ct7 : Value}
    {f8 : Addr} {od8 an8 : Option Addr} {sl8 : Array (Option Value)} {oc8 kV8 dc8 pm8 cd8 ct8 : Value}
    {f9 : Addr} {od9 an9 : Option Addr} {sl9 : Array (Option Value)} {oc9 kV9 dc9 pm9 cd9 ct9 : Value}
    {f10 : Addr} {od10 an10 : Option Addr} {sl10 : Array (Option Value)} {oc10 kV10 dc10 pm10 cd10 ct10 : Value}
    {f11 : Addr} {od11 an11 : Option Addr} {sl11 : Array (Option Value)} {oc11 kV11 dc11 pm11 cd11 ct11 : Value}
    {f12 : Addr} {od12 an12 : Option Addr} {sl12 : Array (Option Value)} {oc12 kV12 dc12 pm12 cd12 ct12 : Value}
    {f13 : Addr} {od13 an13 : Option Addr} {sl13 : Array (Option Value)} {oc13 kV13 dc13 pm13 cd13 ct13 : Value}
    {f14 : Addr} {od14 an14 : Option Addr} {sl14 : Array (Option Value)} {oc14 kV14 dc14 pm14 cd14 ct14 : Value}
    {f15 : Addr} {od15 an15 : Option Addr} {sl15 : Array (Option Value)} {oc15 kV15 dc15 pm15 cd15 ct15 : Value}
    {f16 : Addr} {od16 an16 : Option Addr} {sl16 : Array (Option Value)} {oc16 kV16 dc16 pm16 cd16 ct16 : Value}
    {f17 : Addr} {od17 an17 : Option Addr} {sl17 : Array (Option Value)} {oc17 kV17 dc17 pm17 cd17 ct17 : Value}
    {f18 : Addr} {od18 an18 : Option Addr} {sl18 : Array (Option Value)} {oc18 kV18 dc18 pm18 cd18 ct18 : Value}
    {f19 : Addr} {od19 an19 : Option Addr} {sl19 : Array (Option Value)} {oc19 kV19 dc19 pm19 cd19 ct19 : Value}
    {f20 : Addr} {od20 an20 : Option Addr} {sl20 : Array (Option Value)} {oc20 kV20 dc20 pm20 cd20 ct20 : Value}
    {f21 : Addr} {od21 an21 : Option Addr} {sl21 : Array (Option Value)} {oc21 kV21 dc21 pm21 cd21 ct21 : Value}
    {f22 : Addr} {od22 an22 : Option Addr} {sl22 : Array (Option Value)} {oc22 kV22 dc22 pm22 cd22 ct22 : Value}
    {f23 : Addr} {od23 an23 : Option Addr} {sl23 : Array (Option Value)} {oc23 kV23 dc23 pm23 cd23 ct23 : Value}
    {f24 : Addr} {od24 an24 : Option Addr} {sl24 : Array (Option Value)} {oc24 kV24 dc24 pm24 cd24 ct24 : Value}
    {f25 : Addr} {od25 an25 : Option Addr} {sl25 : Array (Option Value)} {oc25 kV25 dc25 pm25 cd25 ct25 : Value}
    {f26 : Addr} {od26 an26 : Option Addr} {sl26 : Array (Option Value)} {oc26 kV26 dc26 pm26 cd26 ct26 : Value}
    {tk0 : Tok}
    {tk1 : Tok}
    {tk2 : Tok}
    {tk3 : Tok}
    {tk4 : Tok}
    {tk5 : Tok}
    {tk6 : Tok}
    {tk7 : Tok}
    {tk8 : Tok}
    (gc_Peal : PySem.W.nsIn K mainGlobals "Peal" = some (some (.ref c_Peal)))
    (p1_Peal : PySem.W.plainGet K c_Peal Str.empty = true) (p2_Peal : PySem.W.hasDictIn K c_Peal = true) (p3_Peal : PySem.W.plainOver K c_Peal = true) (p4_Peal : PySem.W.findIn K (.ref c_Peal) "__setattr__" = some (some (.builtin "object.__setattr__"))) (p5_Peal : PySem.W.makesIn K c_Peal = true) (p6_Peal : PySem.W.keepIn K (.ref c_Peal) = true)
    (p7_Peal : PySem.W.findIn K (.ref c_Peal) "__class__" = some (some (.builtin "object.__class__"))) (p8_Peal : PySem.W.specialIn K (.builtin "object.__class__") "__get__" = some (some (.builtin "getset_descriptor.__get__"))) (p9_Peal : PySem.W.takesIn K (.builtin "object.__class__") = some true) (pa_Peal : PySem.W.mroIn K c_Peal (.type "object") = some true)
    (no1_Peal : PySem.W.mroIn K c_Peal (.type "tuple") = some false)
    (no2_Peal : PySem.W.mroIn K c_Peal (.type "int") = some false)
    (no3_Peal : PySem.W.mroIn K c_Peal (.type "bool") = some false)
    (no4_Peal : PySem.W.mroIn K c_Peal (.type "str") = some false)
    (no5_Peal : PySem.W.mroIn K c_Peal (.type "list") = some false)
    (n_Peal_bells : PySem.W.findIn K (.ref c_Peal) "bells" = some none)
    (n_Peal_notches : PySem.W.findIn K (.ref c_Peal) "notches" = some none)
    (n_Peal_sizes : PySem.W.findIn K (.ref c_Peal) "sizes" = some none)
    (n_Peal_turning : PySem.W.findIn K (.ref c_Peal) "turning" = some none)
    (a0 : PySem.W.nsIn K mainGlobals "is_whole" = some (some (.ref f0))) (l0 : K.lookup f0 = some ⟨oc0, od0, .func (PySem.W.fnOf "is_whole" "is_whole" (defArgs s_is_whole) (defBody s_is_whole) (defScope s_is_whole) .none kV0 dc0 pm0 an0 cd0 ct0), sl0⟩) (c0 : PySem.W.codeIn K cd0 "is_whole" = true) (k0 : PySem.W.keepIn K (.ref f0) = true)
    (a1 : PySem.W.nsIn K mainGlobals "is_within" = some (some (.ref f1))) (l1 : K.lookup f1 = some ⟨oc1, od1, .func (PySem.W.fnOf "is_within" "is_within" (defArgs s_is_within) (defBody s_is_within) (defScope s_is_within) .none kV1 dc1 pm1 an1 cd1 ct1), sl1⟩) (c1 : PySem.W.codeIn K cd1 "is_within" = true) (k1 : PySem.W.keepIn K (.ref f1) = true)
    (a2 : PySem.W.nsIn K mainGlobals "is_name" = some (some (.ref f2))) (l2 : K.lookup f2 = some ⟨oc2, od2, .func (PySem.W.fnOf "is_name" "is_name" (defArgs s_is_name) (defBody s_is_name) (defScope s_is_name) .none kV2 dc2 pm2 an2 cd2 ct2), sl2⟩) (c2 : PySem.W.codeIn K cd2 "is_name" = true) (k2 : PySem.W.keepIn K (.ref f2) = true)
    (a3 : PySem.W.nsIn K mainGlobals "is_bell" = some (some (.ref f3))) (l3 : K.lookup f3 = some ⟨oc3, od3, .func (PySem.W.fnOf "is_bell" "is_bell" (defArgs s_is_bell) (defBody s_is_bell) (defScope s_is_bell) .none kV3 dc3 pm3 an3 cd3 ct3), sl3⟩) (c3 : PySem.W.codeIn K cd3 "is_bell" = true) (k3 : PySem.W.keepIn K (.ref f3) = true)
    (a4 : PySem.W.nsIn K mainGlobals "check_bells" = some (some (.ref f4))) (l4 : K.lookup f4 = some ⟨oc4, od4, .func (PySem.W.fnOf "check_bells" "check_bells" (defArgs s_check_bells) (defBody s_check_bells) (defScope s_check_bells) .none kV4 dc4 pm4 an4 cd4 ct4), sl4⟩) (c4 : PySem.W.codeIn K cd4 "check_bells" = true) (k4 : PySem.W.keepIn K (.ref f4) = true)
    (a5 : PySem.W.nsIn K mainGlobals "is_notch" = some (some (.ref f5))) (l5 : K.lookup f5 = some ⟨oc5, od5, .func (PySem.W.fnOf "is_notch" "is_notch" (defArgs s_is_notch) (defBody s_is_notch) (defScope s_is_notch) .none kV5 dc5 pm5 an5 cd5 ct5), sl5⟩) (c5 : PySem.W.codeIn K cd5 "is_notch" = true) (k5 : PySem.W.keepIn K (.ref f5) = true)
    (a6 : PySem.W.nsIn K mainGlobals "check_notches" = some (some (.ref f6))) (l6 : K.lookup f6 = some ⟨oc6, od6, .func (PySem.W.fnOf "check_notches" "check_notches" (defArgs s_check_notches) (defBody s_check_notches) (defScope s_check_notches) .none kV6 dc6 pm6 an6 cd6 ct6), sl6⟩) (c6 : PySem.W.codeIn K cd6 "check_notches" = true) (k6 : PySem.W.keepIn K (.ref f6) = true)
    (a7 : PySem.W.findIn K (.ref c_Peal) "__init__" = some (some (.ref f7))) (i7 : PySem.W.isFn K (.ref f7) = true) (l7 : K.lookup f7 = some ⟨oc7, od7, .func (PySem.W.fnOf "__init__" "Peal.__init__" (defArgs s_Peal___init__) (defBody s_Peal___init__) (defScope s_Peal___init__) (.ref tt7) kV7 dc7 pm7 an7 cd7 ct7), sl7⟩) (c7 : PySem.W.codeIn K cd7 "Peal.__init__" = true) (k7 : PySem.W.keepIn K (.ref f7) = true)
    (t7 : K.lookup tt7 = some ⟨cc7, dt7, .seq #[.ref te7] nt7, st7⟩)
    (a8 : PySem.W.nsIn K mainGlobals "check_peal" = some (some (.ref f8))) (l8 : K.lookup f8 = some ⟨oc8, od8, .func (PySem.W.fnOf "check_peal" "check_peal" (defArgs s_check_peal) (defBody s_check_peal) (defScope s_check_peal) .none kV8 dc8 pm8 an8 cd8 ct8), sl8⟩) (c8 : PySem.W.codeIn K cd8 "check_peal" = true) (k8 : PySem.W.keepIn K (.ref f8) = true)
    (a9 : PySem.W.nsIn K mainGlobals "parts_in" = some (some (.ref f9))) (l9 : K.lookup f9 = some ⟨oc9, od9, .func (PySem.W.fnOf "parts_in" "parts_in" (defArgs s_parts_in) (defBody s_parts_in) (defScope s_parts_in) .none kV9 dc9 pm9 an9 cd9 ct9), sl9⟩) (c9 : PySem.W.codeIn K cd9 "parts_in" = true) (k9 : PySem.W.keepIn K (.ref f9) = true)
    (a10 : PySem.W.nsIn K mainGlobals "fits_course" = some (some (.ref f10))) (l10 : K.lookup f10 = some ⟨oc10, od10, .func (PySem.W.fnOf "fits_course" "fits_course" (defArgs s_fits_course) (defBody s_fits_course) (defScope s_fits_course) .none kV10 dc10 pm10 an10 cd10 ct10), sl10⟩) (c10 : PySem.W.codeIn K cd10 "fits_course" = true) (k10 : PySem.W.keepIn K (.ref f10) = true)
    (a11 : PySem.W.nsIn K mainGlobals "is_course" = some (some (.ref f11))) (l11 : K.lookup f11 = some ⟨oc11, od11, .func (PySem.W.fnOf "is_course" "is_course" (defArgs s_is_course) (defBody s_is_course) (defScope s_is_course) .none kV11 dc11 pm11 an11 cd11 ct11), sl11⟩) (c11 : PySem.W.codeIn K cd11 "is_course" = true) (k11 : PySem.W.keepIn K (.ref f11) = true)
    (a12 : PySem.W.nsIn K mainGlobals "_law_opened" = some (some (.ref f12))) (l12 : K.lookup f12 = some ⟨oc12, od12, .func (PySem.W.fnOf "_law_opened" "_law_opened" (defArgs s__law_opened) (defBody s__law_opened) (defScope s__law_opened) .none kV12 dc12 pm12 an12 cd12 ct12), sl12⟩) (c12 : PySem.W.codeIn K cd12 "_law_opened" = true) (k12 : PySem.W.keepIn K (.ref f12) = true)
    (a13 : PySem.W.nsIn K mainGlobals "_law_pull" = some (some (.ref f13))) (l13 : K.lookup f13 = some ⟨oc13, od13, .func (PySem.W.fnOf "_law_pull" "_law_pull" (defArgs s__law_pull) (defBody s__law_pull) (defScope s__law_pull) .none kV13 dc13 pm13 an13 cd13 ct13), sl13⟩) (c13 : PySem.W.codeIn K cd13 "_law_pull" = true) (k13 : PySem.W.keepIn K (.ref f13) = true)
    (a14 : PySem.W.nsIn K mainGlobals "_law_spelt" = some (some (.ref f14))) (l14 : K.lookup f14 = some ⟨oc14, od14, .func (PySem.W.fnOf "_law_spelt" "_law_spelt" (defArgs s__law_spelt) (defBody s__law_spelt) (defScope s__law_spelt) .none kV14 dc14 pm14 an14 cd14 ct14), sl14⟩) (c14 : PySem.W.codeIn K cd14 "_law_spelt" = true) (k14 : PySem.W.keepIn K (.ref f14) = true)
    (a15 : PySem.W.nsIn K mainGlobals "_law_calls" = some (some (.ref f15))) (l15 : K.lookup f15 = some ⟨oc15, od15, .func (PySem.W.fnOf "_law_calls" "_law_calls" (defArgs s__law_calls) (defBody s__law_calls) (defScope s__law_calls) .none kV15 dc15 pm15 an15 cd15 ct15), sl15⟩) (c15 : PySem.W.codeIn K cd15 "_law_calls" = true) (k15 : PySem.W.keepIn K (.ref f15) = true)
    (a16 : PySem.W.nsIn K mainGlobals "_law_figure" = some (some (.ref f16))) (l16 : K.lookup f16 = some ⟨oc16, od16, .func (PySem.W.fnOf "_law_figure" "_law_figure" (defArgs s__law_figure) (defBody s__law_figure) (defScope s__law_figure) .none kV16 dc16 pm16 an16 cd16 ct16), sl16⟩) (c16 : PySem.W.codeIn K cd16 "_law_figure" = true) (k16 : PySem.W.keepIn K (.ref f16) = true)
    (a17 : PySem.W.nsIn K mainGlobals "_law_kit" = some (some (.ref f17))) (l17 : K.lookup f17 = some ⟨oc17, od17, .func (PySem.W.fnOf "_law_kit" "_law_kit" (defArgs s__law_kit) (defBody s__law_kit) (defScope s__law_kit) .none kV17 dc17 pm17 an17 cd17 ct17), sl17⟩) (c17 : PySem.W.codeIn K cd17 "_law_kit" = true) (k17 : PySem.W.keepIn K (.ref f17) = true)
    (a18 : PySem.W.nsIn K mainGlobals "_law_tune" = some (some (.ref f18))) (l18 : K.lookup f18 = some ⟨oc18, od18, .func (PySem.W.fnOf "_law_tune" "_law_tune" (defArgs s__law_tune) (defBody s__law_tune) (defScope s__law_tune) .none kV18 dc18 pm18 an18 cd18 ct18), sl18⟩) (c18 : PySem.W.codeIn K cd18 "_law_tune" = true) (k18 : PySem.W.keepIn K (.ref f18) = true)
    (a19 : PySem.W.nsIn K mainGlobals "_law_is_times" = some (some (.ref f19))) (l19 : K.lookup f19 = some ⟨oc19, od19, .func (PySem.W.fnOf "_law_is_times" "_law_is_times" (defArgs s__law_is_times) (defBody s__law_is_times) (defScope s__law_is_times) .none kV19 dc19 pm19 an19 cd19 ct19), sl19⟩) (c19 : PySem.W.codeIn K cd19 "_law_is_times" = true) (k19 : PySem.W.keepIn K (.ref f19) = true)
    (a20 : PySem.W.nsIn K mainGlobals "_law_parts_in" = some (some (.ref f20))) (l20 : K.lookup f20 = some ⟨oc20, od20, .func (PySem.W.fnOf "_law_parts_in" "_law_parts_in" (defArgs s__law_parts_in) (defBody s__law_parts_in) (defScope s__law_parts_in) .none kV20 dc20 pm20 an20 cd20 ct20), sl20⟩) (c20 : PySem.W.codeIn K cd20 "_law_parts_in" = true) (k20 : PySem.W.keepIn K (.ref f20) = true)
    (a21 : PySem.W.nsIn K mainGlobals "_law_bent_part" = some (some (.ref f21))) (l21 : K.lookup f21 = some ⟨oc21, od21, .func (PySem.W.fnOf "_law_bent_part" "_law_bent_part" (defArgs s__law_bent_part) (defBody s__law_bent_part) (defScope s__law_bent_part) .none kV21 dc21 pm21 an21 cd21 ct21), sl21⟩) (c21 : PySem.W.codeIn K cd21 "_law_bent_part" = true) (k21 : PySem.W.keepIn K (.ref f21) = true)
    (a22 : PySem.W.nsIn K mainGlobals "_law_bent" = some (some (.ref f22))) (l22 : K.lookup f22 = some ⟨oc22, od22, .func (PySem.W.fnOf "_law_bent" "_law_bent" (defArgs s__law_bent) (defBody s__law_bent) (defScope s__law_bent) .none kV22 dc22 pm22 an22 cd22 ct22), sl22⟩) (c22 : PySem.W.codeIn K cd22 "_law_bent" = true) (k22 : PySem.W.keepIn K (.ref f22) = true)
    (a23 : PySem.W.nsIn K mainGlobals "_law_nest" = some (some (.ref f23))) (l23 : K.lookup f23 = some ⟨oc23, od23, .func (PySem.W.fnOf "_law_nest" "_law_nest" (defArgs s__law_nest) (defBody s__law_nest) (defScope s__law_nest) .none kV23 dc23 pm23 an23 cd23 ct23), sl23⟩) (c23 : PySem.W.codeIn K cd23 "_law_nest" = true) (k23 : PySem.W.keepIn K (.ref f23) = true)
    (a24 : PySem.W.nsIn K mainGlobals "_law_edges" = some (some (.ref f24))) (l24 : K.lookup f24 = some ⟨oc24, od24, .func (PySem.W.fnOf "_law_edges" "_law_edges" (defArgs s__law_edges) (defBody s__law_edges) (defScope s__law_edges) .none kV24 dc24 pm24 an24 cd24 ct24), sl24⟩) (c24 : PySem.W.codeIn K cd24 "_law_edges" = true) (k24 : PySem.W.keepIn K (.ref f24) = true)
    (a25 : PySem.W.nsIn K mainGlobals "_law_right" = some (some (.ref f25))) (l25 : K.lookup f25 = some ⟨oc25, od25, .func (PySem.W.fnOf "_law_right" "_law_right" (defArgs s__law_right) (defBody s__law_right) (defScope s__law_right) .none kV25 dc25 pm25 an25 cd25 ct25), sl25⟩) (c25 : PySem.W.codeIn K cd25 "_law_right" = true) (k25 : PySem.W.keepIn K (.ref f25) = true)
    (a26 : PySem.W.nsIn K mainGlobals "law" = some (some (.ref f26))) (l26 : K.lookup f26 = some ⟨oc26, od26, .func (PySem.W.fnOf "law" "law" (defArgs s_law) (defBody s_law) (defScope s_law) .none kV26 dc26 pm26 an26 cd26 ct26), sl26⟩) (c26 : PySem.W.codeIn K cd26 "law" = true) (k26 : PySem.W.keepIn K (.ref f26) = true)
    (z0 : PySem.W.nsIn K mainGlobals "int" = some none)
    (z1 : PySem.W.nsIn K mainGlobals "isinstance" = some none)
    (z2 : PySem.W.nsIn K mainGlobals "bool" = some none)
    (z3 : PySem.W.nsIn K mainGlobals "str" = some none)
    (z4 : PySem.W.nsIn K mainGlobals "len" = some none)
    (z5 : PySem.W.nsIn K mainGlobals "all" = some none)
    (z6 : PySem.W.nsIn K mainGlobals "tuple" = some none)
    (z7 : PySem.W.nsIn K mainGlobals "enumerate" = some none)
    (z8 : PySem.W.nsIn K mainGlobals "dict" = some none)
    (z9 : PySem.W.nsIn K mainGlobals "abs" = some none)
    (z10 : PySem.W.nsIn K mainGlobals "divmod" = some none)
    (z11 : PySem.W.nsIn K mainGlobals "range" = some none)
    (z12 : PySem.W.nsIn K mainGlobals "sorted" = some none)
    (z13 : PySem.W.nsIn K mainGlobals "list" = some none)
    (z14 : PySem.W.nsIn K mainGlobals "repr" = some none)
    (z15 : PySem.W.nsIn K mainGlobals "min" = some none)
    (z16 : PySem.W.nsIn K mainGlobals "max" = some none)
    (q0 : PySem.W.nsIn K mainGlobals "MOST_LETTERS" = some (some (.int 6 tk0)))
    (q1 : PySem.W.nsIn K mainGlobals "LETTERS" = some (some (.str "abcdefghijklmnopqrstuvwxyz" tk1)))
    (q2 : PySem.W.nsIn K mainGlobals "LEAST_MARKS" = some (some (.int 2 tk2)))
    (q3 : PySem.W.nsIn K mainGlobals "MOST_MARKS" = some (some (.int 24 tk3)))
    (q4 : PySem.W.nsIn K mainGlobals "MOST_BELLS" = some (some (.int 8 tk4)))
    (q5 : PySem.W.nsIn K mainGlobals "MOST_NUMBER" = some (some (.int 99 tk5)))
    (q6 : PySem.W.nsIn K mainGlobals "MOST_WITHIN" = some (some (.int 5 tk6)))
    (q7 : PySem.W.nsIn K mainGlobals "MOST_TIMES" = some (some (.int 1000000000000000000000000000000 tk7)))
    (q8 : PySem.W.nsIn K mainGlobals "MOST_PARTS" = some (some (.int 120 tk8)))
    : ∃ fd : FuncData, (∀ (s : Shared) (v : Value), BindsTo s fd ⟨[v], []⟩ [("_law_script", v)]) ∧ ∀ base : Heap, K.In base → base.Ns mainGlobals mg → FnOkG l.prog w K mg base CX0 15 fa fd ["_law_script"] (sp_law K) := by
  have ec_Peal := clsAt_of gc_Peal
  subst ec_Peal
  have e := hfa.symm.trans (PySem.W.mg_of X G a26)
  cases e
  have F0 := fun_mk (st := s_is_whole) l0 c0 k0
  have F1 := fun_mk (st := s_is_within) l1 c1 k1
  have F2 := fun_mk (st := s_is_name) l2 c2 k2
  have F3 := fun_mk (st := s_is_bell) l3 c3 k3
  have F4 := fun_mk (st := s_check_bells) l4 c4 k4
  have F5 := fun_mk (st := s_is_notch) l5 c5 k5
  have F6 := fun_mk (st := s_check_notches) l6 c6 k6
  have F7 := funT_mk (st := s_Peal___init__) l7 t7 c7 k7
  have F8 := fun_mk (st := s_check_peal) l8 c8 k8
  have F9 := fun_mk (st := s_parts_in) l9 c9 k9
  have F10 := fun_mk (st := s_fits_course) l10 c10 k10
  have F11 := fun_mk (st := s_is_course) l11 c11 k11
  have F12 := fun_mk (st := s__law_opened) l12 c12 k12
  have F13 := fun_mk (st := s__law_pull) l13 c13 k13
  have F14 := fun_mk (st := s__law_spelt) l14 c14 k14
  have F15 := fun_mk (st := s__law_calls) l15 c15 k15
  have F16 := fun_mk (st := s__law_figure) l16 c16 k16
  have F17 := fun_mk (st := s__law_kit) l17 c17 k17
  have F18 := fun_mk (st := s__law_tune) l18 c18 k18
  have F19 := fun_mk (st := s__law_is_times) l19 c19 k19
  have F20 := fun_mk (st := s__law_parts_in) l20 c20 k20
  have F21 := fun_mk (st := s__law_bent_part) l21 c21 k21
  have F22 := fun_mk (st := s__law_bent) l22 c22 k22
  have F23 := fun_mk (st := s__law_nest) l23 c23 k23
  have F24 := fun_mk (st := s__law_edges) l24 c24 k24
  have F25 := fun_mk (st := s__law_right) l25 c25 k25
  have F26 := fun_mk (st := s_law) l26 c26 k26
  let T : Txt K mg := {
    a_is_whole := f0,
    d_is_whole := _,
    F_is_whole := F0,
    b_is_whole := F0.binds (ps := ["thing"]) fun _ _ _ _ _ _ us hl => match us, hl with | [_], _ => rfl,
    g_is_whole := PySem.W.mg_of X G a0,
    a_is_within := f1,
    d_is_within := _,
    F_is_within := F1,
    b_is_within := F1.binds (ps := ["thing", "low", "high"]) fun _ _ _ _ _ _ us hl => match us, hl with | [_, _, _], _ => rfl,
    g_is_within := PySem.W.mg_of X G a1,
    a_is_name := f2,
    d_is_name := _,
    F_is_name := F2,
    b_is_name := F2.binds (ps := ["thing"]) fun _ _ _ _ _ _ us hl => match us, hl with | [_], _ => rfl,
    g_is_name := PySem.W.mg_of X G a2,
    a_is_bell := f3,
    d_is_bell := _,
    F_is_bell := F3,
    b_is_bell := F3.binds (ps := ["thing"]) fun _ _ _ _ _ _ us hl => match us, hl with | [_], _ => rfl,
    g_is_bell := PySem.W.mg_of X G a3,
    a_check_bells := f4,
    d_check_bells := _,
    F_check_bells := F4,
    b_check_bells := F4.binds (ps := ["bells"]) fun _ _ _ _ _ _ us hl => match us, hl with | [_], _ => rfl,
    g_check_bells := PySem.W.mg_of X G a4,
    a_is_notch := f5,
    d_is_notch := _,
    F_is_notch := F5,
    b_is_notch := F5.binds (ps := ["thing", "names"]) fun _ _ _ _ _ _ us hl => match us, hl with | [_, _], _ => rfl,
    g_is_notch := PySem.W.mg_of X G a5,
    a_check_notches := f6,
    d_check_notches := _,
    F_check_notches := F6,
    b_check_notches := F6.binds (ps := ["notches", "names"]) fun _ _ _ _ _ _ us hl => match us, hl with | [_, _], _ => rfl,
    g_check_notches := PySem.W.mg_of X G a6,
    a_Peal___init__ := f7,
    d_Peal___init__ := _,
    e_Peal___init__ := _,
    F_Peal___init__ := F7,
    b_Peal___init__ := F7.binds3 (ps := ["self", "bells", "notches"]) (fun _ _ _ _ _ _ _ us its hl hi => match us, its, hl, hi with | [_, _, _], [_], _, _ => ⟨_, rfl, rfl⟩),
    mk_Peal := ⟨p5_Peal, a7, i7, p6_Peal⟩,
    a_check_peal := f8,
    d_check_peal := _,
    F_check_peal := F8,
    b_check_peal := F8.binds (ps := ["thing"]) fun _ _ _ _ _ _ us hl => match us, hl with | [_], _ => rfl,
    g_check_peal := PySem.W.mg_of X G a8,
    a_parts_in := f9,
    d_parts_in := _,
    F_parts_in := F9,
    b_parts_in := F9.binds (ps := ["peal", "thing", "within"]) fun _ _ _ _ _ _ us hl => match us, hl with | [_, _, _], _ => rfl,
    g_parts_in := PySem.W.mg_of X G a9,
    a_fits_course := f10,
    d_fits_course := _,
    F_fits_course := F10,
    b_fits_course := F10.binds (ps := ["peal", "thing"]) fun _ _ _ _ _ _ us hl => match us, hl with | [_, _], _ => rfl,
    g_fits_course := PySem.W.mg_of X G a10,
    a_is_course := f11,
    d_is_course := _,
    F_is_course := F11,
    b_is_course := F11.binds (ps := ["peal", "thing"]) fun _ _ _ _ _ _ us hl => match us, hl with | [_, _], _ => rfl,
    g_is_course := PySem.W.mg_of X G a11,
    a__law_opened := f12,
    d__law_opened := _,
    F__law_opened := F12,
    b__law_opened := F12.binds (ps := ["_law_script", "_law_k"]) fun _ _ _ _ _ _ us hl => match us, hl with | [_, _], _ => rfl,
    g__law_opened := PySem.W.mg_of X G a12,
    a__law_pull := f13,
    d__law_pull := _,
    F__law_pull := F13,
    b__law_pull := F13.binds (ps := ["_law_store", "_law_many"]) fun _ _ _ _ _ _ us hl => match us, hl with | [_, _], _ => rfl,
    g__law_pull := PySem.W.mg_of X G a13,
    a__law_spelt := f14,
    d__law_spelt := _,
    F__law_spelt := F14,
    b__law_spelt := F14.binds (ps := ["_law_figure_here", "_law_wide"]) fun _ _ _ _ _ _ us hl => match us, hl with | [_, _], _ => rfl,
    g__law_spelt := PySem.W.mg_of X G a14,
    a__law_calls := f15,
    d__law_calls := _,
    F__law_calls := F15,
    b__law_calls := F15.binds (ps := ["_law_store", "_law_many"]) fun _ _ _ _ _ _ us hl => match us, hl with | [_, _], _ => rfl,
    g__law_calls := PySem.W.mg_of X G a15,
    a__law_figure := f16,
    d__law_figure := _,
    F__law_figure := F16,
    b__law_figure := F16.binds (ps := ["_law_store", "_law_mode", "_law_size"]) fun _ _ _ _ _ _ us hl => match us, hl with | [_, _, _], _ => rfl,
    g__law_figure := PySem.W.mg_of X G a16,
    a__law_kit := f17,
    d__law_kit := _,
    F__law_kit := F17,
    b__law_kit := F17.binds (ps := ["_law_store", "_law_upto", "_law_most"]) fun _ _ _ _ _ _ us hl => match us, hl with | [_, _, _], _ => rfl,
    g__law_kit := PySem.W.mg_of X G a17,
    a__law_tune := f18,
    d__law_tune := _,
    F__law_tune := F18,
    b__law_tune := F18.binds (ps := ["_law_store", "_law_kit_here", "_law_deep", "_law_wide", "_law_often"]) fun _ _ _ _ _ _ us hl => match us, hl with | [_, _, _, _, _], _ => rfl,
    g__law_tune := PySem.W.mg_of X G a18,
    a__law_is_times := f19,
    d__law_is_times := _,
    F__law_is_times := F19,
    b__law_is_times := F19.binds (ps := ["_law_item"]) fun _ _ _ _ _ _ us hl => match us, hl with | [_], _ => rfl,
    g__law_is_times := PySem.W.mg_of X G a19,
    a__law_parts_in := f20,
    d__law_parts_in := _,
    F__law_parts_in := F20,
    b__law_parts_in := F20.binds (ps := ["_law_kit_here", "_law_item", "_law_within"]) fun _ _ _ _ _ _ us hl => match us, hl with | [_, _, _], _ => rfl,
    g__law_parts_in := PySem.W.mg_of X G a20,
    a__law_bent_part := f21,
    d__law_bent_part := _,
    F__law_bent_part := F21,
    b__law_bent_part := F21.binds (ps := ["_law_store", "_law_part", "_law_call"]) fun _ _ _ _ _ _ us hl => match us, hl with | [_, _, _], _ => rfl,
    g__law_bent_part := PySem.W.mg_of X G a21,
    a__law_bent := f22,
    d__law_bent := _,
    F__law_bent := F22,
    b__law_bent := F22.binds (ps := ["_law_store", "_law_tune_here", "_law_call"]) fun _ _ _ _ _ _ us hl => match us, hl with | [_, _, _], _ => rfl,
    g__law_bent := PySem.W.mg_of X G a22,
    a__law_nest := f23,
    d__law_nest := _,
    F__law_nest := F23,
    b__law_nest := F23.binds (ps := ["_law_tune_here", "_law_deep"]) fun _ _ _ _ _ _ us hl => match us, hl with | [_, _], _ => rfl,
    g__law_nest := PySem.W.mg_of X G a23,
    a__law_edges := f24,
    d__law_edges := _,
    F__law_edges := F24,
    b__law_edges := F24.binds (ps := ["_law_call"]) fun _ _ _ _ _ _ us hl => match us, hl with | [_], _ => rfl,
    g__law_edges := PySem.W.mg_of X G a24,
    a__law_right := f25,
    d__law_right := _,
    F__law_right := F25,
    b__law_right := F25.binds (ps := ["_law_store"]) fun _ _ _ _ _ _ us hl => match us, hl with | [_], _ => rfl,
    g__law_right := PySem.W.mg_of X G a25,
    a_law := fa,
    d_law := _,
    F_law := F26,
    b_law := F26.binds (ps := ["_law_script"]) fun _ _ _ _ _ _ us hl => match us, hl with | [_], _ => rfl,
    g_law := PySem.W.mg_of X G a26,
    kb_is_course_thing_peal := kbw_of F11 (fun _ _ _ _ _ _ ws hl => match ws, hl with | [_, _], _ => rfl) (fun h => kwv_is_course_thing_peal h),
    cl_Peal := ⟨p1_Peal, p2_Peal, p3_Peal, p4_Peal⟩,
    co_Peal := ⟨⟨p1_Peal, p2_Peal, p3_Peal, p4_Peal⟩, p7_Peal, p8_Peal, p9_Peal, pa_Peal⟩,
    ki_Peal := kit_self,
    cn_Peal := ⟨no1_Peal, no2_Peal, no3_Peal, no4_Peal, no5_Peal⟩,
    mg_Peal := PySem.W.mg_of X G gc_Peal,
    na_Peal_bells := n_Peal_bells,
    na_Peal_notches := n_Peal_notches,
    na_Peal_sizes := n_Peal_sizes,
    na_Peal_turning := n_Peal_turning,
    n_int := PySem.W.mg_none_of X G z0,
    n_isinstance := PySem.W.mg_none_of X G z1,
    n_bool := PySem.W.mg_none_of X G z2,
    n_str := PySem.W.mg_none_of X G z3,
    n_len := PySem.W.mg_none_of X G z4,
    n_all := PySem.W.mg_none_of X G z5,
    n_tuple := PySem.W.mg_none_of X G z6,
    n_enumerate := PySem.W.mg_none_of X G z7,
    n_dict := PySem.W.mg_none_of X G z8,
    n_abs := PySem.W.mg_none_of X G z9,
    n_divmod := PySem.W.mg_none_of X G z10,
    n_range := PySem.W.mg_none_of X G z11,
    n_sorted := PySem.W.mg_none_of X G z12,
    n_list := PySem.W.mg_none_of X G z13,
    n_repr := PySem.W.mg_none_of X G z14,
    n_min := PySem.W.mg_none_of X G z15,
    n_max := PySem.W.mg_none_of X G z16,
    t_MOST_LETTERS := _,
    c_MOST_LETTERS := PySem.W.mg_of X G q0,
    t_LETTERS := _,
    c_LETTERS := PySem.W.mg_of X G q1,
    t_LEAST_MARKS := _,
    c_LEAST_MARKS := PySem.W.mg_of X G q2,
    t_MOST_MARKS := _,
    c_MOST_MARKS := PySem.W.mg_of X G q3,
    t_MOST_BELLS := _,
    c_MOST_BELLS := PySem.W.mg_of X G q4,
    t_MOST_NUMBER := _,
    c_MOST_NUMBER := PySem.W.mg_of X G q5,
    t_MOST_WITHIN := _,
    c_MOST_WITHIN := PySem.W.mg_of X G q6,
    t_MOST_TIMES := _,
    c_MOST_TIMES := PySem.W.mg_of X G q7,
    t_MOST_PARTS := _,
    c_MOST_PARTS := PySem.W.mg_of X G q8 }
  refine ⟨T.d_law, fun s v => .of_eq rfl, fun base _ _ => ?_⟩
  have O_is_whole := ok_is_whole (P := l.prog) (w := w) (base := base) T 
  have O_is_whole_2 := ok_is_whole_2 (P := l.prog) (w := w) (base := base) T 
  have O_is_within := ok_is_within (P := l.prog) (w := w) (base := base) T O_is_whole
  have O_is_within_2 := ok_is_within_2 (P := l.prog) (w := w) (base := base) T O_is_whole_2
  have O_is_name := ok_is_name (P := l.prog) (w := w) (base := base) T 
  have O_is_name_2 := ok_is_name_2 (P := l.prog) (w := w) (base := base) T 
  have O_is_bell := ok_is_bell (P := l.prog) (w := w) (base := base) T O_is_name O_is_within
  have O_check_bells := ok_check_bells (P := l.prog) (w := w) (base := base) T O_is_bell
  have O_is_notch := ok_is_notch (P := l.prog) (w := w) (base := base) T O_is_name O_is_within
  have O_check_notches := ok_check_notches (P := l.prog) (w := w) (base := base) T O_is_notch
  have O_Peal___init__ := ok_Peal___init__ (P := l.prog) (w := w) (base := base) T O_check_bells O_check_notches
  have O_check_peal := ok_check_peal (P := l.prog) (w := w) (base := base) T 
  have O_parts_in := ok_parts_in (P := l.prog) (w := w) (base := base) T O_is_within_2 8
  have O_fits_course := ok_fits_course (P := l.prog) (w := w) (base := base) T O_parts_in
  have O_is_course := ok_is_course (P := l.prog) (w := w) (base := base) T O_check_peal O_fits_course
  have O__law_opened := ok__law_opened (P := l.prog) (w := w) (base := base) T 
  have O__law_pull := ok__law_pull (P := l.prog) (w := w) (base := base) T 
  have O__law_spelt := ok__law_spelt (P := l.prog) (w := w) (base := base) T 
  have O__law_calls := ok__law_calls (P := l.prog) (w := w) (base := base) T O__law_pull O__law_spelt
  have O__law_figure := ok__law_figure (P := l.prog) (w := w) (base := base) T O__law_pull
  have O__law_kit := ok__law_kit (P := l.prog) (w := w) (base := base) T O__law_calls O__law_pull O__law_figure
  have O__law_tune := ok__law_tune (P := l.prog) (w := w) (base := base) T O__law_pull 6
  have O__law_is_times := ok__law_is_times (P := l.prog) (w := w) (base := base) T 
  have O__law_parts_in := ok__law_parts_in (P := l.prog) (w := w) (base := base) T O__law_is_times 8
  have O__law_bent_part := ok__law_bent_part (P := l.prog) (w := w) (base := base) T O__law_pull
  have O__law_bent := ok__law_bent (P := l.prog) (w := w) (base := base) T O__law_pull O__law_bent_part 10
  have O__law_nest := ok__law_nest (P := l.prog) (w := w) (base := base) T 
  have O__law_edges := ok__law_edges (P := l.prog) (w := w) (base := base) T O__law_nest
  have O__law_right := ok__law_right (P := l.prog) (w := w) (base := base) T O__law_kit O_Peal___init__ O__law_pull O__law_edges O__law_tune O__law_bent O__law_parts_in O_is_course
  have O_law := ok_law (P := l.prog) (w := w) (base := base) T O__law_right O__law_opened
  exact O_law

theorem law_end {K : PySem.W.Frag} {H : Hp} {a : Addr} {ns : List Int} (hl : ns.length ≤ 63) (hS : SqL K H a (ns.map V.int)) : sp_law K [.ref a] H (fun v _ => v = .bl true) fun _ _ _ => False :=
  ⟨H, fun _ => none, ns, true, ⟨Same.refl _, fun _ _ h => by (cases h), fun _ _ h => by (cases h), fun _ _ h => by (cases h)⟩, ⟨.ref a, [], rfl, ⟨a, rfl, hS⟩, rfl⟩, law_true ns hl, fun v G' H' _ _ hv => by (cases hv; rfl)⟩
end K14
open PySem PySem.W PyProof.Rows
set_option maxHeartbeats 0 in
theorem PySem.Challenge.cw_sincerung_k14_courses_of_any_kind_holds : PySem.Challenge.rw_sincerung_k14_courses_of_any_kind.Holds := by
  w_on; o_law; k_head; (case hw => w_witness2)
  k_fill
  refine Kx.walk_ofG (l := PySem.Challenge.rw_sincerung_k14_courses_of_any_kind) (n := 63) (k := 15) (x := "_law_script") (sp := K14.sp_law) rfl (by decide) rfl ⟨rfl, by decide, by decide⟩ (fun w h Y => PySem.W.kIn_of Y) ?F (fun _ _ a ns hl hS => K14.law_end hl hS)
  case F =>
    intro w mg fa h KX G hmg
    refine' K14.all_mk KX G hmg ?gc_Peal ?p1_Peal ?p2_Peal ?p3_Peal ?p4_Peal ?p5_Peal ?p6_Peal ?p7_Peal ?p8_Peal ?p9_Peal ?pa_Peal ?no1_Peal ?no2_Peal ?no3_Peal ?no4_Peal ?no5_Peal ?n_Peal_bells ?n_Peal_notches ?n_Peal_sizes ?n_Peal_turning ?a0 ?l0 ?c0 ?k0 ?a1 ?l1 ?c1 ?k1 ?a2 ?l2 ?c2 ?k2 ?a3 ?l3 ?c3 ?k3 ?a4 ?l4 ?c4 ?k4 ?a5 ?l5 ?c5 ?k5 ?a6 ?l6 ?c6 ?k6 ?a7 ?i7 ?l7 ?c7 ?k7 ?t7 ?a8 ?l8 ?c8 ?k8 ?a9 ?l9 ?c9 ?k9 ?a10 ?l10 ?c10 ?k10 ?a11 ?l11 ?c11 ?k11 ?a12 ?l12 ?c12 ?k12 ?a13 ?l13 ?c13 ?k13 ?a14 ?l14 ?c14 ?k14 ?a15 ?l15 ?c15 ?k15 ?a16 ?l16 ?c16 ?k16 ?a17 ?l17 ?c17 ?k17 ?a18 ?l18 ?c18 ?k18 ?a19 ?l19 ?c19 ?k19 ?a20 ?l20 ?c20 ?k20 ?a21 ?l21 ?c21 ?k21 ?a22 ?l22 ?c22 ?k22 ?a23 ?l23 ?c23 ?k23 ?a24 ?l24 ?c24 ?k24 ?a25 ?l25 ?c25 ?k25 ?a26 ?l26 ?c26 ?k26 ?z0 ?z1 ?z2 ?z3 ?z4 ?z5 ?z6 ?z7 ?z8 ?z9 ?z10 ?z11 ?z12 ?z13 ?z14 ?z15 ?z16 ?q0 ?q1 ?q2 ?q3 ?q4 ?q5 ?q6 ?q7 ?q8
    (case gc_Peal => k_is)
    (case p1_Peal => k_is)
    (case p2_Peal => k_is)
    (case p3_Peal => k_is)
    (case p4_Peal => k_is)
    (case p5_Peal => k_is)
    (case p6_Peal => k_is)
    (case p7_Peal => k_is)
    (case p8_Peal => k_is)
    (case p9_Peal => k_is)
    (case pa_Peal => k_is)
    (case no1_Peal => k_is)
    (case no2_Peal => k_is)
    (case no3_Peal => k_is)
    (case no4_Peal => k_is)
    (case no5_Peal => k_is)
    (case n_Peal_bells => k_is)
    (case n_Peal_notches => k_is)
    (case n_Peal_sizes => k_is)
    (case n_Peal_turning => k_is)
    (case a0 => k_is)
    (case l0 => k_is)
    (case c0 => k_is)
    (case k0 => k_is)
    (case a1 => k_is)
    (case l1 => k_is)
    (case c1 => k_is)
    (case k1 => k_is)
    (case a2 => k_is)
    (case l2 => k_is)
    (case c2 => k_is)
    (case k2 => k_is)
    (case a3 => k_is)
    (case l3 => k_is)
    (case c3 => k_is)
    (case k3 => k_is)
    (case a4 => k_is)
    (case l4 => k_is)
    (case c4 => k_is)
    (case k4 => k_is)
    (case a5 => k_is)
    (case l5 => k_is)
    (case c5 => k_is)
    (case k5 => k_is)
    (case a6 => k_is)
    (case l6 => k_is)
    (case c6 => k_is)
    (case k6 => k_is)
    (case a7 => k_is)
    (case i7 => k_is)
    (case l7 => k_is)
    (case c7 => k_is)
    (case k7 => k_is)
    (case t7 => k_is)
    (case a8 => k_is)
    (case l8 => k_is)
    (case c8 => k_is)
    (case k8 => k_is)
    (case a9 => k_is)
    (case l9 => k_is)
    (case c9 => k_is)
    (case k9 => k_is)
    (case a10 => k_is)
    (case l10 => k_is)
    (case c10 => k_is)
    (case k10 => k_is)
    (case a11 => k_is)
    (case l11 => k_is)
    (case c11 => k_is)
    (case k11 => k_is)
    (case a12 => k_is)
    (case l12 => k_is)
    (case c12 => k_is)
    (case k12 => k_is)
    (case a13 => k_is)
    (case l13 => k_is)
    (case c13 => k_is)
    (case k13 => k_is)
    (case a14 => k_is)
    (case l14 => k_is)
    (case c14 => k_is)
    (case k14 => k_is)
    (case a15 => k_is)
    (case l15 => k_is)
    (case c15 => k_is)
    (case k15 => k_is)
    (case a16 => k_is)
    (case l16 => k_is)
    (case c16 => k_is)
    (case k16 => k_is)
    (case a17 => k_is)
    (case l17 => k_is)
    (case c17 => k_is)
    (case k17 => k_is)
    (case a18 => k_is)
    (case l18 => k_is)
    (case c18 => k_is)
    (case k18 => k_is)
    (case a19 => k_is)
    (case l19 => k_is)
    (case c19 => k_is)
    (case k19 => k_is)
    (case a20 => k_is)
    (case l20 => k_is)
    (case c20 => k_is)
    (case k20 => k_is)
    (case a21 => k_is)
    (case l21 => k_is)
    (case c21 => k_is)
    (case k21 => k_is)
    (case a22 => k_is)
    (case l22 => k_is)
    (case c22 => k_is)
    (case k22 => k_is)
    (case a23 => k_is)
    (case l23 => k_is)
    (case c23 => k_is)
    (case k23 => k_is)
    (case a24 => k_is)
    (case l24 => k_is)
    (case c24 => k_is)
    (case k24 => k_is)
    (case a25 => k_is)
    (case l25 => k_is)
    (case c25 => k_is)
    (case k25 => k_is)
    (case a26 => k_is)
    (case l26 => k_is)
    (case c26 => k_is)
    (case k26 => k_is)
    (case z0 => k_is)
    (case z1 => k_is)
    (case z2 => k_is)
    (case z3 => k_is)
    (case z4 => k_is)
    (case z5 => k_is)
    (case z6 => k_is)
    (case z7 => k_is)
    (case z8 => k_is)
    (case z9 => k_is)
    (case z10 => k_is)
    (case z11 => k_is)
    (case z12 => k_is)
    (case z13 => k_is)
    (case z14 => k_is)
    (case z15 => k_is)
    (case z16 => k_is)
    (case q0 => k_is)
    (case q1 => k_is)
    (case q2 => k_is)
    (case q3 => k_is)
    (case q4 => k_is)
    (case q5 => k_is)
    (case q6 => k_is)
    (case q7 => k_is)
    (case q8 => k_is)

end
