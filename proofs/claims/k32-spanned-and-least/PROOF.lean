import PyProof.Rows.All
import Wide.All
import OpenK.AllK
import Wide.FinOn
import HandS.ForMost
import HandS.Walk
import HandS.Zip
import HandS.IsInst
import HandS.Deep
import HandS.Style
import HandS.WideBits
import HandS.TupAny
import KE.GoesEnum
import KE.GoesMore
import HandS.Wide
import KE.KTupSum
import PySem.Challenge.RW_sincerung_k32_spanned_and_least
set_option Elab.async false
set_option linter.all false
set_option maxRecDepth 100000

section
set_option maxHeartbeats 2000000
namespace Kx
open PySem L2

/-! ### what is known: G stands still, M may be changed, both are tracked in H -/
structure Ok (G M H : Hp) : Prop where
  g : Same G H
  m : Same M H
  d : ∀ a o, M a = some o → G a = none
theorem Same.new {H : Hp} {p : Addr} {o : HO} (h : H p = none) : Same H (upd H p o) := fun a u e => by
  rw [upd_ne (ne_of_none e h)]
  exact e
theorem Same.none {G H : Hp} (s : Same G H) {p : Addr} (h : H p = none) : G p = none := s.free h
/-- a new object that stands still -/
theorem Ok.newG {G M H : Hp} {p : Addr} (o : HO) (k : Ok G M H) (h : H p = none) : Ok (upd G p o) M (upd H p o) := by
  refine ⟨fun a u e => ?_, fun a u e => ?_, fun a u e => ?_⟩
  · by_cases ha : a = p
    · subst ha; rw [upd_same] at e ⊢; exact e
    · rw [upd_ne ha] at e ⊢; exact k.g a u e
  · rw [upd_ne (ne_of_none (k.m a u e) h)]; exact k.m a u e
  · rw [upd_ne (ne_of_none (k.m a u e) h)]; exact k.d a u e
/-- a new object that may be changed -/
theorem Ok.newM {G M H : Hp} {p : Addr} (o : HO) (k : Ok G M H) (h : H p = none) : Ok G (upd M p o) (upd H p o) := by
  refine ⟨fun a u e => ?_, fun a u e => ?_, fun a u e => ?_⟩
  · rw [upd_ne (ne_of_none (k.g a u e) h)]; exact k.g a u e
  · by_cases ha : a = p
    · subst ha; rw [upd_same] at e ⊢; exact e
    · rw [upd_ne ha] at e ⊢; exact k.m a u e
  · by_cases ha : a = p
    · subst ha; exact Same.none k.g h
    · rw [upd_ne ha] at e; exact k.d a u e
/-- a changed object -/
theorem Ok.chg {G M H : Hp} {p : Addr} {u : HO} (o : HO) (k : Ok G M H) (h : M p = some u) : Ok G (upd M p o) (upd H p o) := by
  have gp : G p = none := k.d p u h
  refine ⟨fun a u e => ?_, fun a u e => ?_, fun a u e => ?_⟩
  · rw [upd_ne (ne_of_none e gp)]; exact k.g a u e
  · by_cases ha : a = p
    · subst ha; rw [upd_same] at e ⊢; exact e
    · rw [upd_ne ha] at e ⊢; exact k.m a u e
  · by_cases ha : a = p
    · subst ha; exact gp
    · rw [upd_ne ha] at e; exact k.d a u e
/-- what may be changed is let go: it stands still from here on -/
theorem Ok.frz {G M H : Hp} {p : Addr} {o : HO} (k : Ok G (upd M p o) H) (h : M p = none) : Ok (upd G p o) M H := by
  refine ⟨fun a u e => ?_, fun a u e => ?_, fun a u e => ?_⟩
  · by_cases ha : a = p
    · subst ha; rw [upd_same] at e; exact k.m a u (by rw [upd_same]; exact e)
    · rw [upd_ne ha] at e; exact k.g a u e
  · exact k.m a u (by rw [upd_ne (ne_of_none e h)]; exact e)
  · have ha := ne_of_none e h
    rw [upd_ne ha]
    exact k.d a u (by rw [upd_ne ha]; exact e)
theorem Ok.less {G M M' H : Hp} (k : Ok G M' H) (s : Same M M') : Ok G M H := ⟨k.g, fun a o e => k.m a o (s a o e), fun a o e => k.d a o (s a o e)⟩
theorem Ok.gp {G M H : Hp} {p : Addr} {o : HO} (k : Ok G (upd M p o) H) : G p = none := k.d p o upd_same
theorem upd_back {M : Hp} {p : Addr} {o : HO} (h : M p = some o) : upd M p o = M := by
  funext a
  unfold upd
  split
  · next e => rw [e, h]
  · rfl
theorem upd_comm {M : Hp} {p q : Addr} {o u : HO} (h : p ≠ q) : upd (upd M p o) q u = upd (upd M q u) p o := by
  funext a
  unfold upd
  by_cases h1 : a = q <;> by_cases h2 : a = p
  · subst h1; exact absurd h2.symm h
  · rw [if_pos h1, if_neg h2, if_pos h1]
  · rw [if_neg h1, if_pos h2, if_pos h2]
  · rw [if_neg h1, if_neg h2, if_neg h2, if_neg h1]
theorem same_chg {M : Hp} {p : Addr} {o u : HO} (h : M p = none) : Same M (upd M p o) := Same.new h

theorem rd_up {G H : Hp} {a : Addr} {u : HO} (e : Same G H) (h : Rd G a u) : Rd H a u := by
  rcases h with h | ⟨o, h⟩
  · exact Or.inl (e a _ h)
  · exact Or.inr ⟨o, e a _ h⟩

/-! ### data in the heap: lists are plain tracked ones; texts have code points; dicts and instances stand still -/
inductive Dat where
  | none
  | bool (b : Bool)
  | int (i : Int)
  | str (s : Str)
  | list (xs : List Dat)
  | tuple (xs : List Dat)
  /-- a dict by ints and texts: its keys, its values -/
  | dK (ks : List Key) (xs : List Dat)
  /-- a dict by tuples of these -/
  | dT (ks : List (List Key)) (xs : List Dat)
  /-- an instance of the class at C: its fields, their values -/
  | ins (C : Addr) (ns : List Str) (xs : List Dat)
abbrev sok (x : Str) : Bool := PyData.strOk x
def keyOk : Key → Bool
  | .inl _ => true
  | .inr x => sok x
mutual
inductive Dq (K : PySem.W.Frag) (G : Hp) : V → Dat → Prop
  | non : Dq K G .non .none
  | bl (b : Bool) : Dq K G (.bl b) (.bool b)
  | int (i : Int) : Dq K G (.int i) (.int i)
  | str {x : Str} (h : sok x = true) : Dq K G (.str x) (.str x)
  | lst {a : Addr} {xs : List V} {ds : List Dat} : G a = some (.lst xs) → DqAll K G xs ds → Dq K G (.ref a) (.list ds)
  | tup {a : Addr} {xs : List V} {ds : List Dat} : SqT K G a xs → DqAll K G xs ds → Dq K G (.ref a) (.tuple ds)
  | dK {a : Addr} {kvs : List (Key × V)} {ks : List Key} {ds : List Dat} : G a = some (.dK kvs) → kvs.map (·.1) = ks → ks.all keyOk = true → DqAll K G (kvs.map (·.2)) ds → Dq K G (.ref a) (.dK ks ds)
  | dT {a : Addr} {kvs : List (List Key × V)} {ks : List (List Key)} {ds : List Dat} : G a = some (.dT kvs) → kvs.map (·.1) = ks → (ks.all fun k => k.all keyOk) = true → DqAll K G (kvs.map (·.2)) ds → Dq K G (.ref a) (.dT ks ds)
  | ins {a C dx : Addr} {fs : List (Str × V)} {ns : List Str} {ds : List Dat} : G a = some (.ins C dx fs) → fs.map (·.1) = ns → DqAll K G (fs.map (·.2)) ds → Dq K G (.ref a) (.ins C ns ds)
inductive DqAll (K : PySem.W.Frag) (G : Hp) : List V → List Dat → Prop
  | nil : DqAll K G [] []
  | cons {v : V} {d : Dat} {vs : List V} {ds : List Dat} : Dq K G v d → DqAll K G vs ds → DqAll K G (v :: vs) (d :: ds)
end
/-! plain data, as the library has them -/
mutual
def toPy : Dat → PyData
  | .none => .none
  | .bool b => .bool b
  | .int i => .int i
  | .str x => .str x
  | .list xs => .list (toPys xs)
  | .tuple xs => .tuple (toPys xs)
  | .dK _ _ => .none
  | .dT _ _ => .none
  | .ins _ _ _ => .none
def toPys : List Dat → List PyData
  | [] => []
  | x :: xs => toPy x :: toPys xs
def pur : Dat → Bool
  | .none => true
  | .bool _ => true
  | .int _ => true
  | .str _ => true
  | .list xs => purs xs
  | .tuple xs => purs xs
  | .dK _ _ => false
  | .dT _ _ => false
  | .ins _ _ _ => false
def purs : List Dat → Bool
  | [] => true
  | x :: xs => pur x && purs xs
end
section
variable {K : PySem.W.Frag}
theorem sqT_up {G H : Hp} {a : Addr} {xs : List V} (e : Same G H) (h : SqT K G a xs) : SqT K H a xs := by
  rcases h with h | h
  · exact Or.inl (rd_up e h)
  · exact Or.inr h
mutual
theorem dp_up {G H : Hp} (e : Same G H) : ∀ (d : Dat) {v : V}, Dq K G v d → Dq K H v d
  | .none, _, h => by cases h; exact .non
  | .bool b, _, h => by cases h; exact .bl b
  | .int i, _, h => by cases h; exact .int i
  | .str x, _, h => by
    cases h with
    | str h => exact .str h
  | .list ds, _, h => by
    cases h with
    | lst a b => exact .lst (e _ _ a) (dpAll_up e ds b)
  | .tuple ds, _, h => by
    cases h with
    | tup a b => exact .tup (sqT_up e a) (dpAll_up e ds b)
  | .dK ks ds, _, h => by
    cases h with
    | dK a b c d => exact .dK (e _ _ a) b c (dpAll_up e ds d)
  | .dT ks ds, _, h => by
    cases h with
    | dT a b c d => exact .dT (e _ _ a) b c (dpAll_up e ds d)
  | .ins C ns ds, _, h => by
    cases h with
    | ins a b c => exact .ins (e _ _ a) b (dpAll_up e ds c)
theorem dpAll_up {G H : Hp} (e : Same G H) : ∀ (ds : List Dat) {vs : List V}, DqAll K G vs ds → DqAll K H vs ds
  | [], _, h => by cases h; exact .nil
  | d :: ds, _, h => by
    cases h with
    | cons a b => exact .cons (dp_up e d a) (dpAll_up e ds b)
end
mutual
theorem dq_dp {G : Hp} : ∀ (d : Dat) {v : V}, pur d = true → Dq K G v d → Dp K G v (toPy d)
  | .none, _, _, h => by cases h; unfold toPy; exact .non
  | .bool b, _, _, h => by cases h; unfold toPy; exact .bl b
  | .int i, _, _, h => by cases h; unfold toPy; exact .int i
  | .str x, _, _, h => by cases h; unfold toPy; exact .str x
  | .list ds, _, p, h => by
    cases h with
    | lst a b => unfold toPy; exact .lst (.inl (.inl a)) (dqAll_dp ds (by unfold pur at p; exact p) b)
  | .tuple ds, _, p, h => by
    cases h with
    | tup a b => unfold toPy; exact .tup a (dqAll_dp ds (by unfold pur at p; exact p) b)
  | .dK _ _, _, p, h => by unfold pur at p; cases p
  | .dT _ _, _, p, h => by unfold pur at p; cases p
  | .ins _ _ _, _, p, h => by unfold pur at p; cases p
theorem dqAll_dp {G : Hp} : ∀ (ds : List Dat) {vs : List V}, purs ds = true → DqAll K G vs ds → DpAll K G vs (toPys ds)
  | [], _, _, h => by cases h; unfold toPys; exact .nil
  | d :: ds, _, p, h => by
    cases h with
    | cons a b =>
      unfold purs at p
      rw [Bool.and_eq_true] at p
      unfold toPys
      exact .cons (dq_dp d p.1 a) (dqAll_dp ds p.2 b)
end
/-! what stands in the heap can be laid -/
mutual
theorem dq_lay {G : Hp} : ∀ (d : Dat) {v : V}, pur d = true → Dq K G v d → (toPy d).canLay0 = true
  | .none, _, _, h => by unfold toPy PyData.canLay0; rfl
  | .bool b, _, _, h => by unfold toPy PyData.canLay0; rfl
  | .int i, _, _, h => by unfold toPy PyData.canLay0; rfl
  | .str x, _, _, h => by
    cases h with
    | str h => unfold toPy PyData.canLay0; exact h
  | .list ds, _, p, h => by
    cases h with
    | lst a b => unfold toPy PyData.canLay0; exact dqAll_lay ds (by unfold pur at p; exact p) b
  | .tuple ds, _, p, h => by
    cases h with
    | tup a b => unfold toPy PyData.canLay0; exact dqAll_lay ds (by unfold pur at p; exact p) b
  | .dK _ _, _, p, h => by unfold pur at p; cases p
  | .dT _ _, _, p, h => by unfold pur at p; cases p
  | .ins _ _ _, _, p, h => by unfold pur at p; cases p
theorem dqAll_lay {G : Hp} : ∀ (ds : List Dat) {vs : List V}, purs ds = true → DqAll K G vs ds → PyData.canLayAll0 (toPys ds) = true
  | [], _, _, h => by unfold toPys PyData.canLayAll0; rfl
  | d :: ds, _, p, h => by
    cases h with
    | cons a b =>
      unfold purs at p
      rw [Bool.and_eq_true] at p
      unfold toPys PyData.canLayAll0
      rw [dq_lay d p.1 a, dqAll_lay ds p.2 b]
      rfl
end
theorem dpAll_len {G : Hp} : ∀ {ds : List Dat} {vs : List V}, DqAll K G vs ds → vs.length = ds.length
  | _, _, .nil => rfl
  | _, _, .cons _ b => congrArg (· + 1) (dpAll_len b)
theorem dpAll_get {G : Hp} : ∀ {ds : List Dat} {vs : List V} {i : Nat} {d : Dat}, DqAll K G vs ds → ds[i]? = some d → ∃ v, vs[i]? = some v ∧ Dq K G v d
  | _, _, _, _, .nil, h => by simp at h
  | _, _, 0, _, .cons a _, h => by simp at h; subst h; exact ⟨_, rfl, a⟩
  | _, _, i + 1, d, .cons _ b, h => by
    obtain ⟨v, h1, h2⟩ := dpAll_get (i := i) (d := d) b (by simpa using h)
    exact ⟨v, by simpa using h1, h2⟩
theorem dpAll_app {G : Hp} : ∀ {ds es : List Dat} {vs ws : List V}, DqAll K G vs ds → DqAll K G ws es → DqAll K G (vs ++ ws) (ds ++ es)
  | _, _, _, _, .nil, h => h
  | _, _, _, _, .cons a b, h => .cons a (dpAll_app b h)
theorem dpAll_drop {G : Hp} : ∀ {ds : List Dat} {vs : List V} (n : Nat), DqAll K G vs ds → DqAll K G (vs.drop n) (ds.drop n)
  | _, _, 0, h => h
  | _, _, _ + 1, .nil => .nil
  | _, _, n + 1, .cons _ b => dpAll_drop n b
theorem dpAll_take {G : Hp} : ∀ {ds : List Dat} {vs : List V} (n : Nat), DqAll K G vs ds → DqAll K G (vs.take n) (ds.take n)
  | _, _, 0, _ => .nil
  | _, _, _ + 1, .nil => .nil
  | _, _, n + 1, .cons a b => .cons a (dpAll_take n b)
theorem dpAll_set {G : Hp} : ∀ {ds : List Dat} {vs : List V} (n : Nat) {v : V} {d : Dat}, Dq K G v d → DqAll K G vs ds → DqAll K G (vs.set n v) (ds.set n d)
  | _, _, _, _, _, _, .nil => .nil
  | _, _, 0, _, _, a, .cons _ b => .cons a b
  | _, _, n + 1, _, _, a, .cons x b => .cons x (dpAll_set n a b)
theorem dpAll_erase {G : Hp} : ∀ {ds : List Dat} {vs : List V} (n : Nat), DqAll K G vs ds → DqAll K G (vs.eraseIdx n) (ds.eraseIdx n)
  | _, _, _, .nil => .nil
  | _, _, 0, .cons _ b => b
  | _, _, n + 1, .cons x b => .cons x (dpAll_erase n b)
theorem dpAll_ints {G : Hp} : ∀ {ns : List Int} {vs : List V}, DqAll K G vs (ns.map Dat.int) → vs = ns.map V.int
  | [], _, h => by cases h; rfl
  | n :: ns, _, h => by
    cases h with
    | cons a b => cases a; exact congrArg (V.int n :: ·) (dpAll_ints b)
theorem dpAll_bls {G : Hp} : ∀ {ns : List Bool} {vs : List V}, DqAll K G vs (ns.map Dat.bool) → vs = ns.map V.bl
  | [], _, h => by cases h; rfl
  | n :: ns, _, h => by
    cases h with
    | cons a b => cases a; exact congrArg (V.bl n :: ·) (dpAll_bls b)
theorem dpAll_strs {G : Hp} : ∀ {ns : List Str} {vs : List V}, DqAll K G vs (ns.map Dat.str) → vs = ns.map V.str
  | [], _, h => by cases h; rfl
  | n :: ns, _, h => by
    cases h with
    | cons a b => cases a; exact congrArg (V.str n :: ·) (dpAll_strs b)
theorem dpAll_rep {G : Hp} {v : V} {d : Dat} (h : Dq K G v d) : ∀ n : Nat, DqAll K G (List.replicate n v) (List.replicate n d)
  | 0 => .nil
  | n + 1 => .cons h (dpAll_rep h n)
end

/-! ### what evaluates to what -/
abbrev VP := V → Hp → Prop
def Mo (P : VP) : Prop := ∀ v G G', Same G G' → P v G → P v G'
abbrev DD (K : PySem.W.Frag) (d : Dat) : VP := fun v G => Dq K G v d
abbrev OW (p : Addr) : VP := fun v _ => v = .ref p
theorem mo_dd {K : PySem.W.Frag} {d : Dat} : Mo (DD K d) := fun _ _ _ s h => dp_up s d h
theorem mo_ow {p : Addr} : Mo (OW p) := fun _ _ _ _ h => h

def Ev (te : TE) (σ : St) (G M M' : Hp) (P : VP) : Prop :=
  ∀ G0 H, Same G G0 → Ok G0 M H → ∀ Q : VK, (∀ v G' H', Same G0 G' → Ok G' M' H' → P v G' → Q v H') → te σ H Q
def EvA (ta : TA) (σ : St) (G M M' : Hp) (P : List V → Hp → Prop) : Prop :=
  ∀ G0 H, Same G G0 → Ok G0 M H → ∀ Q : List V → Hp → Prop, (∀ vs G' H', Same G0 G' → Ok G' M' H' → P vs G' → Q vs H') → ta σ H Q
def EvT (tt : TT) (σ : St) (G M M' : Hp) (b : Bool) : Prop :=
  ∀ G0 H, Same G G0 → Ok G0 M H → ∀ Q : Bool → Hp → Prop, (∀ G' H', Same G0 G' → Ok G' M' H' → Q b H') → tt σ H Q
/-- a new list of one's own -/
def EvL (K : PySem.W.Frag) (te : TE) (σ : St) (G M M' : Hp) (ds : List Dat) : Prop :=
  ∀ G0 H, Same G G0 → Ok G0 M H → ∀ Q : VK, (∀ p vs G' H', Same G0 G' → Ok G' (upd M' p (.lst vs)) H' → M' p = none → DqAll K G' vs ds → Q (.ref p) H') → te σ H Q
def EvO (to : TO) (σ : St) (G M M' : Hp) (o : Option Int) : Prop :=
  ∀ G0 H, Same G G0 → Ok G0 M H → ∀ Q : Option Int → Hp → Prop, (∀ G' H', Same G0 G' → Ok G' M' H' → Q o H') → to σ H Q
/-- a rule on values -/
def RV2 (r : R2) (G M M' : Hp) (P1 P2 P : VP) : Prop :=
  ∀ x y G0 H, Same G G0 → Ok G0 M H → P1 x G0 → P2 y G0 → ∀ Q : VK, (∀ v G' H', Same G0 G' → Ok G' M' H' → P v G' → Q v H') → r x y H Q
def RVn (r : List V → Hp → VK → Prop) (G M M' : Hp) (Ps : List V → Hp → Prop) (P : VP) : Prop :=
  ∀ xs G0 H, Same G G0 → Ok G0 M H → Ps xs G0 → ∀ Q : VK, (∀ v G' H', Same G0 G' → Ok G' M' H' → P v G' → Q v H') → r xs H Q
def RVnL (K : PySem.W.Frag) (r : List V → Hp → VK → Prop) (G M M' : Hp) (Ps : List V → Hp → Prop) (ds : List Dat) : Prop :=
  ∀ xs G0 H, Same G G0 → Ok G0 M H → Ps xs G0 → ∀ Q : VK, (∀ p vs G' H', Same G0 G' → Ok G' (upd M' p (.lst vs)) H' → M' p = none → DqAll K G' vs ds → Q (.ref p) H') → r xs H Q
def RV2L (K : PySem.W.Frag) (r : R2) (G M M' : Hp) (P1 P2 : VP) (ds : List Dat) : Prop :=
  ∀ x y G0 H, Same G G0 → Ok G0 M H → P1 x G0 → P2 y G0 → ∀ Q : VK, (∀ p vs G' H', Same G0 G' → Ok G' (upd M' p (.lst vs)) H' → M' p = none → DqAll K G' vs ds → Q (.ref p) H') → r x y H Q
def nilP : List V → Hp → Prop := fun vs _ => vs = []
def conP (P : VP) (R : List V → Hp → Prop) : List V → Hp → Prop := fun vs G => ∃ v r, vs = v :: r ∧ P v G ∧ R r G

section
variable {K : PySem.W.Frag} {σ : St} {G G' M M1 M2 M3 : Hp} {ta tb te tc : TE} {P P1 P2 : VP} {d e : Dat} {ds es : List Dat}
theorem Ev.up (s : Same G G') (h : Ev te σ G M M1 P) : Ev te σ G' M M1 P := fun G0 H a => h G0 H (s.trans a)
theorem EvT.up {tt : TT} {b : Bool} (s : Same G G') (h : EvT tt σ G M M1 b) : EvT tt σ G' M M1 b := fun G0 H a => h G0 H (s.trans a)
theorem EvL.up (s : Same G G') (h : EvL K te σ G M M1 ds) : EvL K te σ G' M M1 ds := fun G0 H a => h G0 H (s.trans a)
theorem EvL.ev (h : EvL K te σ G M M1 ds) : Ev te σ G M M1 (DD K (.list ds)) := fun G0 H s k Q q =>
  h G0 H s k Q fun p vs G' H' s' k' hp hd => q _ (upd G' p (.lst vs)) H' (s'.trans (Same.new k'.gp)) (k'.frz hp) (.lst upd_same (dpAll_up (Same.new k'.gp) ds hd))
theorem ev_var {i : Nat} {v : V} (h : σ[i]? = some (some v)) (m : Mo P) (hp : P v G) : Ev (tVar i) σ G M M P := fun G0 H s k Q q =>
  ⟨v, h, q v G0 H (Same.refl G0) k (m v G G0 s hp)⟩
theorem ev_d {i : Nat} {v : V} (h : σ[i]? = some (some v)) (hp : Dq K G v d) : Ev (tVar i) σ G M M (DD K d) := ev_var h mo_dd hp
theorem ev_own {i : Nat} {p : Addr} (h : σ[i]? = some (some (.ref p))) : Ev (tVar i) σ G M M (OW p) := ev_var h mo_ow rfl
theorem ev_c {v : V} (hp : ∀ G, Dq K G v d) : Ev (tC v) σ G M M (DD K d) := fun G0 H s k Q q => q v G0 H (Same.refl G0) k (hp G0)
theorem ev_int {i : Int} : Ev (tC (.int i)) σ G M M (DD K (.int i)) := ev_c fun _ => .int i
theorem ev_str {x : Str} (h : sok x = true) : Ev (tC (.str x)) σ G M M (DD K (.str x)) := ev_c fun _ => .str h
theorem ev_bl {b : Bool} : Ev (tC (.bl b)) σ G M M (DD K (.bool b)) := ev_c fun _ => .bl b
theorem ev_non : Ev (tC .non) σ G M M (DD K .none) := ev_c fun _ => .non
theorem ev_op {r : R2} (m : Mo P1) (ha : Ev ta σ G M M1 P1) (hb : Ev tb σ G M1 M2 P2) (hr : RV2 r G M2 M3 P1 P2 P) : Ev (tOp r ta tb) σ G M M3 P := fun G0 H s k Q q =>
  ha G0 H s k _ fun x G1 H1 s1 k1 hx => hb G1 H1 (s.trans s1) k1 _ fun y G2 H2 s2 k2 hy => hr x y G2 H2 ((s.trans s1).trans s2) k2 (m x G1 G2 s2 hx) hy Q fun v G3 H3 s3 k3 hv => q v G3 H3 ((s1.trans s2).trans s3) k3 hv
theorem el_op {r : R2} (m : Mo P1) (ha : Ev ta σ G M M1 P1) (hb : Ev tb σ G M1 M2 P2) (hr : RV2L K r G M2 M3 P1 P2 ds) : EvL K (tOp r ta tb) σ G M M3 ds := fun G0 H s k Q q =>
  ha G0 H s k _ fun x G1 H1 s1 k1 hx => hb G1 H1 (s.trans s1) k1 _ fun y G2 H2 s2 k2 hy => hr x y G2 H2 ((s.trans s1).trans s2) k2 (m x G1 G2 s2 hx) hy Q fun p vs G3 H3 s3 k3 hv => q p vs G3 H3 ((s1.trans s2).trans s3) k3 hv
theorem ea_nil : EvA tNil σ G M M nilP := fun G0 H s k Q q => q [] G0 H (Same.refl _) k rfl
theorem ea_cons {tr : TA} {R : List V → Hp → Prop} (m : Mo P) (ha : Ev ta σ G M M1 P) (hr : EvA tr σ G M1 M2 R) : EvA (tCons ta tr) σ G M M2 (conP P R) := fun G0 H s k Q q =>
  ha G0 H s k _ fun x G1 H1 s1 k1 hx => hr G1 H1 (s.trans s1) k1 _ fun xs G2 H2 s2 k2 hy => q (x :: xs) G2 H2 (s1.trans s2) k2 ⟨x, xs, rfl, m x G1 G2 s2 hx, hy⟩
theorem ea_d {tr : TA} {R : List V → Hp → Prop} (ha : Ev ta σ G M M1 (DD K d)) (hr : EvA tr σ G M1 M2 R) : EvA (tCons ta tr) σ G M M2 (conP (DD K d) R) := ea_cons mo_dd ha hr
theorem ev_cb {r : List V → Hp → VK → Prop} {t : TA} {R : List V → Hp → Prop} (ha : EvA t σ G M M1 R) (hr : RVn r G M1 M2 R P) : Ev (tCB r t) σ G M M2 P := fun G0 H s k Q q =>
  ha G0 H s k _ fun xs G1 H1 s1 k1 hx => hr xs G1 H1 (s.trans s1) k1 hx Q fun v G2 H2 s2 k2 hv => q v G2 H2 (s1.trans s2) k2 hv
theorem el_cb {r : List V → Hp → VK → Prop} {t : TA} {R : List V → Hp → Prop} (ha : EvA t σ G M M1 R) (hr : RVnL K r G M1 M2 R ds) : EvL K (tCB r t) σ G M M2 ds := fun G0 H s k Q q =>
  ha G0 H s k _ fun xs G1 H1 s1 k1 hx => hr xs G1 H1 (s.trans s1) k1 hx Q fun p vs G2 H2 s2 k2 hv => q p vs G2 H2 (s1.trans s2) k2 hv
/-- values of a list of data -/
def allP (K : PySem.W.Frag) (ds : List Dat) : List V → Hp → Prop := fun vs G => DqAll K G vs ds
theorem ea_nilD : EvA tNil σ G M M (allP K []) := fun G0 H s k Q q => q [] G0 H (Same.refl _) k .nil
theorem ea_consD {tr : TA} (ha : Ev ta σ G M M1 (DD K d)) (hr : EvA tr σ G M1 M2 (allP K ds)) : EvA (tCons ta tr) σ G M M2 (allP K (d :: ds)) := fun G0 H s k Q q =>
  ha G0 H s k _ fun x G1 H1 s1 k1 hx => hr G1 H1 (s.trans s1) k1 _ fun xs G2 H2 s2 k2 hy => q (x :: xs) G2 H2 (s1.trans s2) k2 (.cons (dp_up s2 d hx) hy)
theorem ev_tup {t : TA} (ha : EvA t σ G M M1 (allP K ds)) (hl : ds.length ≤ sizeLine := by simp [sizeLine_eq]) : Ev (tTup t) σ G M M1 (DD K (.tuple ds)) := fun G0 H s k Q q =>
  ha G0 H s k _ fun xs G1 H1 s1 k1 hx => ⟨by rw [dpAll_len hx]; exact hl, fun p hp => q _ (upd G1 p (.tup xs)) _ (s1.trans (Same.new (Same.none k1.g hp))) (k1.newG _ hp) (.tup (.inl (.inl upd_same)) (dpAll_up (Same.new (Same.none k1.g hp)) ds hx))⟩
theorem newL {Q : VK} {G0 G1 H1 M1 : Hp} {xs : List V} (s1 : Same G0 G1) (k1 : Ok G1 M1 H1) (hx : DqAll K G1 xs ds) (q : ∀ p vs G' H', Same G0 G' → Ok G' (upd M1 p (.lst vs)) H' → M1 p = none → DqAll K G' vs ds → Q (.ref p) H') : ∀ p, H1 p = none → Q (.ref p) (upd H1 p (.lst xs)) :=
  fun p hp => q p xs G1 _ s1 (k1.newM _ hp) (Same.none k1.m hp) hx
theorem newT {Q : VK} {G0 G1 H1 M1 : Hp} {xs : List V} (s1 : Same G0 G1) (k1 : Ok G1 M1 H1) (hx : DqAll K G1 xs ds) (q : ∀ v G' H', Same G0 G' → Ok G' M1 H' → Dq K G' v (.tuple ds) → Q v H') : ∀ p, H1 p = none → Q (.ref p) (upd H1 p (.tup xs)) :=
  fun p hp => q _ (upd G1 p (.tup xs)) _ (s1.trans (Same.new (Same.none k1.g hp))) (k1.newG _ hp) (.tup (.inl (.inl upd_same)) (dpAll_up (Same.new (Same.none k1.g hp)) ds hx))
theorem el_lst {t : TA} (ha : EvA t σ G M M1 (allP K ds)) (hl : ds.length ≤ sizeLine := by simp [sizeLine_eq]) : EvL K (tLst t) σ G M M1 ds := fun G0 H s k Q q =>
  ha G0 H s k _ fun xs G1 H1 s1 k1 hx => ⟨by rw [dpAll_len hx]; exact hl, newL s1 k1 hx q⟩
theorem ev_is {d' : Dat} (h : Ev te σ G M M1 (DD K d)) (e : d = d') : Ev te σ G M M1 (DD K d') := e ▸ h
theorem el_is {ds' : List Dat} (h : EvL K te σ G M M1 ds) (e : ds = ds') : EvL K te σ G M M1 ds' := e ▸ h

/-! ### operators -/
theorem rv_I0 {g : Int → Int → V} {f : Int → Int → Dat} {i j : Int} (hg : ∀ i j G, Dq K G (g i j) (f i j)) : RV2 (rI0 g) G M M (DD K (.int i)) (DD K (.int j)) (DD K (f i j)) := fun x y G0 H s k hx hy Q q => by
  cases hx; cases hy
  exact ⟨i, j, rfl, rfl, q _ G0 H (Same.refl _) k (hg i j G0)⟩
theorem rv_I {C : Int → Int → Prop} {g : Int → Int → V} {f : Int → Int → Dat} {i j : Int} (hg : ∀ i j G, Dq K G (g i j) (f i j)) (hc : C i j) : RV2 (rI C g) G M M (DD K (.int i)) (DD K (.int j)) (DD K (f i j)) := fun x y G0 H s k hx hy Q q => by
  cases hx; cases hy
  exact ⟨i, j, rfl, rfl, hc, q _ G0 H (Same.refl _) k (hg i j G0)⟩
theorem ev_add {i j : Int} (ha : Ev ta σ G M M1 (DD K (.int i))) (hb : Ev tb σ G M1 M2 (DD K (.int j))) : Ev (tOp (rI0 fun i j => .int (i + j)) ta tb) σ G M M2 (DD K (.int (i + j))) := ev_op mo_dd ha hb (rv_I0 (f := fun i j => .int (i + j)) fun i j _ => .int _)
theorem ev_sub {i j : Int} (ha : Ev ta σ G M M1 (DD K (.int i))) (hb : Ev tb σ G M1 M2 (DD K (.int j))) : Ev (tOp (rI0 fun i j => .int (i - j)) ta tb) σ G M M2 (DD K (.int (i - j))) := ev_op mo_dd ha hb (rv_I0 (f := fun i j => .int (i - j)) fun i j _ => .int _)
theorem ev_mul {i j : Int} (hc : CMul i j) (ha : Ev ta σ G M M1 (DD K (.int i))) (hb : Ev tb σ G M1 M2 (DD K (.int j))) : Ev (tOp (rI CMul fun i j => .int (i * j)) ta tb) σ G M M2 (DD K (.int (i * j))) := ev_op mo_dd ha hb (rv_I (f := fun i j => .int (i * j)) (fun i j _ => .int _) hc)
theorem ev_fdiv {i j : Int} (hc : CDivN i j) (ha : Ev ta σ G M M1 (DD K (.int i))) (hb : Ev tb σ G M1 M2 (DD K (.int j))) : Ev (tOp (rI CDivN fun i j => .int (i.fdiv j)) ta tb) σ G M M2 (DD K (.int (i.fdiv j))) := ev_op mo_dd ha hb (rv_I (f := fun i j => .int (i.fdiv j)) (fun i j _ => .int _) hc)
theorem ev_mod {i j : Int} (hc : j ≠ 0) (ha : Ev ta σ G M M1 (DD K (.int i))) (hb : Ev tb σ G M1 M2 (DD K (.int j))) : Ev (tOp (rI (fun _ j => j ≠ 0) fun i j => .int (i.fmod j)) ta tb) σ G M M2 (DD K (.int (i.fmod j))) := ev_op mo_dd ha hb (rv_I (f := fun i j => .int (i.fmod j)) (fun i j _ => .int _) hc)
theorem ev_pow {i j : Int} (hc : CPow i j) (ha : Ev ta σ G M M1 (DD K (.int i))) (hb : Ev tb σ G M1 M2 (DD K (.int j))) : Ev (tOp (rI CPow fun i j => .int (i ^ j.toNat)) ta tb) σ G M M2 (DD K (.int (i ^ j.toNat))) := ev_op mo_dd ha hb (rv_I (f := fun i j => .int (i ^ j.toNat)) (fun i j _ => .int _) hc)
theorem ev_lt {i j : Int} (ha : Ev ta σ G M M1 (DD K (.int i))) (hb : Ev tb σ G M1 M2 (DD K (.int j))) : Ev (tOp (rI0 fun i j => .bl (decide (i < j))) ta tb) σ G M M2 (DD K (.bool (decide (i < j)))) := ev_op mo_dd ha hb (rv_I0 (f := fun i j => .bool (decide (i < j))) fun i j _ => .bl _)
theorem ev_le {i j : Int} (ha : Ev ta σ G M M1 (DD K (.int i))) (hb : Ev tb σ G M1 M2 (DD K (.int j))) : Ev (tOp (rI0 fun i j => .bl (decide (i ≤ j))) ta tb) σ G M M2 (DD K (.bool (decide (i ≤ j)))) := ev_op mo_dd ha hb (rv_I0 (f := fun i j => .bool (decide (i ≤ j))) fun i j _ => .bl _)
theorem ev_gt {i j : Int} (ha : Ev ta σ G M M1 (DD K (.int i))) (hb : Ev tb σ G M1 M2 (DD K (.int j))) : Ev (tOp (rI0 fun i j => .bl (decide (j < i))) ta tb) σ G M M2 (DD K (.bool (decide (j < i)))) := ev_op mo_dd ha hb (rv_I0 (f := fun i j => .bool (decide (j < i))) fun i j _ => .bl _)
theorem ev_ge {i j : Int} (ha : Ev ta σ G M M1 (DD K (.int i))) (hb : Ev tb σ G M1 M2 (DD K (.int j))) : Ev (tOp (rI0 fun i j => .bl (decide (j ≤ i))) ta tb) σ G M M2 (DD K (.bool (decide (j ≤ i)))) := ev_op mo_dd ha hb (rv_I0 (f := fun i j => .bool (decide (j ≤ i))) fun i j _ => .bl _)
theorem ev_eqI {i j : Int} (ha : Ev ta σ G M M1 (DD K (.int i))) (hb : Ev tb σ G M1 M2 (DD K (.int j))) : Ev (tOp rEq ta tb) σ G M M2 (DD K (.bool (decide (i = j)))) := ev_op mo_dd ha hb fun x y G0 H s k hx hy Q q => by
  cases hx; cases hy
  refine ⟨rfl, q _ G0 H (Same.refl _) k ?_⟩
  rw [show decide (V.int i = V.int j) = decide (i = j) by simp]
  exact .bl _
theorem ev_neI {i j : Int} (ha : Ev ta σ G M M1 (DD K (.int i))) (hb : Ev tb σ G M1 M2 (DD K (.int j))) : Ev (tOp rNe ta tb) σ G M M2 (DD K (.bool (!decide (i = j)))) := ev_op mo_dd ha hb fun x y G0 H s k hx hy Q q => by
  cases hx; cases hy
  refine ⟨rfl, q _ G0 H (Same.refl _) k ?_⟩
  rw [show decide (V.int i = V.int j) = decide (i = j) by simp]
  exact .bl _
theorem ev_eqS {i j : Str} (ha : Ev ta σ G M M1 (DD K (.str i))) (hb : Ev tb σ G M1 M2 (DD K (.str j))) : Ev (tOp rEq ta tb) σ G M M2 (DD K (.bool (decide (i = j)))) := ev_op mo_dd ha hb fun x y G0 H s k hx hy Q q => by
  cases hx; cases hy
  refine ⟨rfl, q _ G0 H (Same.refl _) k ?_⟩
  rw [show decide (V.str i = V.str j) = decide (i = j) by simp]
  exact .bl _
theorem ev_neS {i j : Str} (ha : Ev ta σ G M M1 (DD K (.str i))) (hb : Ev tb σ G M1 M2 (DD K (.str j))) : Ev (tOp rNe ta tb) σ G M M2 (DD K (.bool (!decide (i = j)))) := ev_op mo_dd ha hb fun x y G0 H s k hx hy Q q => by
  cases hx; cases hy
  refine ⟨rfl, q _ G0 H (Same.refl _) k ?_⟩
  rw [show decide (V.str i = V.str j) = decide (i = j) by simp]
  exact .bl _
theorem shp_of {v : V} {n : Nat} (p : pur d = true) (hn : (toPy d).depth ≤ 64) (h : Dq K G v d) : SeqAt.shaped (toPy d) = true := by
  unfold SeqAt.shaped
  rw [dq_lay d p h]
  simpa using hn
theorem ev_eqD (p1 : pur d = true) (p2 : pur e = true) (h1 : (toPy d).depth ≤ 64) (h2 : (toPy e).depth ≤ 64) (ha : Ev ta σ G M M1 (DD K d)) (hb : Ev tb σ G M1 M2 (DD K e)) : Ev (tOp (rEqD K) ta tb) σ G M M2 (DD K (.bool (PyData.eqv (toPy d) (toPy e)))) := ev_op mo_dd ha hb fun x y G0 H s k hx hy Q q =>
  ⟨toPy d, toPy e, dq_dp d p1 (dp_up k.g d hx), dq_dp e p2 (dp_up k.g e hy), shp_of (n := 0) p1 h1 hx, shp_of (n := 0) p2 h2 hy, q _ G0 H (Same.refl _) k (.bl _)⟩
theorem ev_neD (p1 : pur d = true) (p2 : pur e = true) (h1 : (toPy d).depth ≤ 64) (h2 : (toPy e).depth ≤ 64) (ha : Ev ta σ G M M1 (DD K d)) (hb : Ev tb σ G M1 M2 (DD K e)) : Ev (tOp (rNeD K) ta tb) σ G M M2 (DD K (.bool (!PyData.eqv (toPy d) (toPy e)))) := ev_op mo_dd ha hb fun x y G0 H s k hx hy Q q =>
  ⟨toPy d, toPy e, dq_dp d p1 (dp_up k.g d hx), dq_dp e p2 (dp_up k.g e hy), shp_of (n := 0) p1 h1 hx, shp_of (n := 0) p2 h2 hy, q _ G0 H (Same.refl _) k (.bl _)⟩
theorem ev_inD (p1 : pur d = true) (p2 : pur (.list ds) = true) (h1 : (toPy d).depth ≤ 64) (h2 : (toPy (.list ds)).depth ≤ 64) (ha : Ev ta σ G M M1 (DD K d)) (hb : Ev tb σ G M1 M2 (DD K (.list ds))) : Ev (tOp (rInD K) ta tb) σ G M M2 (DD K (.bool ((toPys ds).any fun z => PyData.eqv z (toPy d)))) := ev_op mo_dd ha hb fun x y G0 H s k hx hy Q q => by
  have e : toPy (.list ds) = .list (toPys ds) := by unfold toPy; rfl
  have h3 := dq_dp _ p2 (dp_up k.g _ hy)
  have h4 := shp_of (n := 0) p2 h2 hy
  rw [e] at h3 h4
  exact ⟨toPy d, toPys ds, dq_dp d p1 (dp_up k.g d hx), h3, shp_of (n := 0) p1 h1 hx, h4, q _ G0 H (Same.refl _) k (.bl _)⟩
theorem ev_notInD (p1 : pur d = true) (p2 : pur (.list ds) = true) (h1 : (toPy d).depth ≤ 64) (h2 : (toPy (.list ds)).depth ≤ 64) (ha : Ev ta σ G M M1 (DD K d)) (hb : Ev tb σ G M1 M2 (DD K (.list ds))) : Ev (tOp (rNotInD K) ta tb) σ G M M2 (DD K (.bool (!(toPys ds).any fun z => PyData.eqv z (toPy d)))) := ev_op mo_dd ha hb fun x y G0 H s k hx hy Q q => by
  have e : toPy (.list ds) = .list (toPys ds) := by unfold toPy; rfl
  have h3 := dq_dp _ p2 (dp_up k.g _ hy)
  have h4 := shp_of (n := 0) p2 h2 hy
  rw [e] at h3 h4
  exact ⟨toPy d, toPys ds, dq_dp d p1 (dp_up k.g d hx), h3, shp_of (n := 0) p1 h1 hx, h4, q _ G0 H (Same.refl _) k (.bl _)⟩
theorem ev_neg {i : Int} (ha : Ev ta σ G M M1 (DD K (.int i))) : Ev (tUn (rU fun i => .int (-i)) ta) σ G M M1 (DD K (.int (-i))) := fun G0 H s k Q q =>
  ha G0 H s k _ fun x G1 H1 s1 k1 hx => by
    cases hx
    exact ⟨i, rfl, q _ G1 H1 s1 k1 (.int _)⟩
def isND : Dat → Bool
  | .none => true
  | _ => false
theorem ev_isN (ha : Ev ta σ G M M1 (DD K d)) (hb : Ev tb σ G M1 M2 (DD K .none)) : Ev (tOp (fun x y H Q => y = .non ∧ Q (.bl (decide (x = .non))) H) ta tb) σ G M M2 (DD K (.bool (isND d))) := ev_op mo_dd ha hb fun x y G0 H s k hx hy Q q => by
  cases hy
  refine ⟨rfl, q _ G0 H (Same.refl _) k ?_⟩
  cases hx <;> exact .bl _
theorem ev_notN (ha : Ev ta σ G M M1 (DD K d)) (hb : Ev tb σ G M1 M2 (DD K .none)) : Ev (tOp (fun x y H Q => y = .non ∧ Q (.bl (!decide (x = .non))) H) ta tb) σ G M M2 (DD K (.bool (!isND d))) := ev_op mo_dd ha hb fun x y G0 H s k hx hy Q q => by
  cases hy
  refine ⟨rfl, q _ G0 H (Same.refl _) k ?_⟩
  cases hx <;> exact .bl _

/-! ### items and slices -/
theorem dp_list {G : Hp} {v : V} (h : Dq K G v (.list ds)) : ∃ a vs, v = .ref a ∧ G a = some (.lst vs) ∧ DqAll K G vs ds := by
  cases h with | lst a b => exact ⟨_, _, rfl, a, b⟩
theorem dp_tuple {G : Hp} {v : V} (h : Dq K G v (.tuple ds)) : ∃ a vs, v = .ref a ∧ SqT K G a vs ∧ DqAll K G vs ds := by
  cases h with | tup a b => exact ⟨_, _, rfl, a, b⟩
theorem atI_of {G : Hp} {vs : List V} {i : Int} (h : DqAll K G vs ds) (ha : atI ds i = some d) : ∃ v, atI vs i = some v ∧ Dq K G v d := by
  unfold atI at ha ⊢
  rw [dpAll_len h]
  cases e : ixN ds.length i with
  | none => rw [e] at ha; cases ha
  | some j =>
    rw [e] at ha
    obtain ⟨v, h1, h2⟩ := dpAll_get h ha
    exact ⟨v, h1, h2⟩
theorem ev_ixL {i : Int} (hi : atI ds i = some d) (ha : Ev ta σ G M M1 (DD K (.list ds))) (hb : Ev tb σ G M1 M2 (DD K (.int i))) : Ev (tOp (rIxL K) ta tb) σ G M M2 (DD K d) := ev_op mo_dd ha hb fun x y G0 H s k hx hy Q q => by
  obtain ⟨a, vs, rfl, h1, h2⟩ := dp_list hx
  cases hy
  obtain ⟨v, h3, h4⟩ := atI_of h2 hi
  exact ⟨a, vs, i, v, rfl, rfl, .inl (.inl (k.g _ _ h1)), h3, q v G0 H (Same.refl _) k h4⟩
theorem ev_ixT {i : Int} (hi : atI ds i = some d) (ha : Ev ta σ G M M1 (DD K (.tuple ds))) (hb : Ev tb σ G M1 M2 (DD K (.int i))) : Ev (tOp (rIxT K) ta tb) σ G M M2 (DD K d) := ev_op mo_dd ha hb fun x y G0 H s k hx hy Q q => by
  obtain ⟨a, vs, rfl, h1, h2⟩ := dp_tuple hx
  cases hy
  obtain ⟨v, h3, h4⟩ := atI_of h2 hi
  exact ⟨a, vs, i, v, rfl, rfl, sqT_up k.g h1, h3, q v G0 H (Same.refl _) k h4⟩
/-- an item of a list of one's own (its values told) -/
theorem ev_ixO {i : Int} {p : Addr} {vs : List V} (ha : Ev ta σ G M M1 (OW p)) (hb : Ev tb σ G M1 M2 (DD K (.int i))) (hp : M2 p = some (.lst vs)) (hv : DqAll K G vs ds) (hi : atI ds i = some d) : Ev (tOp (rIxL K) ta tb) σ G M M2 (DD K d) := ev_op mo_ow ha hb fun x y G0 H s k hx hy Q q => by
  cases hx
  cases hy
  obtain ⟨v, h3, h4⟩ := atI_of hv hi
  exact ⟨p, vs, i, v, rfl, rfl, .inl (.inl (k.m _ _ hp)), h3, q v G0 H (Same.refl _) k (dp_up s d h4)⟩
def cut {α : Type} (xs : List α) (lo hi : Option Int) : List α := (xs.drop (HT.sIx xs.length 0 lo)).take (HT.sIx xs.length xs.length hi - HT.sIx xs.length 0 lo)
theorem cut_of {G : Hp} {vs : List V} {lo hi : Option Int} (h : DqAll K G vs ds) : DqAll K G (cutV vs lo hi) (cut ds lo hi) := by
  unfold cutV cut
  rw [dpAll_len h]
  exact dpAll_take _ (dpAll_drop _ h)
theorem cut_map {α β : Type} {f : α → β} {xs : List α} {lo hi : Option Int} : cut (xs.map f) lo hi = (cut xs lo hi).map f := by
  unfold cut
  rw [List.length_map, ← List.map_drop, ← List.map_take]
theorem eo_none : EvO tNoPart σ G M M none := fun G0 H _ k Q q => q G0 H (Same.refl _) k
theorem eo_some {i : Int} (h : Ev te σ G M M1 (DD K (.int i))) : EvO (tPart te) σ G M M1 (some i) := fun G0 H s k Q q => h G0 H s k _ fun v G1 H1 s1 k1 hv => by
  cases hv
  exact ⟨i, rfl, q G1 H1 s1 k1⟩
theorem el_slL {tl th : TO} {lo hi : Option Int} (h : Ev te σ G M M (DD K (.list ds))) (h1 : EvO tl σ G M M lo) (h2 : EvO th σ G M M hi) : EvL K (tSl (rSlL K) te tl th) σ G M M (cut ds lo hi) := fun G0 H s k Q q =>
  h G0 H s k _ fun x G1 H1 s1 k1 hx => h1 G1 H1 (s.trans s1) k1 _ fun G2 H2 s2 k2 => h2 G2 H2 ((s.trans s1).trans s2) k2 _ fun G3 H3 s3 k3 => by
    obtain ⟨a, vs, rfl, ha, hb⟩ := dp_list hx
    have s13 := s2.trans s3
    exact ⟨a, vs, rfl, .inl (.inl ((s13.trans k3.g) _ _ ha)), newL (s1.trans s13) k3 (dpAll_up s13 _ (cut_of hb)) q⟩
end
end Kx

end

section
set_option maxHeartbeats 2000000
namespace Kx
open PySem L2
section
variable {K : PySem.W.Frag} {σ : St} {G G' M M1 M2 M3 : Hp} {ta tb te tc : TE} {P P1 P2 : VP} {d e : Dat} {ds es : List Dat}
theorem ev_slT {tl th : TO} {lo hi : Option Int} (h : Ev te σ G M M (DD K (.tuple ds))) (h1 : EvO tl σ G M M lo) (h2 : EvO th σ G M M hi) : Ev (tSl (rSlA K) te tl th) σ G M M (DD K (.tuple (cut ds lo hi))) := fun G0 H s k Q q =>
  h G0 H s k _ fun x G1 H1 s1 k1 hx => h1 G1 H1 (s.trans s1) k1 _ fun G2 H2 s2 k2 => h2 G2 H2 ((s.trans s1).trans s2) k2 _ fun G3 H3 s3 k3 => by
    have s13 := s2.trans s3
    have hx3 := dp_up s13 _ hx
    obtain ⟨a, vs, rfl, ha, hb⟩ := dp_tuple hx3
    refine ⟨a, vs, rfl, sqT_up k3.g ha, fun hw => ?_, fun _ => newT (s1.trans s13) k3 (cut_of hb) q⟩
    have e1 : cut ds lo hi = ds := by
      unfold cut
      rw [← dpAll_len hb, hw.1, hw.2, List.drop_zero, Nat.sub_zero, dpAll_len hb, List.take_length]
    rw [e1] at q
    exact q _ G3 H3 (s1.trans s13) k3 hx3
theorem ev_catT (hl : ds.length + es.length ≤ sizeLine) (ha : Ev ta σ G M M1 (DD K (.tuple ds))) (hb : Ev tb σ G M1 M2 (DD K (.tuple es))) : Ev (tOp (rCatA K) ta tb) σ G M M2 (DD K (.tuple (ds ++ es))) := ev_op mo_dd ha hb fun x y G0 H s k hx hy Q q => by
  obtain ⟨a, vs, rfl, ha, hb⟩ := dp_tuple hx
  obtain ⟨b, ws, rfl, hc, hd⟩ := dp_tuple hy
  have l1 := dpAll_len hb
  have l2 := dpAll_len hd
  refine ⟨a, b, vs, ws, rfl, rfl, sqT_up k.g ha, sqT_up k.g hc, by rw [l1, l2]; exact hl, fun z => ?_, fun _ z => ?_, fun _ _ => newT (Same.refl _) k (dpAll_app hb hd) q⟩
  · subst z
    cases hb
    exact q _ G0 H (Same.refl _) k hy
  · subst z
    cases hd
    rw [List.append_nil] at q
    exact q _ G0 H (Same.refl _) k hx
theorem el_cat (hl : ds.length + es.length ≤ sizeLine) (ha : Ev ta σ G M M1 (DD K (.list ds))) (hb : Ev tb σ G M1 M2 (DD K (.list es))) : EvL K (tOp rCat ta tb) σ G M M2 (ds ++ es) := el_op mo_dd ha hb fun x y G0 H s k hx hy Q q => by
  obtain ⟨a, vs, rfl, ha, hb⟩ := dp_list hx
  obtain ⟨b, ws, rfl, hc, hd⟩ := dp_list hy
  exact ⟨a, b, vs, ws, rfl, rfl, k.g _ _ ha, k.g _ _ hc, by rw [dpAll_len hb, dpAll_len hd]; exact hl, newL (Same.refl _) k (dpAll_app hb hd) q⟩
theorem rep_one {α : Type} (x : α) : ∀ n : Nat, (List.replicate n [x]).flatten = List.replicate n x
  | 0 => rfl
  | n + 1 => by
    rw [List.replicate_succ, List.flatten_cons, rep_one x n, List.replicate_succ]
    rfl
/-- [x] * n -/
theorem el_rep1 {n : Int} (h1 : n < 2 ^ 24) (h2 : -(2 ^ 24) ≤ n) (ha : Ev ta σ G M M1 (DD K (.list [d]))) (hb : Ev tb σ G M1 M2 (DD K (.int n))) : EvL K (tOp rRep ta tb) σ G M M2 (List.replicate n.toNat d) := el_op mo_dd ha hb fun x y G0 H s k hx hy Q q => by
  obtain ⟨a, vs, rfl, ha, hb⟩ := dp_list hx
  cases hy
  cases hb with
  | cons hv hn =>
    cases hn
    refine ⟨a, n, _, rfl, rfl, k.g _ _ ha, by omega, by omega, ?_, ?_⟩
    · rw [sizeLine_eq]
      simp
      omega
    · rw [rep_one]
      exact newL (Same.refl _) k (dpAll_rep hv _) q
def rListOf (K : PySem.W.Frag) : List V → Hp → VK → Prop := fun xs H Q => ∃ p ys, xs = [.ref p] ∧ (SqL K H p ys ∨ SqT K H p ys) ∧ ∀ l, H l = none → Q (.ref l) (upd H l (.lst ys))
def rTupOf (K : PySem.W.Frag) : List V → Hp → VK → Prop := fun xs H Q => ∃ p ys, xs = [.ref p] ∧ ((SqL K H p ys ∧ ∀ l, H l = none → Q (.ref l) (upd H l (.tup ys))) ∨ (SqT K H p ys ∧ Q (.ref p) H))
def rLen (K : PySem.W.Frag) : List V → Hp → VK → Prop := fun xs H Q => ∃ p ys, xs = [.ref p] ∧ (SqL K H p ys ∨ SqT K H p ys) ∧ Q (.int ys.length) H
theorem one_of {R : List V → Hp → Prop} {xs : List V} {G : Hp} (h : conP P nilP xs G) : ∃ v, xs = [v] ∧ P v G := by
  obtain ⟨v, r, rfl, hp, hr⟩ := h
  cases hr
  exact ⟨v, rfl, hp⟩
theorem el_listT (ha : EvA (tCons ta tNil) σ G M M1 (conP (DD K (.tuple ds)) nilP)) : EvL K (tCB (rListOf K) (tCons ta tNil)) σ G M M1 ds := el_cb ha fun xs G0 H s k hx Q q => by
  obtain ⟨v, rfl, hv⟩ := one_of (R := nilP) hx
  obtain ⟨a, vs, rfl, ha, hb⟩ := dp_tuple hv
  exact ⟨a, vs, rfl, .inr (sqT_up k.g ha), newL (Same.refl _) k hb q⟩
theorem el_listL (ha : EvA (tCons ta tNil) σ G M M1 (conP (DD K (.list ds)) nilP)) : EvL K (tCB (rListOf K) (tCons ta tNil)) σ G M M1 ds := el_cb ha fun xs G0 H s k hx Q q => by
  obtain ⟨v, rfl, hv⟩ := one_of (R := nilP) hx
  obtain ⟨a, vs, rfl, ha, hb⟩ := dp_list hv
  exact ⟨a, vs, rfl, .inl (.inl (.inl (k.g _ _ ha))), newL (Same.refl _) k hb q⟩
theorem el_listO {p : Addr} {vs : List V} (hp : M1 p = some (.lst vs)) (hd : DqAll K G vs ds) (ha : EvA (tCons ta tNil) σ G M M1 (conP (OW p) nilP)) : EvL K (tCB (rListOf K) (tCons ta tNil)) σ G M M1 ds := el_cb ha fun xs G0 H s k hx Q q => by
  obtain ⟨v, rfl, hv⟩ := one_of (R := nilP) hx
  cases hv
  exact ⟨p, vs, rfl, .inl (.inl (.inl (k.m _ _ hp))), newL (Same.refl _) k (dpAll_up s _ hd) q⟩
theorem ev_tupL (ha : EvA (tCons ta tNil) σ G M M1 (conP (DD K (.list ds)) nilP)) : Ev (tCB (rTupOf K) (tCons ta tNil)) σ G M M1 (DD K (.tuple ds)) := ev_cb ha fun xs G0 H s k hx Q q => by
  obtain ⟨v, rfl, hv⟩ := one_of (R := nilP) hx
  obtain ⟨a, vs, rfl, ha, hb⟩ := dp_list hv
  exact ⟨a, vs, rfl, .inl ⟨.inl (.inl (k.g _ _ ha)), newT (Same.refl _) k hb q⟩⟩
theorem ev_tupT (ha : EvA (tCons ta tNil) σ G M M1 (conP (DD K (.tuple ds)) nilP)) : Ev (tCB (rTupOf K) (tCons ta tNil)) σ G M M1 (DD K (.tuple ds)) := ev_cb ha fun xs G0 H s k hx Q q => by
  obtain ⟨v, rfl, hv⟩ := one_of (R := nilP) hx
  obtain ⟨a, vs, rfl, ha, hb⟩ := dp_tuple hv
  exact ⟨a, vs, rfl, .inr ⟨sqT_up k.g ha, q _ G0 H (Same.refl _) k hv⟩⟩
theorem ev_tupO {p : Addr} {vs : List V} (hp : M1 p = some (.lst vs)) (hd : DqAll K G vs ds) (ha : EvA (tCons ta tNil) σ G M M1 (conP (OW p) nilP)) : Ev (tCB (rTupOf K) (tCons ta tNil)) σ G M M1 (DD K (.tuple ds)) := ev_cb ha fun xs G0 H s k hx Q q => by
  obtain ⟨v, rfl, hv⟩ := one_of (R := nilP) hx
  cases hv
  exact ⟨p, vs, rfl, .inl ⟨.inl (.inl (k.m _ _ hp)), newT (Same.refl _) k (dpAll_up s _ hd) q⟩⟩
theorem ev_lenL (ha : EvA (tCons ta tNil) σ G M M1 (conP (DD K (.list ds)) nilP)) : Ev (tCB (rLen K) (tCons ta tNil)) σ G M M1 (DD K (.int (ds.length : Int))) := ev_cb ha fun xs G0 H s k hx Q q => by
  obtain ⟨v, rfl, hv⟩ := one_of (R := nilP) hx
  obtain ⟨a, vs, rfl, ha, hb⟩ := dp_list hv
  refine ⟨a, vs, rfl, .inl (.inl (.inl (k.g _ _ ha))), q _ G0 H (Same.refl _) k ?_⟩
  rw [dpAll_len hb]
  exact .int _
theorem ev_lenT (ha : EvA (tCons ta tNil) σ G M M1 (conP (DD K (.tuple ds)) nilP)) : Ev (tCB (rLen K) (tCons ta tNil)) σ G M M1 (DD K (.int (ds.length : Int))) := ev_cb ha fun xs G0 H s k hx Q q => by
  obtain ⟨v, rfl, hv⟩ := one_of (R := nilP) hx
  obtain ⟨a, vs, rfl, ha, hb⟩ := dp_tuple hv
  refine ⟨a, vs, rfl, .inr (sqT_up k.g ha), q _ G0 H (Same.refl _) k ?_⟩
  rw [dpAll_len hb]
  exact .int _
theorem ev_lenO {p : Addr} {vs : List V} (hp : M1 p = some (.lst vs)) (hd : DqAll K G vs ds) (ha : EvA (tCons ta tNil) σ G M M1 (conP (OW p) nilP)) : Ev (tCB (rLen K) (tCons ta tNil)) σ G M M1 (DD K (.int (ds.length : Int))) := ev_cb ha fun xs G0 H s k hx Q q => by
  obtain ⟨v, rfl, hv⟩ := one_of (R := nilP) hx
  cases hv
  refine ⟨p, vs, rfl, .inl (.inl (.inl (k.m _ _ hp))), q _ G0 H (Same.refl _) k ?_⟩
  rw [dpAll_len hd]
  exact .int _
theorem ev_sumL {ns : List Int} (ha : EvA (tCons ta tNil) σ G M M1 (conP (DD K (.list (ns.map Dat.int))) nilP)) : Ev (tCB (rSum K) (tCons ta tNil)) σ G M M1 (DD K (.int ns.sum)) := ev_cb ha fun xs G0 H s k hx Q q => by
  obtain ⟨v, rfl, hv⟩ := one_of (R := nilP) hx
  obtain ⟨a, vs, rfl, ha, hb⟩ := dp_list hv
  rw [dpAll_ints hb] at ha
  exact ⟨a, ns, rfl, .inl (.inl (k.g _ _ ha)), q _ G0 H (Same.refl _) k (.int _)⟩
theorem ev_anyL {bs : List Bool} (ha : EvA (tCons ta tNil) σ G M M1 (conP (DD K (.list (bs.map Dat.bool))) nilP)) : Ev (tCB (rAny K) (tCons ta tNil)) σ G M M1 (DD K (.bool (bs.any id))) := ev_cb ha fun xs G0 H s k hx Q q => by
  obtain ⟨v, rfl, hv⟩ := one_of (R := nilP) hx
  obtain ⟨a, vs, rfl, ha, hb⟩ := dp_list hv
  rw [dpAll_bls hb] at ha
  exact ⟨a, bs, rfl, .inl (.inl (k.g _ _ ha)), q _ G0 H (Same.refl _) k (.bl _)⟩
theorem ev_allL {bs : List Bool} (ha : EvA (tCons ta tNil) σ G M M1 (conP (DD K (.list (bs.map Dat.bool))) nilP)) : Ev (tCB (rAll K) (tCons ta tNil)) σ G M M1 (DD K (.bool (bs.all id))) := ev_cb ha fun xs G0 H s k hx Q q => by
  obtain ⟨v, rfl, hv⟩ := one_of (R := nilP) hx
  obtain ⟨a, vs, rfl, ha, hb⟩ := dp_list hv
  rw [dpAll_bls hb] at ha
  exact ⟨a, bs, rfl, .inl (.inl (k.g _ _ ha)), q _ G0 H (Same.refl _) k (.bl _)⟩
def rInt1 : List V → Hp → VK → Prop := fun xs H Q => (∃ i, xs = [.int i] ∧ Q (.int i) H) ∨ ∃ k, xs = [.bl k] ∧ Q (.int (if k then 1 else 0)) H
theorem ev_intB {b : Bool} (ha : EvA (tCons ta tNil) σ G M M1 (conP (DD K (.bool b)) nilP)) : Ev (tCB rInt1 (tCons ta tNil)) σ G M M1 (DD K (.int (if b then 1 else 0))) := ev_cb ha fun xs G0 H s k hx Q q => by
  obtain ⟨v, rfl, hv⟩ := one_of (R := nilP) hx
  cases hv
  exact .inr ⟨b, rfl, q _ G0 H (Same.refl _) k (.int _)⟩
def rAbs : List V → Hp → VK → Prop := fun xs H Q => ∃ i, xs = [.int i] ∧ Q (.int (if i < 0 then -i else i)) H
theorem ev_abs {i : Int} (ha : EvA (tCons ta tNil) σ G M M1 (conP (DD K (.int i)) nilP)) : Ev (tCB rAbs (tCons ta tNil)) σ G M M1 (DD K (.int (if i < 0 then -i else i))) := ev_cb ha fun xs G0 H s k hx Q q => by
  obtain ⟨v, rfl, hv⟩ := one_of (R := nilP) hx
  cases hv
  exact ⟨i, rfl, q _ G0 H (Same.refl _) k (.int _)⟩
def rMaxI : List V → Hp → VK → Prop := fun xs H Q => ∃ i j, xs = [.int i, .int j] ∧ Q (.int (if j > i then j else i)) H
def rMinI : List V → Hp → VK → Prop := fun xs H Q => ∃ i j, xs = [.int i, .int j] ∧ Q (.int (if j < i then j else i)) H
theorem two_of {xs : List V} {G : Hp} (h : conP P (conP P1 nilP) xs G) : ∃ v w, xs = [v, w] ∧ P v G ∧ P1 w G := by
  obtain ⟨v, r, rfl, hp, hr⟩ := h
  obtain ⟨w, r, rfl, hq, hr⟩ := hr
  cases hr
  exact ⟨v, w, rfl, hp, hq⟩
theorem ev_max2 {i j : Int} (ha : EvA (tCons ta (tCons tb tNil)) σ G M M1 (conP (DD K (.int i)) (conP (DD K (.int j)) nilP))) : Ev (tCB rMaxI (tCons ta (tCons tb tNil))) σ G M M1 (DD K (.int (if j > i then j else i))) := ev_cb ha fun xs G0 H s k hx Q q => by
  obtain ⟨v, w, rfl, hv, hw⟩ := two_of hx
  cases hv; cases hw
  exact ⟨i, j, rfl, q _ G0 H (Same.refl _) k (.int _)⟩
theorem ev_min2 {i j : Int} (ha : EvA (tCons ta (tCons tb tNil)) σ G M M1 (conP (DD K (.int i)) (conP (DD K (.int j)) nilP))) : Ev (tCB rMinI (tCons ta (tCons tb tNil))) σ G M M1 (DD K (.int (if j < i then j else i))) := ev_cb ha fun xs G0 H s k hx Q q => by
  obtain ⟨v, w, rfl, hv, hw⟩ := two_of hx
  cases hv; cases hw
  exact ⟨i, j, rfl, q _ G0 H (Same.refl _) k (.int _)⟩
def rDivmod : List V → Hp → VK → Prop := fun xs H Q => ∃ i j, xs = [.int i, .int j] ∧ CDivW i j ∧ ∀ p, H p = none → Q (.ref p) (upd H p (.tup [.int (i / j), .int (i % j)]))
theorem ev_divmod {i j : Int} (hc : CDivW i j) (ha : EvA (tCons ta (tCons tb tNil)) σ G M M1 (conP (DD K (.int i)) (conP (DD K (.int j)) nilP))) : Ev (tCB rDivmod (tCons ta (tCons tb tNil))) σ G M M1 (DD K (.tuple [.int (i / j), .int (i % j)])) := ev_cb ha fun xs G0 H s k hx Q q => by
  obtain ⟨v, w, rfl, hv, hw⟩ := two_of hx
  cases hv; cases hw
  exact ⟨i, j, rfl, hc, newT (Same.refl _) k (.cons (.int _) (.cons (.int _) .nil)) q⟩

/-! ### isinstance -/
def tyD : Dat → String
  | .none => "NoneType"
  | .bool _ => "bool"
  | .int _ => "int"
  | .str _ => "str"
  | .list _ => "list"
  | .tuple _ => "tuple"
  | .dK _ _ => "dict"
  | .dT _ _ => "dict"
  | .ins _ _ _ => "object"
def isIns : Dat → Bool
  | .ins _ _ _ => true
  | _ => false
/-- what the library asks of an own class -/
structure ClsOk (K : PySem.W.Frag) (C : Addr) : Prop where
  cl : Cls K C
  ha : PySem.W.findIn K (.ref C) "__class__" = some (some (.builtin "object.__class__"))
  hn : PySem.W.specialIn K (.builtin "object.__class__") "__get__" = some (some (.builtin "getset_descriptor.__get__"))
  htk : PySem.W.takesIn K (.builtin "object.__class__") = some true
  hm : PySem.W.mroIn K C (.type "object") = some true
/-- the classes of the instances in d are known -/
def tyV : Dat → Value
  | .ins C _ _ => .ref C
  | d => .type (tyD d)
theorem tyx_of {H : Hp} {v : V} (s : Same G H) (hc : ∀ C ns xs, d = .ins C ns xs → ClsOk K C) (h : Dq K G v d) : TyX K H v (tyV d) := by
  cases h with
  | non => exact .base .non
  | bl b => exact .base (.bl b)
  | int i => exact .base (.int i)
  | str x => exact .base (.str _)
  | lst a b => exact .base (.lst (s _ _ a))
  | tup a b =>
    rcases a with (a | ⟨o, a⟩) | ⟨o, its, n, h1, h2, h3, h4, h5⟩
    · exact .base (.tup (s _ _ a))
    · exact .fTuple (s _ _ a)
    · exact .kTuple h1 h2
  | dK a _ _ _ => exact .base (.dK (s _ _ a))
  | dT a _ _ _ => exact .base (.dT (s _ _ a))
  | ins a b c =>
    have q := hc _ _ _ rfl
    exact .base (.ins (s _ _ a) q.cl q.ha q.hn q.htk q.hm)
theorem tyV_of (h : isIns d = false) : tyV d = .type (tyD d) := by
  cases d <;> first | rfl | cases h
theorem noIns (h : isIns d = false) : ∀ C ns xs, d = .ins C ns xs → ClsOk K C := fun C ns xs e => by subst e; cases h
/-- a class's name among the arguments -/
abbrev CLS (n : String) : VP := fun v _ => v = .ty n
theorem mo_cls {n : String} : Mo (CLS n) := fun _ _ _ _ h => h
theorem ev_cls {n : String} : Ev (tC (.ty n)) σ G M M (CLS n) := fun G0 H _ k Q q => q _ G0 H (Same.refl _) k rfl
theorem ev_isi {n : String} {b : Bool} (hi : isIns d = false) (hb : kitB (tyD d) n = some b) (ha : EvA (tCons ta (tCons tb tNil)) σ G M M1 (conP (DD K d) (conP (CLS n) nilP))) : Ev (tCB (rIsi K) (tCons ta (tCons tb tNil))) σ G M M1 (DD K (.bool b)) := ev_cb ha fun xs G0 H s k hx Q q => by
  obtain ⟨v, w, rfl, hv, hw⟩ := two_of hx
  cases hw
  exact ⟨v, _, _, _, b, rfl, .ty n, tyV_of hi ▸ tyx_of k.g (noIns hi) hv, kit_ty hb, q _ G0 H (Same.refl _) k (.bl _)⟩

/-! ### truth -/
theorem et_B {b : Bool} (h : Ev te σ G M M1 (DD K (.bool b))) : EvT (tB te) σ G M M1 b := fun G0 H s k Q q => h G0 H s k _ fun v G1 H1 s1 k1 hv => by
  cases hv
  exact ⟨b, rfl, q G1 H1 s1 k1⟩
theorem et_test {b : Bool} (h : Ev te σ G M M1 (DD K (.bool b))) : EvT (tTest te) σ G M M1 b := fun G0 H s k Q q => h G0 H s k _ fun v G1 H1 s1 k1 hv => by
  cases hv
  exact ⟨b, rfl, q G1 H1 s1 k1⟩
theorem et_not {t : TT} {b : Bool} (h : EvT t σ G M M1 b) : EvT (tNot t) σ G M M1 (!b) := fun G0 H s k Q q => h G0 H s k _ fun G1 H1 s1 k1 => q G1 H1 s1 k1
theorem et_andG {t u : TT} {a c : Bool} (h : EvT t σ G M M1 a) (h1 : a = true → EvT u σ G M1 M2 c) (h2 : a = false → c = false ∧ M2 = M1) : EvT (tAnd t u) σ G M M2 c := fun G0 H s k Q q => h G0 H s k _ fun G1 H1 s1 k1 => by
  cases a with
  | true => exact iteT (h1 rfl G1 H1 (s.trans s1) k1 Q fun G2 H2 s2 k2 => q G2 H2 (s1.trans s2) k2)
  | false =>
    obtain ⟨rfl, rfl⟩ := h2 rfl
    exact iteF (q G1 H1 s1 k1)
theorem et_orG {t u : TT} {a c : Bool} (h : EvT t σ G M M1 a) (h1 : a = false → EvT u σ G M1 M2 c) (h2 : a = true → c = true ∧ M2 = M1) : EvT (tOr t u) σ G M M2 c := fun G0 H s k Q q => h G0 H s k _ fun G1 H1 s1 k1 => by
  cases a with
  | false => exact iteF (h1 rfl G1 H1 (s.trans s1) k1 Q fun G2 H2 s2 k2 => q G2 H2 (s1.trans s2) k2)
  | true =>
    obtain ⟨rfl, rfl⟩ := h2 rfl
    exact iteT (q G1 H1 s1 k1)
theorem et_and {t u : TT} {a b : Bool} (h : EvT t σ G M M1 a) (h1 : a = true → EvT u σ G M1 M1 b) : EvT (tAnd t u) σ G M M1 (a && b) := et_andG h (fun e => by rw [e]; exact h1 e) fun e => by rw [e]; exact ⟨rfl, rfl⟩
theorem et_or {t u : TT} {a b : Bool} (h : EvT t σ G M M1 a) (h1 : a = false → EvT u σ G M1 M1 b) : EvT (tOr t u) σ G M M1 (a || b) := et_orG h (fun e => by rw [e]; exact h1 e) fun e => by rw [e]; exact ⟨rfl, rfl⟩
theorem ev_andG {a c : Bool} (h : Ev ta σ G M M1 (DD K (.bool a))) (h1 : a = true → Ev tb σ G M1 M2 (DD K (.bool c))) (h2 : a = false → c = false ∧ M2 = M1) : Ev (tAndV ta tb) σ G M M2 (DD K (.bool c)) := fun G0 H s k Q q => h G0 H s k _ fun v G1 H1 s1 k1 hv => by
  cases hv
  refine ⟨a, rfl, ?_⟩
  cases a with
  | true => exact iteT (h1 rfl G1 H1 (s.trans s1) k1 Q fun v G2 H2 s2 k2 => q v G2 H2 (s1.trans s2) k2)
  | false =>
    obtain ⟨rfl, rfl⟩ := h2 rfl
    exact iteF (q _ G1 H1 s1 k1 (.bl _))
theorem ev_orG {a c : Bool} (h : Ev ta σ G M M1 (DD K (.bool a))) (h1 : a = false → Ev tb σ G M1 M2 (DD K (.bool c))) (h2 : a = true → c = true ∧ M2 = M1) : Ev (tOrV ta tb) σ G M M2 (DD K (.bool c)) := fun G0 H s k Q q => h G0 H s k _ fun v G1 H1 s1 k1 hv => by
  cases hv
  refine ⟨a, rfl, ?_⟩
  cases a with
  | false => exact iteF (h1 rfl G1 H1 (s.trans s1) k1 Q fun v G2 H2 s2 k2 => q v G2 H2 (s1.trans s2) k2)
  | true =>
    obtain ⟨rfl, rfl⟩ := h2 rfl
    exact iteT (q _ G1 H1 s1 k1 (.bl _))
theorem ev_and {a b : Bool} (h : Ev ta σ G M M1 (DD K (.bool a))) (h1 : a = true → Ev tb σ G M1 M1 (DD K (.bool b))) : Ev (tAndV ta tb) σ G M M1 (DD K (.bool (a && b))) := ev_andG h (fun e => by rw [e]; exact h1 e) fun e => by rw [e]; exact ⟨rfl, rfl⟩
theorem ev_or {a b : Bool} (h : Ev ta σ G M M1 (DD K (.bool a))) (h1 : a = false → Ev tb σ G M1 M1 (DD K (.bool b))) : Ev (tOrV ta tb) σ G M M1 (DD K (.bool (a || b))) := ev_orG h (fun e => by rw [e]; exact h1 e) fun e => by rw [e]; exact ⟨rfl, rfl⟩
theorem ev_not {a : Bool} (h : Ev ta σ G M M1 (DD K (.bool a))) : Ev (tNotV ta) σ G M M1 (DD K (.bool (!a))) := fun G0 H s k Q q => h G0 H s k _ fun v G1 H1 s1 k1 hv => by
  cases hv
  exact ⟨a, rfl, q _ G1 H1 s1 k1 (.bl _)⟩
theorem ev_if {t : TT} {b : Bool} (h : EvT t σ G M M1 b) (h1 : b = true → Ev ta σ G M1 M2 P) (h2 : b = false → Ev tb σ G M1 M2 P) : Ev (tIf t ta tb) σ G M M2 P := fun G0 H s k Q q => h G0 H s k _ fun G1 H1 s1 k1 => by
  cases b with
  | true => exact iteT (h1 rfl G1 H1 (s.trans s1) k1 Q fun v G2 H2 s2 k2 => q v G2 H2 (s1.trans s2) k2)
  | false => exact iteF (h2 rfl G1 H1 (s.trans s1) k1 Q fun v G2 H2 s2 k2 => q v G2 H2 (s1.trans s2) k2)
/-- a <= b <= c of whole numbers, and its kin -/
theorem ev_chainI {g g' : Int → Int → Bool} {i j l : Int} (ha : Ev ta σ G M M1 (DD K (.int i))) (hb : Ev tb σ G M1 M2 (DD K (.int j))) (hc : Ev tc σ G M2 M2 (DD K (.int l))) :
    Ev (tChain (rI0 fun i j => .bl (g i j)) (rI0 fun i j => .bl (g' i j)) ta tb tc) σ G M M2 (DD K (.bool (g i j && g' j l))) := fun G0 H s k Q q =>
  ha G0 H s k _ fun x G1 H1 s1 k1 hx => hb G1 H1 (s.trans s1) k1 _ fun y G2 H2 s2 k2 hy => by
    cases hx; cases hy
    refine ⟨i, j, rfl, rfl, g i j, rfl, ?_⟩
    cases e : g i j with
    | true =>
      refine iteT (hc G2 H2 ((s.trans s1).trans s2) k2 _ fun z G3 H3 s3 k3 hz => ?_)
      cases hz
      refine ⟨j, l, rfl, rfl, ?_⟩
      rw [e] at q
      exact q _ G3 H3 ((s1.trans s2).trans s3) k3 (.bl _)
    | false =>
      rw [e] at q
      exact iteF (q _ G2 H2 (s1.trans s2) k2 (.bl _))

/-! ### calls -/
/-- the promise of a def that leaves all as it is: m tells its value -/
def spP {α ρ : Type} (args : α → List V → Hp → Prop) (m : α → Option ρ) (res : ρ → VP) : Sp := fun vs H Q _ =>
  ∃ (G M : Hp) (a : α) (r : ρ), Ok G M H ∧ args a vs G ∧ m a = some r ∧ ∀ v G' H', Same G G' → Ok G' M H' → res r v G' → Q v H'
/-- the store of the draws -/
abbrev Sto := Int × Int × Int
def sto (z : Sto) : HO := .lst [.int z.1, .int z.2.1, .int z.2.2]
/-- the promise of a def that draws from the store -/
def spD {α ρ : Type} (args : α → List V → Hp → Prop) (m : α → Sto → Option (ρ × Sto)) (res : ρ → VP) : Sp := fun vs H Q _ =>
  ∃ (G M : Hp) (s : Addr) (z z' : Sto) (a : α) (r : ρ) (ws : List V), vs = .ref s :: ws ∧ Ok G M H ∧ M s = some (sto z) ∧ args a ws G ∧ m a z = some (r, z') ∧ ∀ v G' H', Same G G' → Ok G' (upd M s (sto z')) H' → res r v G' → Q v H'
theorem ev_callP {α ρ : Type} {args : α → List V → Hp → Prop} {m : α → Option ρ} {res : ρ → VP} {E : XK} {t : TA} {a : α} {r : ρ} (hm : m a = some r) (ha : EvA t σ G M M1 (args a)) : Ev (tCall (spP args m res) [] E t) σ G M M1 (res r) := fun G0 H s k Q q =>
  ha G0 H s k _ fun vs G1 H1 s1 k1 hv => by
    rw [List.append_nil]
    exact ⟨G1, M1, a, r, k1, hv, hm, fun v G2 H2 s2 k2 hr => q v G2 H2 (s1.trans s2) k2 hr⟩
theorem ev_callD {α ρ : Type} {args : α → List V → Hp → Prop} {m : α → Sto → Option (ρ × Sto)} {res : ρ → VP} {E : XK} {t : TA} {a : α} {r : ρ} {s : Addr} {z z' : Sto} (hs : M1 s = some (sto z)) (hm : m a z = some (r, z')) (ha : EvA t σ G M M1 (conP (OW s) (args a))) : Ev (tCall (spD args m res) [] E t) σ G M (upd M1 s (sto z')) (res r) := fun G0 H s k Q q =>
  ha G0 H s k _ fun vs G1 H1 s1 k1 hv => by
    obtain ⟨v, ws, rfl, rfl, hw⟩ := hv
    rw [List.append_nil]
    exact ⟨G1, M1, _, z, z', a, r, ws, rfl, k1, hs, hw, hm, fun v G2 H2 s2 k2 hr => q v G2 H2 (s1.trans s2) k2 hr⟩

end
end Kx

end

section
set_option maxHeartbeats 2000000
namespace Kx
open PySem L2
/-! ### the rules under these names -/
section
variable {X : Cx}
theorem cl_len : CallR X (.builtin "len") (rLen X.K) := call_len_seq
theorem cl_list : CallR X (.type "list") (rListOf X.K) := call_list_of
theorem cl_tuple : CallR X (.type "tuple") (rTupOf X.K) := call_tuple_of
theorem cl_int : CallR X (.type "int") rInt1 := call_int1
theorem cl_abs : CallR X (.builtin "abs") rAbs := call_abs
theorem cl_max2 (h : X.calm = true) : CallR X (.builtin "max") rMaxI := call_max2 h
theorem cl_min2 (h : X.calm = true) : CallR X (.builtin "min") rMinI := call_min2 h
theorem cl_divmod : CallR X (.builtin "divmod") rDivmod := fun pins s σ H xs us Q I r h => by
  obtain ⟨i, j, rfl, hc, q⟩ := h
  exact call_divmodW pins s σ H _ us Q I r ⟨i, j, rfl, ⟨hc.1, PyProof.noPylong_of_log2 hc.2⟩, q⟩
end
section
variable {K : PySem.W.Frag} {σ : St} {G G' M M1 M2 M3 : Hp} {ta tb te tc : TE} {P P1 P2 : VP} {d e : Dat} {ds es : List Dat}
/-! ### what is walked -/
def Walks (K : PySem.W.Frag) (J : It) (G : Hp) (ds : List Dat) : Prop :=
  ∃ (Y : Nat → Hp → V → Hp → Prop) (Gd : Hp → Prop), Walk J ds.length Gd Y ∧ (∀ H, Same G H → Gd H) ∧
    ∀ i d H x H' G2 M2, ds[i]? = some d → Same G G2 → Ok G2 M2 H → Y i H x H' → ∃ G3, Same G2 G3 ∧ Ok G3 M2 H' ∧ Dq K G3 x d
def Src (K : PySem.W.Frag) (wi : TI) (σ : St) (G M M' : Hp) (ds : List Dat) : Prop :=
  ∀ G0 H, Same G G0 → Ok G0 M H → ∀ R : It → Hp → Prop, (∀ J G' H', Same G0 G' → Ok G' M' H' → Walks K J G' ds → R J H') → wi σ H R
theorem dqAll_at {vs : List V} {i : Nat} {x : V} (h : DqAll K G vs ds) (hx : vs[i]? = some x) (hd : ds[i]? = some d) : Dq K G x d := by
  obtain ⟨v, h1, h2⟩ := dpAll_get h hd
  rw [hx] at h1
  cases h1
  exact h2
theorem src_list (h : Ev ta σ G M M1 (DD K (.list ds))) : Src K (iList K ta) σ G M M1 ds := fun G0 H s k R q =>
  h G0 H s k _ fun v G1 H1 s1 k1 hv => by
    obtain ⟨a, vs, rfl, h1, h2⟩ := dp_list hv
    refine ⟨a, rfl, ⟨vs, .inl (.inl (k1.g _ _ h1))⟩, q _ G1 H1 s1 k1 ?_⟩
    refine ⟨_, _, (dpAll_len h2) ▸ (walk_list (K := K) (a := a) (xs := vs)), fun H s => .inl (.inl (s _ _ h1)), fun i d H x H' G2 M2 hd s2 k2 y => ?_⟩
    obtain ⟨rfl, hx⟩ := y
    exact ⟨G2, Same.refl _, k2, dp_up s2 _ (dqAll_at h2 hx hd)⟩
theorem src_tup (h : Ev ta σ G M M1 (DD K (.tuple ds))) : Src K (iTup K ta) σ G M M1 ds := fun G0 H s k R q =>
  h G0 H s k _ fun v G1 H1 s1 k1 hv => by
    obtain ⟨a, vs, rfl, h1, h2⟩ := dp_tuple hv
    refine ⟨a, rfl, ⟨vs, sqT_up k1.g h1⟩, q _ G1 H1 s1 k1 ?_⟩
    refine ⟨_, _, (dpAll_len h2) ▸ (walk_tup (K := K) (a := a) (xs := vs)), fun H s => sqT_up s h1, fun i d H x H' G2 M2 hd s2 k2 y => ?_⟩
    obtain ⟨rfl, hx⟩ := y
    exact ⟨G2, Same.refl _, k2, dp_up s2 _ (dqAll_at h2 hx hd)⟩
/-- lo, lo + 1, .. below hi -/
def irange (lo hi : Int) : List Int := (List.range (hi - lo).toNat).map fun k : Nat => lo + (k : Int)
theorem irange_len (lo hi : Int) : (irange lo hi).length = (hi - lo).toNat := by
  unfold irange
  rw [List.length_map, List.length_range]
theorem irange_get {lo hi : Int} {i : Nat} (h : i < (hi - lo).toNat) : (irange lo hi)[i]? = some (lo + (i : Int)) := by
  unfold irange
  rw [List.getElem?_map, List.getElem?_range h]
  rfl
theorem walks_range {lo hi : Int} {n : Nat} (e : n = (hi - lo).toNat) : Walks K (Itr lo n) G ((irange lo hi).map Dat.int) := by
  have el : ((irange lo hi).map Dat.int).length = n := by rw [List.length_map, irange_len, e]
  refine ⟨YFn fun i => .int (lo + i), fun _ => True, (by rw [el]; exact walk_range), fun H _ => True.intro, fun i d H x H' G2 M2 hd s2 k2 y => ?_⟩
  obtain ⟨rfl, rfl⟩ := y
  have hi : i < (hi - lo).toNat := by
    rw [← e, ← el]
    exact (List.getElem?_eq_some_iff.mp hd).1
  rw [List.getElem?_map, irange_get hi] at hd
  cases hd
  exact ⟨G2, Same.refl _, k2, .int _⟩
theorem src_range1 {ta : TA} {n : Int} (h1 : -(2 ^ 62) ≤ n) (h2 : n < 2 ^ 62) (h : EvA ta σ G M M1 (conP (DD K (.int n)) nilP)) : Src K (iRng1 ta) σ G M M1 ((irange 0 n).map Dat.int) := fun G0 H s k R q =>
  h G0 H s k _ fun vs G1 H1 s1 k1 hv => by
    obtain ⟨v, rfl, hw⟩ := one_of (R := nilP) hv
    cases hw
    exact ⟨n, rfl, h1, h2, q _ G1 H1 s1 k1 (walks_range (by rw [Int.sub_zero]))⟩
theorem src_range2 {ta : TA} {m n : Int} (h1 : -(2 ^ 62) ≤ m) (h2 : m < 2 ^ 62) (h3 : -(2 ^ 62) ≤ n) (h4 : n < 2 ^ 62) (h : EvA ta σ G M M1 (conP (DD K (.int m)) (conP (DD K (.int n)) nilP))) : Src K (iRng2 ta) σ G M M1 ((irange m n).map Dat.int) := fun G0 H s k R q =>
  h G0 H s k _ fun vs G1 H1 s1 k1 hv => by
    obtain ⟨v, w, rfl, hv1, hw1⟩ := two_of hv
    cases hv1; cases hw1
    exact ⟨m, n, rfl, ⟨h1, h2, h3, h4⟩, q _ G1 H1 s1 k1 (walks_range rfl)⟩
theorem sok_sign {z : Str} {c : Nat} (h : sok z = true) (hc : c ∈ z.cps.toList) : sok ⟨#[c]⟩ = true := by
  unfold sok PyData.strOk at h ⊢
  rw [Array.all_eq_true'] at h
  simp only [List.all_toArray, List.all_cons, List.all_nil, Bool.and_true, decide_eq_true_eq]
  have := h c (by simpa using hc)
  simpa using this
theorem src_str {z : Str} (h : Ev ta σ G M M1 (DD K (.str z))) : Src K (iStr ta) σ G M M1 (z.cps.toList.map fun c => Dat.str ⟨#[c]⟩) := fun G0 H s k R q =>
  h G0 H s k _ fun v G1 H1 s1 k1 hv => by
    have hs : sok z = true := by
      cases hv with
      | str h => exact h
    cases hv
    refine ⟨z, rfl, q _ G1 H1 s1 k1 ?_⟩
    have el : (z.cps.toList.map fun c => Dat.str ⟨#[c]⟩).length = z.cps.size := by simp
    refine ⟨_, _, el ▸ walk_str, fun H _ => True.intro, fun i d H x H' G2 M2 hd s2 k2 y => ?_⟩
    obtain ⟨rfl, c, hc, rfl⟩ := y
    have e1 : (z.cps.toList)[i]? = some c := by simpa using hc
    rw [List.getElem?_map, e1] at hd
    cases hd
    exact ⟨G2, Same.refl _, k2, .str (sok_sign hs (List.mem_of_getElem? e1))⟩
theorem walks_pair {J : It} {n : Nat} {xs ys : Nat → Option V} {Gd : Hp → Prop} (w : Walk J n Gd (YPair xs ys)) (hn : ds.length = n) (hG : ∀ H, Same G H → Gd H)
    (hd : ∀ (i : Nat) (d : Dat) (x y : V), ds[i]? = some d → xs i = some x → ys i = some y → ∃ d1 d2, d = .tuple [d1, d2] ∧ Dq K G x d1 ∧ Dq K G y d2) : Walks K J G ds := by
  refine ⟨_, _, hn ▸ w, hG, fun i d H x H' G2 M2 hi s2 k2 y => ?_⟩
  obtain ⟨T, x, y, rfl, hT, rfl, hx, hy⟩ := y
  obtain ⟨d1, d2, rfl, h1, h2⟩ := hd i d x y hi hx hy
  have gT := Same.none k2.g hT
  have s3 : Same G2 (upd G2 T (.tup [x, y])) := Same.new gT
  exact ⟨upd G2 T (.tup [x, y]), s3, k2.newG _ hT, .tup (.inl (.inl upd_same)) (.cons (dp_up (s2.trans s3) _ h1) (.cons (dp_up (s2.trans s3) _ h2) .nil))⟩
def enumD (ds : List Dat) : List Dat := ds.mapIdx fun i d => .tuple [.int (i : Int), d]
theorem src_enumL {ta : TA} (h : EvA ta σ G M M1 (conP (DD K (.list ds)) nilP)) : Src K (iEnum K ta) σ G M M1 (enumD ds) := fun G0 H s k R q =>
  h G0 H s k _ fun vs G1 H1 s1 k1 hv => by
    obtain ⟨v, rfl, hw⟩ := one_of (R := nilP) hv
    obtain ⟨a, vs, rfl, h1, h2⟩ := dp_list hw
    refine ⟨a, vs, rfl, .inl (.inl (k1.g _ _ h1)), q _ G1 H1 s1 k1 ?_⟩
    refine walks_pair (walk_enum (K := K) (a := a) (xs := vs)) (by simp [enumD, dpAll_len h2]) (fun H s => .inl (.inl (s _ _ h1))) fun i d x y hd hx hy => ?_
    cases hx
    unfold enumD at hd
    rw [List.getElem?_mapIdx] at hd
    cases e : ds[i]? with
    | none => rw [e] at hd; cases hd
    | some d' =>
      rw [e] at hd
      cases hd
      exact ⟨_, _, rfl, .int _, dqAll_at h2 hy e⟩
def zipD (ds es : List Dat) : List Dat := List.zipWith (fun a b => .tuple [a, b]) ds es
theorem zipD_get {i : Nat} {p : Dat} (h : (zipD ds es)[i]? = some p) : ∃ a b, p = .tuple [a, b] ∧ ds[i]? = some a ∧ es[i]? = some b := by
  unfold zipD at h
  rw [List.getElem?_zipWith] at h
  cases e1 : ds[i]? with
  | none => rw [e1] at h; cases h
  | some a =>
    cases e2 : es[i]? with
    | none => rw [e1, e2] at h; cases h
    | some b =>
      rw [e1, e2] at h
      cases h
      exact ⟨a, b, rfl, rfl, rfl⟩
theorem src_zipL {ta : TA} (h : EvA ta σ G M M1 (conP (DD K (.list ds)) (conP (DD K (.list es)) nilP))) : Src K (iZip K ta) σ G M M1 (zipD ds es) := fun G0 H s k R q =>
  h G0 H s k _ fun vs G1 H1 s1 k1 hv => by
    obtain ⟨v, w, rfl, hv1, hw1⟩ := two_of hv
    obtain ⟨a, vs, rfl, h1, h2⟩ := dp_list hv1
    obtain ⟨b, ws, rfl, h3, h4⟩ := dp_list hw1
    refine ⟨a, b, vs, ws, rfl, .inl (.inl (k1.g _ _ h1)), .inl (.inl (k1.g _ _ h3)), q _ G1 H1 s1 k1 ?_⟩
    refine walks_pair (walk_zip (K := K) (a := a) (b := b) (xs := vs) (ys := ws) rfl) (by simp [zipD, dpAll_len h2, dpAll_len h4]) (fun H s => ⟨.inl (.inl (s _ _ h1)), .inl (.inl (s _ _ h3))⟩) fun i d x y hd hx hy => ?_
    obtain ⟨p, q, rfl, e1, e2⟩ := zipD_get hd
    exact ⟨p, q, rfl, dqAll_at h2 hx e1, dqAll_at h4 hy e2⟩

/-! ### targets -/
def Tg (g : TG) (v : V) (σ : St) (G : Hp) (F : St → Prop) : Prop := ∀ H Q, Same G H → (∀ σ2, F σ2 → Q σ2 H) → g v σ H Q
def Tgs (g : TGs) (vs : List V) (σ : St) (G : Hp) (F : St → Prop) : Prop := ∀ H Q, Same G H → (∀ σ2, F σ2 → Q σ2 H) → g vs σ H Q
theorem tg_name {i : Nat} {v : V} {F : St → Prop} (h : F (σ.set i (some v))) : Tg (gName i) v σ G F := fun _ _ _ q => q _ h
theorem tgs_nil {F : St → Prop} (h : F σ) : Tgs gNil [] σ G F := fun _ _ _ q => ⟨rfl, q _ h⟩
theorem tgs_cons {g : TG} {gs : TGs} {v : V} {vs : List V} {F : St → Prop} (h : Tg g v σ G fun σ2 => Tgs gs vs σ2 G F) : Tgs (gCons g gs) (v :: vs) σ G F := fun H Q s q =>
  ⟨v, vs, rfl, h H _ s fun σ2 h2 => h2 H _ s q⟩
theorem tg_tup {n : Nat} {gs : TGs} {v : V} {F : St → Prop} (hv : Dq K G v (.tuple ds)) (hn : ds.length = n) (h : ∀ vs, DqAll K G vs ds → Tgs gs vs σ G F) : Tg (gTup K n gs) v σ G F := fun H Q s q => by
  obtain ⟨a, vs, rfl, h1, h2⟩ := dp_tuple hv
  exact ⟨a, vs, rfl, sqT_up s h1, by rw [dpAll_len h2]; exact hn, h vs h2 H Q s q⟩
theorem tg_t2 {g1 g2 : TG} {v : V} {F : St → Prop} {d1 d2 : Dat} (hv : Dq K G v (.tuple [d1, d2])) (h : ∀ v1 v2, Dq K G v1 d1 → Dq K G v2 d2 → Tg g1 v1 σ G fun σ1 => Tg g2 v2 σ1 G F) : Tg (gTup K 2 (gCons g1 (gCons g2 gNil))) v σ G F :=
  tg_tup hv rfl fun vs hs => by
    cases hs with
    | cons a b =>
      cases b with
      | cons b c =>
        cases c
        exact tgs_cons fun H Q s q => h _ _ a b H Q s fun σ1 h1 => q σ1 (tgs_cons fun H' Q' s' q' => h1 H' Q' s' fun σ2 h2 => q' σ2 (tgs_nil h2))
theorem tg_t3 {g1 g2 g3 : TG} {v : V} {F : St → Prop} {d1 d2 d3 : Dat} (hv : Dq K G v (.tuple [d1, d2, d3])) (h : ∀ v1 v2 v3, Dq K G v1 d1 → Dq K G v2 d2 → Dq K G v3 d3 → Tg g1 v1 σ G fun σ1 => Tg g2 v2 σ1 G fun σ2 => Tg g3 v3 σ2 G F) : Tg (gTup K 3 (gCons g1 (gCons g2 (gCons g3 gNil)))) v σ G F :=
  tg_tup hv rfl fun vs hs => by
    cases hs with
    | cons a b =>
      cases b with
      | cons b c =>
        cases c with
        | cons c d =>
          cases d
          exact tgs_cons fun H Q s q => h _ _ _ a b c H Q s fun σ1 h1 => q σ1 (tgs_cons fun H' Q' s' q' => h1 H' Q' s' fun σ2 h2 => q' σ2 (tgs_cons fun H'' Q'' s'' q'' => h2 H'' Q'' s'' fun σ3 h3 => q'' σ3 (tgs_nil h3)))

/-! ### comprehensions -/
/-- one turn's test and element: b the test's answer, o what is put behind (none: nothing) -/
def LcB (K : PySem.W.Frag) (tt : TT) (te : TE) (σ : St) (G M M' : Hp) (o : Option Dat) : Prop :=
  ∃ (M1 : Hp) (b : Bool), EvT tt σ G M M1 b ∧ (b = true → ∃ e, o = some e ∧ Ev te σ G M1 M' (DD K e)) ∧ (b = false → o = none ∧ M' = M1)
theorem lcb_yes (h : Ev te σ G M M1 (DD K e)) : LcB K tYes te σ G M M1 (some e) := ⟨M, true, fun G0 H _ k Q q => q G0 H (Same.refl _) k, fun _ => ⟨e, rfl, h⟩, fun z => Bool.noConfusion z⟩
theorem lcb_if {tt : TT} {b : Bool} {o : Option Dat} (h : EvT tt σ G M M1 b) (h1 : b = true → ∃ e, o = some e ∧ Ev te σ G M1 M2 (DD K e)) (h2 : b = false → o = none ∧ M2 = M1) : LcB K tt te σ G M M2 o := ⟨M1, b, h, h1, h2⟩
/-- the general form: mm tells what may be changed, by the turn -/
theorem el_lcG {wi : TI} {g : TG} {tt : TT} {vs : List Nat} (src : Src K wi σ G M M1 ds) (os : List (Option Dat)) (mm : Nat → Hp) (hm0 : mm 0 = M1) (hmn : mm ds.length = M2) (hdom : ∀ i a, (mm i a).isSome = (M1 a).isSome) (hl : os.length = ds.length) (hz : ds.length ≤ sizeLine)
    (hs : ∀ (i : Nat) (d : Dat) (o : Option Dat) (D : Addr) (acc : List V) (G1 : Hp) (v : V), ds[i]? = some d → os[i]? = some o → M1 D = none → Same G G1 → Dq K G1 v d →
      Tg g v (wipe σ vs) G1 fun σ2 => wipe σ2 vs = wipe σ vs ∧ LcB K tt te σ2 G1 (upd (mm i) D (.lst acc)) (upd (mm (i + 1)) D (.lst acc)) o) :
    EvL K (tLc wi g tt te vs) σ G M M2 (os.filterMap id) := by
  intro G0 H s k Q q
  refine src G0 H s k _ fun J G1 H1 s1 k1 w => ?_
  obtain ⟨Y, Gd, w, hGd, hY⟩ := w
  intro D hD
  have mD : M1 D = none := Same.none k1.m hD
  have none_at : ∀ i, mm i D = none := fun i => by
    have := hdom i D
    rw [mD] at this
    cases e : mm i D with
    | none => rfl
    | some _ => rw [e] at this; cases this
  refine lc_it w (fun i H => ∃ G2 acc, Same G1 G2 ∧ Ok G2 (upd (mm i) D (.lst acc)) H ∧ DqAll K G2 acc ((os.take i).filterMap id)) ?_ ?_ ?_ ?_
  · refine ⟨G1, [], Same.refl _, ?_, .nil⟩
    rw [hm0]
    exact k1.newM _ hD
  · rintro i H2 _ ⟨G2, acc, s2, k2, _⟩
    exact hGd H2 (s2.trans k2.g)
  · rintro i x H2 H3 hi ⟨G2, acc, s2, k2, hacc⟩ y
    obtain ⟨d, hd⟩ : ∃ d, ds[i]? = some d := ⟨ds[i], List.getElem?_eq_getElem hi⟩
    obtain ⟨o, ho⟩ : ∃ o, os[i]? = some o := ⟨os[i]'(by omega), List.getElem?_eq_getElem (by omega)⟩
    obtain ⟨G3, s3, k3, hx⟩ := hY i d H2 x H3 G2 _ hd s2 k2 y
    refine hs i d o D acc G3 x hd ho mD (((s.trans s1).trans s2).trans s3) hx H3 _ k3.g ?_
    rintro σ2 ⟨hw, Mx, b, h1, h2, h3⟩
    refine ⟨hw, h1 G3 H3 (Same.refl _) k3 _ fun G4 H4 s4 k4 => ?_⟩
    have et : (os.take (i + 1)).filterMap id = (os.take i).filterMap id ++ o.toList := by
      rw [List.take_add_one, ho, List.filterMap_append]
      cases o <;> rfl
    cases b with
    | true =>
      obtain ⟨e, rfl, he⟩ := h2 rfl
      refine iteT (he G4 H4 s4 k4 _ fun z G5 H5 s5 k5 hz5 => ?_)
      refine ⟨acc, k5.m _ _ upd_same, ?_, ?_⟩
      · rw [dpAll_len hacc]
        refine Nat.lt_of_le_of_lt (List.length_filterMap_le _ _) ?_
        rw [List.length_take]
        omega
      · refine ⟨G5, acc ++ [z], ((s2.trans s3).trans s4).trans s5, ?_, ?_⟩
        · have := k5.chg (p := D) (u := .lst acc) (.lst (acc ++ [z])) upd_same
          rw [upd_upd] at this
          exact this
        · rw [et]
          exact dpAll_app (dpAll_up ((s3.trans s4).trans s5) _ hacc) (.cons hz5 .nil)
    | false =>
      obtain ⟨rfl, e2⟩ := h3 rfl
      subst e2
      refine iteF ⟨G4, acc, (s2.trans s3).trans s4, k4, ?_⟩
      rw [et, show (none : Option Dat).toList = [] from rfl, List.append_nil]
      exact dpAll_up (s3.trans s4) _ hacc
  · rintro H2 ⟨G2, acc, s2, k2, hacc⟩
    have e1 : os.take ds.length = os := by rw [← hl, List.take_length]
    rw [e1] at hacc
    have := none_at ds.length
    rw [hmn] at k2 this
    exact q D acc G2 H2 (s1.trans s2) k2 this hacc
/-- nothing is changed by the turns, no test -/
theorem el_lc {wi : TI} {g : TG} {vs : List Nat} (src : Src K wi σ G M M1 ds) (es : List Dat) (hl : es.length = ds.length) (hz : ds.length ≤ sizeLine)
    (hs : ∀ (i : Nat) (d e : Dat) (Mx G1 : Hp) (v : V), ds[i]? = some d → es[i]? = some e → Same M1 Mx → Same G G1 → Dq K G1 v d → Tg g v (wipe σ vs) G1 fun σ2 => wipe σ2 vs = wipe σ vs ∧ Ev te σ2 G1 Mx Mx (DD K e)) :
    EvL K (tLc wi g tYes te vs) σ G M M1 es := by
  have := el_lcG (tt := tYes) (te := te) (g := g) (vs := vs) (M2 := M1) src (es.map some) (fun _ => M1) rfl rfl (fun _ _ => rfl) (by rw [List.length_map]; exact hl) hz fun i d o D acc G1 v hd ho hD s hv => by
    rw [List.getElem?_map] at ho
    cases e : es[i]? with
    | none => rw [e] at ho; cases ho
    | some e' =>
      rw [e] at ho
      cases ho
      exact fun H Q sg q => hs i d e' (upd M1 D (.lst acc)) G1 v hd e (Same.new hD) s hv H Q sg fun σ2 h2 => q σ2 ⟨h2.1, lcb_yes h2.2⟩
  rw [List.filterMap_map, show (id ∘ some : Dat → Option Dat) = some from rfl, List.filterMap_some] at this
  exact this
/-- the turns draw: zs tells the store ahead of each -/
theorem el_lcD {wi : TI} {g : TG} {vs : List Nat} {s : Addr} {zs : Nat → Sto} (src : Src K wi σ G M M1 ds) (es : List Dat) (h0 : M1 s = some (sto (zs 0))) (hl : es.length = ds.length) (hz : ds.length ≤ sizeLine)
    (hs : ∀ (i : Nat) (d e : Dat) (Mx G1 : Hp) (v : V), ds[i]? = some d → es[i]? = some e → (∀ a o, a ≠ s → M1 a = some o → Mx a = some o) → Mx s = some (sto (zs i)) → Same G G1 → Dq K G1 v d → Tg g v (wipe σ vs) G1 fun σ2 => wipe σ2 vs = wipe σ vs ∧ Ev te σ2 G1 Mx (upd Mx s (sto (zs (i + 1)))) (DD K e)) :
    EvL K (tLc wi g tYes te vs) σ G M (upd M1 s (sto (zs ds.length))) es := by
  have := el_lcG (tt := tYes) (te := te) (g := g) (vs := vs) (M2 := upd M1 s (sto (zs ds.length))) src (es.map some) (fun i => upd M1 s (sto (zs i))) (upd_back h0) rfl (fun i a => by
    by_cases ha : a = s
    · subst ha; rw [upd_same, h0]; rfl
    · rw [upd_ne ha]) (by rw [List.length_map]; exact hl) hz fun i d o D acc G1 v hd ho hD sg hv => by
    rw [List.getElem?_map] at ho
    cases e : es[i]? with
    | none => rw [e] at ho; cases ho
    | some e' =>
      rw [e] at ho
      cases ho
      have nD : s ≠ D := ne_of_none h0 hD
      refine fun H Q sgh q => hs i d e' (upd (upd M1 s (sto (zs i))) D (.lst acc)) G1 v hd e (fun a o ha hm => ?_) ?_ sg hv H Q sgh fun σ2 h2 => q σ2 ⟨h2.1, lcb_yes ?_⟩
      · rw [upd_ne (ne_of_none hm hD), upd_ne ha]
        exact hm
      · rw [upd_ne nD, upd_same]
      · have h3 := h2.2
        rw [upd_comm (p := D) nD.symm, upd_upd] at h3
        exact h3
  rw [List.filterMap_map, show (id ∘ some : Dat → Option Dat) = some from rfl, List.filterMap_some] at this
  exact this

/-! ### statements -/
variable {D : Ends} {H : Hp} {u : TS}
theorem q_set {i : Nat} {σ' : V → St} (he : Ev te σ G M M1 P) (ok : Ok G M H) (hσ : ∀ v, σ.set i (some v) = σ' v) (k : ∀ v G' H', Same G G' → Ok G' M1 H' → P v G' → u D (σ' v) H') : tSeq (tAsg te (gName i)) u D σ H :=
  he G H (Same.refl _) ok _ fun v G1 H1 s1 k1 hv => by
    show u D (σ.set i (some v)) H1
    rw [hσ v]
    exact k v G1 H1 s1 k1 hv
theorem q_setL {i : Nat} {σ' : V → St} (he : EvL K te σ G M M1 ds) (ok : Ok G M H) (hσ : ∀ v, σ.set i (some v) = σ' v) (k : ∀ p vs G' H', Same G G' → Ok G' (upd M1 p (.lst vs)) H' → M1 p = none → DqAll K G' vs ds → u D (σ' (.ref p)) H') : tSeq (tAsg te (gName i)) u D σ H :=
  he G H (Same.refl _) ok _ fun p vs G1 H1 s1 k1 hp hv => by
    show u D (σ.set i (some (.ref p))) H1
    rw [hσ]
    exact k p vs G1 H1 s1 k1 hp hv
theorem q_ret (he : Ev te σ G M M1 P) (ok : Ok G M H) (k : ∀ v G' H', Same G G' → Ok G' M1 H' → P v G' → D.rt v H') : tSeq (tRet te) u D σ H :=
  he G H (Same.refl _) ok _ k
theorem q_expr (he : Ev te σ G M M1 P) (ok : Ok G M H) (k : ∀ G' H', Same G G' → Ok G' M1 H' → u D σ H') : tSeq (tDrop te) u D σ H :=
  he G H (Same.refl _) ok _ fun v G1 H1 s1 k1 _ => k G1 H1 s1 k1
theorem q_if {c : TT} {t t' : TS} {b : Bool} (hc : EvT c σ G M M1 b) (ok : Ok G M H) (h1 : b = true → ∀ G' H', Same G G' → Ok G' M1 H' → t { D with nx := u D } σ H') (h2 : b = false → ∀ G' H', Same G G' → Ok G' M1 H' → t' { D with nx := u D } σ H') : tSeq (tIfS c t t') u D σ H :=
  hc G H (Same.refl _) ok _ fun G1 H1 s1 k1 => by
    cases b with
    | true => exact iteT (h1 rfl G1 H1 s1 k1)
    | false => exact iteF (h2 rfl G1 H1 s1 k1)
/-- behind an if whose ways meet: J tells where -/
theorem q_ifJ {c : TT} {t t' : TS} {b : Bool} (J : St → Hp → Hp → Prop) (hc : EvT c σ G M M1 b) (ok : Ok G M H)
    (h1 : b = true → ∀ G' H' D', Same G G' → Ok G' M1 H' → D'.rt = D.rt → D'.bk = D.bk → D'.ct = D.ct → (∀ σ2 G2 M2 H2, Same G' G2 → Ok G2 M2 H2 → J σ2 G2 M2 → D'.nx σ2 H2) → t D' σ H')
    (h2 : b = false → ∀ G' H' D', Same G G' → Ok G' M1 H' → D'.rt = D.rt → D'.bk = D.bk → D'.ct = D.ct → (∀ σ2 G2 M2 H2, Same G' G2 → Ok G2 M2 H2 → J σ2 G2 M2 → D'.nx σ2 H2) → t' D' σ H')
    (k : ∀ σ2 G2 M2 H2, Same G G2 → Ok G2 M2 H2 → J σ2 G2 M2 → u D σ2 H2) : tSeq (tIfS c t t') u D σ H :=
  q_if hc ok (fun e G' H' s' k' => h1 e G' H' { D with nx := u D } s' k' rfl rfl rfl fun σ2 G2 M2 H2 s2 k2 j => k σ2 G2 M2 H2 (s'.trans s2) k2 j)
    (fun e G' H' s' k' => h2 e G' H' { D with nx := u D } s' k' rfl rfl rfl fun σ2 G2 M2 H2 s2 k2 j => k σ2 G2 M2 H2 (s'.trans s2) k2 j)
theorem q_nil (h : D.nx σ H) : tNext D σ H := h
theorem q_par {i j : Nat} {ta : TA} {σ' : V → V → St} (he : EvA ta σ G M M1 (conP P1 (conP P2 nilP))) (ok : Ok G M H) (hσ : ∀ v w, (σ.set i (some v)).set j (some w) = σ' v w) (k : ∀ v w G' H', Same G G' → Ok G' M1 H' → P1 v G' → P2 w G' → u D (σ' v w) H') : tSeq (tPar i j ta) u D σ H :=
  he G H (Same.refl _) ok _ fun vs G1 H1 s1 k1 hv => by
    obtain ⟨v, w, rfl, h1, h2⟩ := two_of hv
    refine ⟨v, w, rfl, ?_⟩
    show u D ((σ.set i (some v)).set j (some w)) H1
    rw [hσ]
    exact k v w G1 H1 s1 k1 h1 h2
/-- a target of names alone, by its own rule -/
theorem q_asg {g : TG} (F : Hp → V → St → Prop) (he : Ev te σ G M M1 P) (ok : Ok G M H) (hg : ∀ v G', Same G G' → P v G' → Tg g v σ G' (F G' v)) (k : ∀ v σ2 G' H', Same G G' → Ok G' M1 H' → P v G' → F G' v σ2 → u D σ2 H') : tSeq (tAsg te g) u D σ H :=
  he G H (Same.refl _) ok _ fun v G1 H1 s1 k1 hv => hg v G1 s1 hv H1 _ k1.g fun σ2 h2 => k v σ2 G1 H1 s1 k1 hv h2
theorem q_append {p : Addr} {vs : List V} (ho : Ev ta σ G M M (OW p)) (ha : EvA (tCons te tNil) σ G M M1 (conP (DD K d) nilP)) (hp0 : M p = some (.lst vs)) (hp : M1 p = some (.lst vs)) (hl : vs.length < sizeLine) (ok : Ok G M H)
    (k : ∀ v G' H', Same G G' → Ok G' (upd M1 p (.lst (vs ++ [v]))) H' → Dq K G' v d → u D σ H') : tSeq (tDrop (tBM K "list" rAppend ta (tCons te tNil))) u D σ H :=
  ho G H (Same.refl _) ok _ fun x G1 H1 s1 k1 hx => by
    cases hx
    refine ⟨.inl ⟨rfl, _, .inl (.inl (k1.m _ _ hp0))⟩, ha G1 H1 s1 k1 _ fun xs G2 H2 s2 k2 hv => ?_⟩
    obtain ⟨v, rfl, hw⟩ := one_of (R := nilP) hv
    exact ⟨p, vs, v, rfl, rfl, k2.m _ _ hp, hl, k v G2 _ (s1.trans s2) (k2.chg _ hp) hw⟩
theorem q_extend {p : Addr} {vs : List V} (ho : Ev ta σ G M M (OW p)) (ha : EvA (tCons te tNil) σ G M M1 (conP (DD K (.list ds)) nilP)) (hp0 : M p = some (.lst vs)) (hp : M1 p = some (.lst vs)) (hl : vs.length + ds.length ≤ sizeLine) (ok : Ok G M H)
    (k : ∀ ws G' H', Same G G' → Ok G' (upd M1 p (.lst (vs ++ ws))) H' → DqAll K G' ws ds → u D σ H') : tSeq (tDrop (tBM K "list" rExtend ta (tCons te tNil))) u D σ H :=
  ho G H (Same.refl _) ok _ fun x G1 H1 s1 k1 hx => by
    cases hx
    refine ⟨.inl ⟨rfl, _, .inl (.inl (k1.m _ _ hp0))⟩, ha G1 H1 s1 k1 _ fun xs G2 H2 s2 k2 hv => ?_⟩
    obtain ⟨v, rfl, hw⟩ := one_of (R := nilP) hv
    obtain ⟨a, ws, rfl, h1, h2⟩ := dp_list hw
    exact ⟨p, a, vs, ws, rfl, rfl, k2.m _ _ hp, k2.g _ _ h1, by rw [dpAll_len h2]; exact hl, k ws G2 _ (s1.trans s2) (k2.chg _ hp) h2⟩
/-- xs[i] = e, xs a list of one's own -/
theorem q_setItem {p : Addr} {vs : List V} {i : Int} {j : Nat} (he : Ev te σ G M M1 (DD K d)) (ho : Ev ta σ G M1 M1 (OW p)) (hi : Ev tb σ G M1 M2 (DD K (.int i))) (hp : M2 p = some (.lst vs)) (hj : ixN vs.length i = some j) (ok : Ok G M H)
    (k : ∀ v G' H', Same G G' → Ok G' (upd M2 p (.lst (vs.set j v))) H' → Dq K G' v d → u D σ H') : tSeq (tAsg te (gSub ta tb rSetL)) u D σ H :=
  he G H (Same.refl _) ok _ fun v G1 H1 s1 k1 hv => ho G1 H1 s1 k1 _ fun x G2 H2 s2 k2 hx => hi G2 H2 (s1.trans s2) k2 _ fun y G3 H3 s3 k3 hy => by
    cases hx; cases hy
    exact ⟨p, vs, i, j, rfl, rfl, k3.m _ _ hp, hj, k v G3 _ ((s1.trans s2).trans s3) (k3.chg _ hp) (dp_up (s2.trans s3) _ hv)⟩

/-! ### loops -/
theorem q_for {wi : TI} {g : TG} {tb : TS} (src : Src K wi σ G M M1 ds) (ok : Ok G M H) (J : Nat → St → Hp → Hp → Prop) (h0 : ∀ G', Same G G' → J 0 σ G' M1)
    (hs : ∀ i d v σ1 G1 M2 H1 (N : St → Hp → Prop), ds[i]? = some d → J i σ1 G1 M2 → Same G G1 → Ok G1 M2 H1 → Dq K G1 v d → (∀ σ2 G2 M3 H2, Same G1 G2 → Ok G2 M3 H2 → J (i + 1) σ2 G2 M3 → N σ2 H2) → g v σ1 H1 fun σ2 H2 => tb { D with nx := N, ct := N, bk := u D } σ2 H2)
    (hJ : ∀ i σ1 G1 G2 M2, J i σ1 G1 M2 → Same G1 G2 → J i σ1 G2 M2)
    (hd : ∀ σ1 G1 M2 H1, Same G G1 → Ok G1 M2 H1 → J ds.length σ1 G1 M2 → u D σ1 H1) : tSeq (tFor wi g tb) u D σ H := by
  refine src G H (Same.refl _) ok _ fun J' G1 H1 s1 k1 w => ?_
  obtain ⟨Y, Gd, w, hGd, hY⟩ := w
  refine for_it w (D := { D with nx := u D }) (fun i σ1 H2 => ∃ G2 M2, Same G1 G2 ∧ Ok G2 M2 H2 ∧ J i σ1 G2 M2) ⟨G1, M1, Same.refl _, k1, h0 G1 s1⟩ ?_ ?_ ?_
  · rintro i σ1 H2 _ ⟨G2, M2, s2, k2, _⟩
    exact hGd H2 (s2.trans k2.g)
  · rintro i x σ1 H2 H3 hi ⟨G2, M2, s2, k2, j⟩ y
    obtain ⟨d, hd'⟩ : ∃ d, ds[i]? = some d := ⟨ds[i], List.getElem?_eq_getElem hi⟩
    obtain ⟨G3, s3, k3, hx⟩ := hY i d H2 x H3 G2 M2 hd' s2 k2 y
    exact hs i d x σ1 G3 M2 H3 _ hd' (hJ i σ1 G2 G3 M2 j s3) ((s1.trans s2).trans s3) k3 hx fun σ2 G4 M4 H4 s4 k4 j4 => ⟨G4, M4, (s2.trans s3).trans s4, k4, j4⟩
  · rintro σ1 H2 ⟨G2, M2, s2, k2, j⟩
    exact hd σ1 G2 M2 H2 (s1.trans s2) k2 j
theorem q_while {c : TT} {tb : TS} (ok : Ok G M H) (J : Nat → St → Hp → Hp → Prop) (n : Nat) (h0 : J n σ G M)
    (hs : ∀ m σ1 G1 M2 H1, J m σ1 G1 M2 → Same G G1 → Ok G1 M2 H1 → ∃ (M3 : Hp) (b : Bool), EvT c σ1 G1 M2 M3 b ∧
      (b = true → ∀ G2 H2 (N : St → Hp → Prop), Same G1 G2 → Ok G2 M3 H2 → (∀ m' σ2 G3 M4 H3, m' < m → Same G2 G3 → Ok G3 M4 H3 → J m' σ2 G3 M4 → N σ2 H3) → tb { D with nx := N, ct := N, bk := u D } σ1 H2) ∧
      (b = false → ∀ G2 H2, Same G1 G2 → Ok G2 M3 H2 → u D σ1 H2)) : tSeq (tWhile c tb) u D σ H := by
  refine ⟨fun m σ1 H1 => ∃ G1 M1, Same G G1 ∧ Ok G1 M1 H1 ∧ J m σ1 G1 M1, ⟨n, G, M, Same.refl _, ok, h0⟩, ?_⟩
  rintro m σ1 H1 ⟨G1, M2, s1, k1, j⟩
  obtain ⟨M3, b, hc, ht, hf⟩ := hs m σ1 G1 M2 H1 j s1 k1
  refine hc G1 H1 (Same.refl _) k1 _ fun G2 H2 s2 k2 => ?_
  cases b with
  | true =>
    refine iteT ⟨fun σ' H' => ∃ m', m' < m ∧ ∃ G3 M4, Same G2 G3 ∧ Ok G3 M4 H' ∧ J m' σ' G3 M4, ?_, ?_⟩
    · rintro σ' H' ⟨m', hm', G3, M4, s3, k3, j3⟩
      exact ⟨m', hm', G3, M4, (s1.trans s2).trans s3, k3, j3⟩
    · exact ht rfl G2 H2 _ s2 k2 fun m' σ2 G3 M4 H3 hm' s3 k3 j3 => ⟨m', hm', G3, M4, s3, k3, j3⟩
  | false => exact iteF (hf rfl G2 H2 s2 k2)
end
end Kx

end

section
set_option maxHeartbeats 2000000
namespace Kx
open PySem L2
/-! ### the mirror's own words -/
theorem bs {α β : Type} {x : Option α} {f : α → Option β} {r : β} (h : x.bind f = some r) : ∃ a, x = some a ∧ f a = some r := by
  cases x with
  | none => cases h
  | some a => exact ⟨a, rfl, h⟩
theorem cond_t {α : Type} {b : Bool} {x y : α} {r : α} (e : b = true) (h : cond b x y = r) : x = r := by subst e; exact h
theorem cond_f {α : Type} {b : Bool} {x y : α} {r : α} (e : b = false) (h : cond b x y = r) : y = r := by subst e; exact h
instance (i j : Int) : Decidable (CMul i j) := by unfold CMul; exact inferInstance
instance (i j : Int) : Decidable (CDivN i j) := by unfold CDivN; exact inferInstance
instance (i j : Int) : Decidable (CDiv i j) := by unfold CDiv; exact inferInstance
instance (i j : Int) : Decidable (CPow i j) := by unfold CPow; exact inferInstance
def grd (p : Prop) [Decidable p] : Option Unit := if p then some () else none
theorem grd_of {p : Prop} [Decidable p] {u : Unit} (h : grd p = some u) : p := by
  unfold grd at h
  split at h
  · assumption
  · cases h
theorem grd_yes {p : Prop} [Decidable p] (h : p) : grd p = some () := by
  unfold grd
  rw [if_pos h]
def CMulO (i j : Int) : Prop := CMul i j ∨ CMulX i j
instance (i j : Int) : Decidable (CMulX i j) := by unfold CMulX; exact inferInstance
instance (i j : Int) : Decidable (CMulO i j) := by unfold CMulO; exact inferInstance
theorem op_mulO {X : Cx} : OpR X (binaryOp .Mult) (rI CMulO fun i j => .int (i * j)) := opI fun _ _ _ _ _ _ _ hc q => PyProof.Rows.mul_int q (hc.elim (fun h => h.ok) (fun h => h.ok))
def CDivO (i j : Int) : Prop := CDivN i j ∨ CDivW i j
instance (i j : Int) : Decidable (CDivW i j) := by unfold CDivW; exact inferInstance
instance (i j : Int) : Decidable (CDivO i j) := by unfold CDivO; exact inferInstance
theorem op_fdivO {X : Cx} : OpR X (binaryOp .FloorDiv) (rI CDivO fun i j => .int (i.fdiv j)) := by
  intro pins s σ H x y v u Q I rx ry h
  obtain ⟨i, j, rfl, rfl, hc, q⟩ := h
  rcases hc with hc | hc
  · exact op_fdivN pins s σ H _ _ v u Q I rx ry ⟨i, j, rfl, rfl, hc, q⟩
  · refine op_fdivW pins s σ H _ _ v u Q I rx ry ⟨i, j, rfl, rfl, hc, ?_⟩
    have e : i / j = i.fdiv j := (Int.fdiv_eq_ediv_of_nonneg i (by have := hc.1; omega)).symm
    show Q (.int (i / j)) H
    rw [e]
    exact q
def mulO (i j : Int) : Option Int := (grd (CMulO i j)).bind fun _ => some (i * j)
def fdivO (i j : Int) : Option Int := (grd (CDivO i j)).bind fun _ => some (i.fdiv j)
def modO (i j : Int) : Option Int := (grd (j ≠ 0)).bind fun _ => some (i.fmod j)
def powO (i j : Int) : Option Int := (grd (CPow i j)).bind fun _ => some (i ^ j.toNat)
theorem mulO_of {i j r : Int} (h : mulO i j = some r) : CMulO i j ∧ r = i * j := by
  obtain ⟨_, h1, h2⟩ := bs h
  exact ⟨grd_of h1, (Option.some.inj h2).symm⟩
theorem fdivO_of {i j r : Int} (h : fdivO i j = some r) : CDivO i j ∧ r = i.fdiv j := by
  obtain ⟨_, h1, h2⟩ := bs h
  exact ⟨grd_of h1, (Option.some.inj h2).symm⟩
theorem modO_of {i j r : Int} (h : modO i j = some r) : j ≠ 0 ∧ r = i.fmod j := by
  obtain ⟨_, h1, h2⟩ := bs h
  exact ⟨grd_of h1, (Option.some.inj h2).symm⟩
theorem powO_of {i j r : Int} (h : powO i j = some r) : CPow i j ∧ r = i ^ j.toNat := by
  obtain ⟨_, h1, h2⟩ := bs h
  exact ⟨grd_of h1, (Option.some.inj h2).symm⟩
theorem atI_map {α β : Type} {f : α → β} {xs : List α} {i : Int} {x : α} (h : atI xs i = some x) : atI (xs.map f) i = some (f x) := by
  unfold atI at h ⊢
  rw [List.length_map]
  cases e : ixN xs.length i with
  | none => rw [e] at h; cases h
  | some j =>
    rw [e] at h
    show (xs.map f)[j]? = _
    rw [List.getElem?_map, show xs[j]? = some x from h]
    rfl
/-- the longest that is made in one go -/
def mapO {α β : Type} (f : α → Option β) : List α → Option (List β)
  | [] => some []
  | x :: xs => (f x).bind fun y => (mapO f xs).bind fun ys => some (y :: ys)
theorem mapO_len {α β : Type} {f : α → Option β} : ∀ {xs : List α} {ys : List β}, mapO f xs = some ys → ys.length = xs.length
  | [], ys, h => by cases h; rfl
  | x :: xs, ys, h => by
    obtain ⟨y, _, h⟩ := bs h
    obtain ⟨zs, h2, h⟩ := bs h
    cases h
    exact congrArg (· + 1) (mapO_len h2)
theorem mapO_get {α β : Type} {f : α → Option β} : ∀ {xs : List α} {ys : List β} {i : Nat} {x : α} {y : β}, mapO f xs = some ys → xs[i]? = some x → ys[i]? = some y → f x = some y
  | [], ys, _, _, _, h, h1, _ => by simp at h1
  | a :: xs, ys, i, x, y, h, h1, h2 => by
    obtain ⟨b, hb, h⟩ := bs h
    obtain ⟨zs, hz, h⟩ := bs h
    cases h
    cases i with
    | zero => simp at h1 h2; subst h1; subst h2; exact hb
    | succ i => exact mapO_get hz (by simpa using h1) (by simpa using h2)
def lcO {α β : Type} (f : α → Option β) (xs : List α) : Option (List β) := (grd (xs.length ≤ 16777216)).bind fun _ => mapO f xs
def mapS {α β : Type} (f : α → Sto → Option (β × Sto)) : List α → Sto → Option (List β × Sto)
  | [], z => some ([], z)
  | x :: xs, z => (f x z).bind fun y => (mapS f xs y.2).bind fun ys => some (y.1 :: ys.1, ys.2)
def lcS {α β : Type} (f : α → Sto → Option (β × Sto)) (xs : List α) (z : Sto) : Option (List β × Sto) := (grd (xs.length ≤ 16777216)).bind fun _ => mapS f xs z
theorem mapS_get {α β : Type} {f : α → Sto → Option (β × Sto)} : ∀ {xs : List α} {z : Sto} {r : List β × Sto}, mapS f xs z = some r → r.1.length = xs.length ∧ ∃ zs : Nat → Sto, zs 0 = z ∧ zs xs.length = r.2 ∧
      ∀ (i : Nat) (x : α) (y : β), xs[i]? = some x → r.1[i]? = some y → f x (zs i) = some (y, zs (i + 1))
  | [], z, r, h => by cases h; exact ⟨rfl, fun _ => z, rfl, rfl, fun i x y h => by simp at h⟩
  | a :: xs, z, r, h => by
    obtain ⟨b, hb, h⟩ := bs h
    obtain ⟨r', hz, h⟩ := bs h
    cases h
    obtain ⟨hl, zs, h0, hn, hi⟩ := mapS_get hz
    refine ⟨congrArg (· + 1) hl, fun i => match i with | 0 => z | i + 1 => zs i, rfl, hn, fun i x y h1 h2 => ?_⟩
    cases i with
    | zero =>
      simp at h1 h2
      subst h1; subst h2
      show f a z = some (b.1, zs 0)
      rw [h0]
      exact hb
    | succ i => exact hi i x y (by simpa using h1) (by simpa using h2)
/-- a for over xs; a turn hands on the state (.inl) or returns (.inr) -/
def forO {S α : Type} (f : S → α → Option S) : List α → S → Option S
  | [], s => some s
  | x :: xs, s => (f s x).bind fun s' => forO f xs s'
def forR {S R α : Type} (f : S → α → Option (S ⊕ R)) : List α → S → Option (S ⊕ R)
  | [], s => some (.inl s)
  | x :: xs, s => (f s x).bind fun s' => match s' with
    | .inl s' => forR f xs s'
    | .inr r => some (.inr r)
def whileO {S : Type} (c : S → Option Bool) (f : S → Option S) : Nat → S → Option S
  | 0, _ => none
  | n + 1, s => (c s).bind fun b => cond b ((f s).bind fun s' => whileO c f n s') (some s)
abbrev eL {α : Type} (e : α → Dat) (xs : List α) : Dat := .list (xs.map e)
abbrev eT {α : Type} (e : α → Dat) (xs : List α) : Dat := .tuple (xs.map e)
abbrev eN (_ : Unit) : Dat := .none
abbrev eP2 {α β : Type} (e1 : α → Dat) (e2 : β → Dat) (p : α × β) : Dat := .tuple [e1 p.1, e2 p.2]
abbrev eP3 {α β γ : Type} (e1 : α → Dat) (e2 : β → Dat) (e3 : γ → Dat) (p : α × β × γ) : Dat := .tuple [e1 p.1, e2 p.2.1, e3 p.2.2]
def eO {α : Type} (e : α → Dat) : Option α → Dat
  | none => .none
  | some x => e x
section
variable {K : PySem.W.Frag} {σ : St} {G G' M M1 M2 M3 : Hp} {ta tb te tc : TE} {P P1 P2 : VP} {d e : Dat} {ds es : List Dat}
theorem szl {n : Nat} (h : n ≤ 16777216) : n ≤ sizeLine := by rw [sizeLine_eq]; exact h
theorem szlt {n : Nat} (h : n < 16777216) : n < sizeLine := by rw [sizeLine_eq]; exact h
theorem zipD_map {α β : Type} {ea : α → Dat} {eb : β → Dat} {xs : List α} {ys : List β} : zipD (xs.map ea) (ys.map eb) = (xs.zip ys).map (eP2 ea eb) := by
  unfold zipD
  rw [List.zipWith_map, List.zip, List.map_zipWith]
def enum {α : Type} (xs : List α) : List (Int × α) := xs.mapIdx fun i x => ((i : Int), x)
theorem enumD_map {α : Type} {ea : α → Dat} {xs : List α} : enumD (xs.map ea) = (enum xs).map (eP2 Dat.int ea) := by
  unfold enumD enum
  apply List.ext_getElem?
  intro i
  simp only [List.getElem?_mapIdx, List.getElem?_map, Option.map_map]
  cases xs[i]? <;> rfl
theorem Src.is {wi : TI} {ds' : List Dat} (h : Src K wi σ G M M1 ds) (e : ds = ds') : Src K wi σ G M M1 ds' := e ▸ h
/-- a comprehension of data -/
theorem el_lcM {α β : Type} {ea : α → Dat} {eb : β → Dat} {f : α → Option β} {xs : List α} {ys : List β} {wi : TI} {g : TG} {vs : List Nat} (src : Src K wi σ G M M1 (xs.map ea)) (hf : lcO f xs = some ys)
    (hs : ∀ (x : α) (y : β) (Mx G1 : Hp) (v : V), f x = some y → Same M1 Mx → Same G G1 → Dq K G1 v (ea x) → Tg g v (wipe σ vs) G1 fun σ2 => wipe σ2 vs = wipe σ vs ∧ Ev te σ2 G1 Mx Mx (DD K (eb y))) :
    EvL K (tLc wi g tYes te vs) σ G M M1 (ys.map eb) := by
  obtain ⟨_, h1, h2⟩ := bs hf
  have hl := mapO_len h2
  refine el_lc src (ys.map eb) (by rw [List.length_map, List.length_map, hl]) (by rw [List.length_map]; exact szl (grd_of h1)) fun i d e Mx G1 v hd he sM sG hv => ?_
  rw [List.getElem?_map] at hd he
  cases e1 : xs[i]? with
  | none => rw [e1] at hd; cases hd
  | some x =>
    cases e2 : ys[i]? with
    | none => rw [e2] at he; cases he
    | some y =>
      rw [e1] at hd; rw [e2] at he
      cases hd; cases he
      exact hs x y Mx G1 v (mapO_get h2 e1 e2) sM sG hv
theorem el_lcMD {α β : Type} {ea : α → Dat} {eb : β → Dat} {f : α → Sto → Option (β × Sto)} {xs : List α} {r : List β × Sto} {z : Sto} {s : Addr} {wi : TI} {g : TG} {vs : List Nat} (src : Src K wi σ G M M1 (xs.map ea)) (h0 : M1 s = some (sto z)) (hf : lcS f xs z = some r)
    (hs : ∀ (x : α) (y : β) (z z' : Sto) (Mx G1 : Hp) (v : V), f x z = some (y, z') → (∀ a o, a ≠ s → M1 a = some o → Mx a = some o) → Mx s = some (sto z) → Same G G1 → Dq K G1 v (ea x) → Tg g v (wipe σ vs) G1 fun σ2 => wipe σ2 vs = wipe σ vs ∧ Ev te σ2 G1 Mx (upd Mx s (sto z')) (DD K (eb y))) :
    EvL K (tLc wi g tYes te vs) σ G M (upd M1 s (sto r.2)) (r.1.map eb) := by
  obtain ⟨_, h1, h2⟩ := bs hf
  obtain ⟨hl, zs, e0, en, hi⟩ := mapS_get h2
  subst e0
  rw [← en, ← List.length_map (as := xs) (f := ea)]
  refine el_lcD src (r.1.map eb) h0 (by rw [List.length_map, List.length_map, hl]) (by rw [List.length_map]; exact szl (grd_of h1)) fun i d e Mx G1 v hd he sM hMs sG hv => ?_
  rw [List.getElem?_map] at hd he
  cases e1 : xs[i]? with
  | none => rw [e1] at hd; cases hd
  | some x =>
    cases e2 : r.1[i]? with
    | none => rw [e2] at he; cases he
    | some y =>
      rw [e1] at hd; rw [e2] at he
      cases hd; cases he
      exact hs x y _ _ Mx G1 v (hi i x y e1 e2) sM hMs sG hv
/-! ### a for by its mirror -/
variable {D : Ends} {H : Hp} {u : TS}
theorem drop_cons {α : Type} {xs : List α} {i : Nat} {x : α} (h : xs[i]? = some x) : xs.drop i = x :: xs.drop (i + 1) := by
  obtain ⟨h1, h2⟩ := List.getElem?_eq_some_iff.mp h
  rw [List.drop_eq_getElem_cons h1, h2]
theorem q_forO {S α : Type} {ea : α → Dat} {f : S → α → Option S} {xs : List α} {st fin : S} {wi : TI} {g : TG} {tb : TS} (src : Src K wi σ G M M1 (xs.map ea)) (ok : Ok G M H) (J : S → St → Hp → Hp → Prop) (hf : forO f xs st = some fin)
    (h0 : ∀ G', Same G G' → J st σ G' M1) (hJ : ∀ s σ1 G1 G2 M2, J s σ1 G1 M2 → Same G1 G2 → J s σ1 G2 M2)
    (hs : ∀ x v s s' σ1 G1 M2 H1 (N : St → Hp → Prop), f s x = some s' → J s σ1 G1 M2 → Same G G1 → Ok G1 M2 H1 → Dq K G1 v (ea x) → (∀ σ2 G2 M3 H2, Same G1 G2 → Ok G2 M3 H2 → J s' σ2 G2 M3 → N σ2 H2) → g v σ1 H1 fun σ2 H2 => tb { D with nx := N, ct := N, bk := u D } σ2 H2)
    (hd : ∀ σ1 G1 M2 H1, Same G G1 → Ok G1 M2 H1 → J fin σ1 G1 M2 → u D σ1 H1) : tSeq (tFor wi g tb) u D σ H := by
  refine q_for src ok (fun i σ1 G1 M2 => ∃ s, J s σ1 G1 M2 ∧ forO f (xs.drop i) s = some fin) (fun G' s' => ⟨st, h0 G' s', hf⟩) ?_ (fun i σ1 G1 G2 M2 ⟨s, j, e⟩ s2 => ⟨s, hJ s σ1 G1 G2 M2 j s2, e⟩) ?_
  · rintro i d v σ1 G1 M2 H1 N hd ⟨s, j, e⟩ s1 k1 hv hN
    rw [List.getElem?_map] at hd
    cases ex : xs[i]? with
    | none => rw [ex] at hd; cases hd
    | some x =>
      rw [ex] at hd
      cases hd
      rw [drop_cons ex] at e
      obtain ⟨s', e1, e2⟩ := bs e
      exact hs x v s s' σ1 G1 M2 H1 N e1 j s1 k1 hv fun σ2 G2 M3 H2 s2 k2 j2 => hN σ2 G2 M3 H2 s2 k2 ⟨s', j2, e2⟩
  · rintro σ1 G1 M2 H1 s1 k1 ⟨s, j, e⟩
    rw [List.length_map, List.drop_length] at e
    cases e
    exact hd σ1 G1 M2 H1 s1 k1 j
theorem q_forR {S R α : Type} {ea : α → Dat} {f : S → α → Option (S ⊕ R)} {xs : List α} {st : S} {fin : S ⊕ R} {wi : TI} {g : TG} {tb : TS} (src : Src K wi σ G M M1 (xs.map ea)) (ok : Ok G M H) (J : S → St → Hp → Hp → Prop) (hf : forR f xs st = some fin)
    (h0 : ∀ G', Same G G' → J st σ G' M1) (hJ : ∀ s σ1 G1 G2 M2, J s σ1 G1 M2 → Same G1 G2 → J s σ1 G2 M2)
    (hs : ∀ x v s s' σ1 G1 M2 H1 (N : St → Hp → Prop), f s x = some s' → (∀ r, s' = .inr r → fin = .inr r) → J s σ1 G1 M2 → Same G G1 → Ok G1 M2 H1 → Dq K G1 v (ea x) → (∀ s2 σ2 G2 M3 H2, s' = .inl s2 → Same G1 G2 → Ok G2 M3 H2 → J s2 σ2 G2 M3 → N σ2 H2) → g v σ1 H1 fun σ2 H2 => tb { D with nx := N, ct := N, bk := u D } σ2 H2)
    (hd : ∀ s σ1 G1 M2 H1, fin = .inl s → Same G G1 → Ok G1 M2 H1 → J s σ1 G1 M2 → u D σ1 H1) : tSeq (tFor wi g tb) u D σ H := by
  refine q_for src ok (fun i σ1 G1 M2 => ∃ s, J s σ1 G1 M2 ∧ forR f (xs.drop i) s = some fin) (fun G' s' => ⟨st, h0 G' s', hf⟩) ?_ (fun i σ1 G1 G2 M2 ⟨s, j, e⟩ s2 => ⟨s, hJ s σ1 G1 G2 M2 j s2, e⟩) ?_
  · rintro i d v σ1 G1 M2 H1 N hd ⟨s, j, e⟩ s1 k1 hv hN
    rw [List.getElem?_map] at hd
    cases ex : xs[i]? with
    | none => rw [ex] at hd; cases hd
    | some x =>
      rw [ex] at hd
      cases hd
      rw [drop_cons ex] at e
      obtain ⟨s', e1, e2⟩ := bs e
      refine hs x v s s' σ1 G1 M2 H1 N e1 (fun r er => ?_) j s1 k1 hv fun s2 σ2 G2 M3 H2 es s2' k2 j2 => ?_
      · subst er
        exact (Option.some.inj e2).symm
      · subst es
        exact hN σ2 G2 M3 H2 s2' k2 ⟨s2, j2, e2⟩
  · rintro σ1 G1 M2 H1 s1 k1 ⟨s, j, e⟩
    rw [List.length_map, List.drop_length] at e
    exact hd s σ1 G1 M2 H1 (Option.some.inj e).symm s1 k1 j
theorem q_whileO {S : Type} {c : S → Option Bool} {f : S → Option S} {st fin : S} {n : Nat} {tc : TT} {tb : TS} (ok : Ok G M H) (J : S → St → Hp → Hp → Prop) (hf : whileO c f n st = some fin) (h0 : J st σ G M)
    (hc : ∀ s b σ1 G1 M2 H1, c s = some b → J s σ1 G1 M2 → Same G G1 → Ok G1 M2 H1 → EvT tc σ1 G1 M2 M2 b)
    (hJ : ∀ s σ1 G1 G2 M2, J s σ1 G1 M2 → Same G1 G2 → J s σ1 G2 M2)
    (hs : ∀ s s' σ1 G1 M2 H1 (N : St → Hp → Prop), c s = some true → f s = some s' → J s σ1 G1 M2 → Same G G1 → Ok G1 M2 H1 → (∀ σ2 G2 M3 H2, Same G1 G2 → Ok G2 M3 H2 → J s' σ2 G2 M3 → N σ2 H2) → tb { D with nx := N, ct := N, bk := u D } σ1 H1)
    (hd : ∀ σ1 G1 M2 H1, c fin = some false → Same G G1 → Ok G1 M2 H1 → J fin σ1 G1 M2 → u D σ1 H1) : tSeq (tWhile tc tb) u D σ H := by
  refine q_while ok (fun m σ1 G1 M2 => ∃ s, J s σ1 G1 M2 ∧ whileO c f m s = some fin) n ⟨st, h0, hf⟩ ?_
  rintro m σ1 G1 M2 H1 ⟨s, j, e⟩ s1 k1
  cases m with
  | zero => cases e
  | succ m =>
    obtain ⟨b, e1, e2⟩ := bs e
    refine ⟨M2, b, hc s b σ1 G1 M2 H1 e1 j s1 k1, fun eb G2 H2 N s2 k2 hN => ?_, fun eb G2 H2 s2 k2 => ?_⟩
    · subst eb
      obtain ⟨s', e3, e4⟩ := bs e2
      exact hs s s' σ1 G2 M2 H2 N e1 e3 (hJ s σ1 G1 G2 M2 j s2) (s1.trans s2) k2 fun σ2 G3 M3 H3 s3 k3 j3 => hN m σ2 G3 M3 H3 (Nat.lt_succ_self m) s3 k3 ⟨s', j3, e4⟩
    · subst eb
      cases e2
      exact hd σ1 G2 M2 H2 e1 (s1.trans s2) k2 (hJ _ σ1 G1 G2 M2 j s2)
/-! ### a def's end -/
theorem same_fin {M0 M : Hp} {s : Addr} {o : HO} (hB : ∀ a u, a ≠ s → M0 a = some u → M a = some u) (hs : M s = some o) : Same (upd M0 s o) M := fun a u e => by
  by_cases ha : a = s
  · subst ha; rw [upd_same] at e; rw [hs]; exact e
  · rw [upd_ne ha] at e; exact hB a u ha e
theorem Ok.giveL {G M M0 H : Hp} {p : Addr} {o : HO} (k : Ok G M H) (hp : M p = some o) (h0 : M0 p = none) (hB : Same M0 M) : Ok (upd G p o) M0 H := by
  refine ⟨fun a u e => ?_, fun a u e => k.m a u (hB a u e), fun a u e => ?_⟩
  · by_cases ha : a = p
    · subst ha; rw [upd_same] at e; exact k.m a u (hp.trans e)
    · rw [upd_ne ha] at e; exact k.g a u e
  · rw [upd_ne (ne_of_none e h0)]
    exact k.d a u (hB a u e)
end
end Kx

end

section
set_option maxHeartbeats 2000000
namespace Kx
open PySem L2
section
variable {K : PySem.W.Frag} {σ σ' : St} {G G' M M1 M2 M3 : Hp} {ta tb te tc : TE} {P P1 P2 : VP} {d e : Dat} {ds es : List Dat} {D : Ends} {H : Hp} {u : TS}
theorem nrm {F : St → Hp → Prop} (e : σ = σ') (h : F σ' H) : F σ H := e ▸ h
theorem gn {i : Nat} {v : V} {Q : St → Hp → Prop} (h : Q (σ.set i (some v)) H) : gName i v σ H Q := h
theorem gNil_eq {Q : St → Hp → Prop} : (fun σ' H' => gNil [] σ' H' Q) = Q := by
  funext σ' H'
  exact propext ⟨fun h => h.2, fun h => ⟨rfl, h⟩⟩
theorem gOne_eq {g : TG} {v : V} {Q : St → Hp → Prop} : (fun σ' H' => gCons g gNil [v] σ' H' Q) = fun σ' H' => g v σ' H' Q := by
  funext σ' H'
  refine propext ⟨fun ⟨w, r, e, z⟩ => ?_, fun z => ⟨v, [], rfl, ?_⟩⟩
  · cases e
    rw [gNil_eq] at z
    exact z
  · rw [gNil_eq]
    exact z
theorem gTwo_eq {g h : TG} {v w : V} {Q : St → Hp → Prop} : (fun σ' H' => gCons g (gCons h gNil) [v, w] σ' H' Q) = fun σ' H' => g v σ' H' fun σ1 H1 => h w σ1 H1 Q := by
  funext σ' H'
  refine propext ⟨fun ⟨x, r, e, z⟩ => ?_, fun z => ⟨v, [w], rfl, ?_⟩⟩
  · cases e
    rw [gOne_eq] at z
    exact z
  · rw [gOne_eq]
    exact z
theorem gt2 {g1 g2 : TG} {v : V} {Q : St → Hp → Prop} {d1 d2 : Dat} (hv : Dq K G v (.tuple [d1, d2])) (s : Same G H) (h : ∀ v1 v2, Dq K G v1 d1 → Dq K G v2 d2 → g1 v1 σ H fun σ1 H1 => g2 v2 σ1 H1 Q) : gTup K 2 (gCons g1 (gCons g2 gNil)) v σ H Q := by
  obtain ⟨a, vs, rfl, h1, h2⟩ := dp_tuple hv
  cases h2 with
  | cons a1 b1 =>
    cases b1 with
    | cons a2 b2 =>
      cases b2
      refine ⟨a, _, rfl, sqT_up s h1, rfl, _, _, rfl, ?_⟩
      rw [gOne_eq]
      exact h _ _ a1 a2
theorem gt3 {g1 g2 g3 : TG} {v : V} {Q : St → Hp → Prop} {d1 d2 d3 : Dat} (hv : Dq K G v (.tuple [d1, d2, d3])) (s : Same G H) (h : ∀ v1 v2 v3, Dq K G v1 d1 → Dq K G v2 d2 → Dq K G v3 d3 → g1 v1 σ H fun σ1 H1 => g2 v2 σ1 H1 fun σ2 H2 => g3 v3 σ2 H2 Q) : gTup K 3 (gCons g1 (gCons g2 (gCons g3 gNil))) v σ H Q := by
  obtain ⟨a, vs, rfl, h1, h2⟩ := dp_tuple hv
  cases h2 with
  | cons a1 b1 =>
    cases b1 with
    | cons a2 b2 =>
      cases b2 with
      | cons a3 b3 =>
        cases b3
        refine ⟨a, _, rfl, sqT_up s h1, rfl, _, _, rfl, ?_⟩
        rw [gTwo_eq]
        exact h _ _ _ a1 a2 a3
/-- x = e with any target: the target's own reading is left -/
theorem q_asgG {g : TG} (he : Ev te σ G M M1 P) (ok : Ok G M H) (k : ∀ v G' H', Same G G' → Ok G' M1 H' → P v G' → g v σ H' (u D)) : tSeq (tAsg te g) u D σ H :=
  he G H (Same.refl _) ok _ k
/-- a store into a list of one's own, as a target -/
theorem gs_list {p : Addr} {vs : List V} {i : Int} {j : Nat} {v : V} {Q : St → Hp → Prop} (ho : Ev ta σ G M M (OW p)) (hi : Ev tb σ G M M1 (DD K (.int i))) (hp : M1 p = some (.lst vs)) (hj : ixN vs.length i = some j) (ok : Ok G M H)
    (k : ∀ G' H', Same G G' → Ok G' (upd M1 p (.lst (vs.set j v))) H' → Q σ H') : gSub ta tb rSetL v σ H Q :=
  ho G H (Same.refl _) ok _ fun x G2 H2 s2 k2 hx => hi G2 H2 s2 k2 _ fun y G3 H3 s3 k3 hy => by
    cases hx; cases hy
    exact ⟨p, vs, i, j, rfl, rfl, k3.m _ _ hp, hj, k G3 _ (s2.trans s3) (k3.chg _ hp)⟩
end
end Kx

end

section
set_option maxHeartbeats 2000000
namespace Kx
open PySem L2
def catO {α : Type} (xs ys : List α) : Option (List α) := (grd (xs.length + ys.length ≤ 16777216)).bind fun _ => some (xs ++ ys)
theorem catO_of {α : Type} {xs ys r : List α} (h : catO xs ys = some r) : xs.length + ys.length ≤ 16777216 ∧ r = xs ++ ys := by
  obtain ⟨_, h1, h2⟩ := bs h
  exact ⟨grd_of h1, (Option.some.inj h2).symm⟩
def repO {α : Type} (x : α) (n : Int) : Option (List α) := (grd (-16777216 ≤ n ∧ n < 16777216)).bind fun _ => some (List.replicate n.toNat x)
def appO {α : Type} (xs : List α) (x : α) : Option (List α) := (grd (xs.length < 16777216)).bind fun _ => some (xs ++ [x])
theorem appO_of {α : Type} {xs r : List α} {x : α} (h : appO xs x = some r) : xs.length < 16777216 ∧ r = xs ++ [x] := by
  obtain ⟨_, h1, h2⟩ := bs h
  exact ⟨grd_of h1, (Option.some.inj h2).symm⟩
def rngO (n : Int) : Option (List Int) := (grd (-(2 ^ 62) ≤ n ∧ n < 2 ^ 62)).bind fun _ => some (irange 0 n)
def rng2O (m n : Int) : Option (List Int) := (grd ((-(2 ^ 62) ≤ m ∧ m < 2 ^ 62) ∧ -(2 ^ 62) ≤ n ∧ n < 2 ^ 62)).bind fun _ => some (irange m n)
def setO {α : Type} (xs : List α) (i : Int) (x : α) : Option (List α) := (ixN xs.length i).bind fun j => some (xs.set j x)
theorem setO_of {α : Type} {xs r : List α} {i : Int} {x : α} (h : setO xs i x = some r) : ∃ j, ixN xs.length i = some j ∧ r = xs.set j x := by
  obtain ⟨j, h1, h2⟩ := bs h
  exact ⟨j, h1, (Option.some.inj h2).symm⟩
def popO {α : Type} (xs : List α) (i : Int) : Option (α × List α) := (grd (-(2 ^ 63) ≤ i ∧ i < 2 ^ 63)).bind fun _ => (seqIndex? i xs.length).bind fun k => (xs[k]?).bind fun x => some (x, xs.eraseIdx k)
def dmO (i j : Int) : Option (Int × Int) := (grd (CDivW i j)).bind fun _ => some (i / j, i % j)
theorem dmO_of {i j : Int} {r : Int × Int} (h : dmO i j = some r) : CDivW i j ∧ r = (i / j, i % j) := by
  obtain ⟨_, h1, h2⟩ := bs h
  exact ⟨grd_of h1, (Option.some.inj h2).symm⟩
def orR {S R T : Type} (x : S ⊕ R) (f : S → Option T) (g : R → Option T) : Option T := match x with
  | .inl s => f s
  | .inr r => g r

/-! ### encodings that == reads -/
structure EqE {α : Type} [DecidableEq α] (e : α → Dat) (n : Nat) : Prop where
  pur : ∀ x, pur (e x) = true
  dep : ∀ x, (toPy (e x)).depth ≤ n
  eqv : ∀ x y, PyData.eqv (toPy (e x)) (toPy (e y)) = decide (x = y)
theorem beq_dec {α : Type} [DecidableEq α] [BEq α] [LawfulBEq α] (x y : α) : (x == y) = decide (x = y) := by
  by_cases h : x = y <;> simp [h]
theorem eqe_int : EqE Dat.int 0 := ⟨fun _ => by unfold Kx.pur; rfl, fun _ => by unfold toPy PyData.depth; exact Nat.le_refl _, fun x y => by unfold toPy PyData.eqv; exact beq_dec x y⟩
theorem eqe_bool : EqE Dat.bool 0 := ⟨fun _ => by unfold Kx.pur; rfl, fun _ => by unfold toPy PyData.depth; exact Nat.le_refl _, fun x y => by unfold toPy PyData.eqv; exact beq_dec x y⟩
theorem eqe_str : EqE Dat.str 0 := ⟨fun _ => by unfold Kx.pur; rfl, fun _ => by unfold toPy PyData.depth; exact Nat.le_refl _, fun x y => by unfold toPy PyData.eqv; exact beq_dec x y⟩
theorem toPys_map : ∀ ds : List Dat, toPys ds = ds.map toPy
  | [] => by unfold toPys; rfl
  | d :: ds => by unfold toPys; rw [toPys_map ds]; rfl
theorem purs_all : ∀ {ds : List Dat}, (∀ d ∈ ds, pur d = true) → purs ds = true
  | [], _ => by unfold purs; rfl
  | d :: ds, h => by
    unfold purs
    rw [h d List.mem_cons_self, purs_all fun x hx => h x (List.mem_cons_of_mem _ hx)]
    rfl
theorem toPy_list {ds : List Dat} : toPy (.list ds) = .list (ds.map toPy) := by unfold toPy; rw [toPys_map]
theorem toPy_tuple {ds : List Dat} : toPy (.tuple ds) = .tuple (ds.map toPy) := by unfold toPy; rw [toPys_map]
theorem pur_list {ds : List Dat} (h : ∀ d ∈ ds, pur d = true) : pur (.list ds) = true := by unfold pur; exact purs_all h
theorem pur_tuple {ds : List Dat} (h : ∀ d ∈ ds, pur d = true) : pur (.tuple ds) = true := by unfold pur; exact purs_all h
section
variable {α β γ : Type} [DecidableEq α] [DecidableEq β] [DecidableEq γ] {e : α → Dat} {e2 : β → Dat} {e3 : γ → Dat} {n n2 n3 : Nat}
theorem depAll (h : ∀ x, (toPy (e x)).depth ≤ n) : ∀ xs : List α, PyData.depthAll ((xs.map e).map toPy) ≤ n
  | [] => Nat.zero_le _
  | x :: xs => by
    have h1 := h x
    have h2 := depAll h xs
    rw [List.map_cons, List.map_cons]
    unfold PyData.depthAll
    omega
theorem eqvAll_map (h : ∀ x y, PyData.eqv (toPy (e x)) (toPy (e y)) = decide (x = y)) : ∀ xs ys : List α, PyData.eqvAll ((xs.map e).map toPy) ((ys.map e).map toPy) = decide (xs = ys)
  | [], [] => by simp [PyData.eqvAll]
  | [], _ :: _ => by simp [PyData.eqvAll]
  | _ :: _, [] => by simp [PyData.eqvAll]
  | x :: xs, y :: ys => by
    rw [List.map_cons, List.map_cons, List.map_cons, List.map_cons]
    unfold PyData.eqvAll
    rw [h x y, eqvAll_map h xs ys]
    by_cases h1 : x = y <;> by_cases h2 : xs = ys <;> simp [h1, h2]
theorem purMap (h : EqE e n) (xs : List α) : ∀ d ∈ xs.map e, pur d = true := fun d hd => by
  obtain ⟨x, _, rfl⟩ := List.mem_map.mp hd
  exact h.pur x
theorem eqe_L (h : EqE e n) : EqE (eL e) (n + 1) := ⟨fun xs => pur_list (purMap h xs), fun xs => by rw [toPy_list]; unfold PyData.depth; exact Nat.succ_le_succ (depAll h.dep xs), fun xs ys => by rw [toPy_list, toPy_list]; unfold PyData.eqv; exact eqvAll_map h.eqv xs ys⟩
theorem eqe_T (h : EqE e n) : EqE (eT e) (n + 1) := ⟨fun xs => pur_tuple (purMap h xs), fun xs => by rw [toPy_tuple]; unfold PyData.depth; exact Nat.succ_le_succ (depAll h.dep xs), fun xs ys => by rw [toPy_tuple, toPy_tuple]; unfold PyData.eqv; exact eqvAll_map h.eqv xs ys⟩
theorem eqe_P2 (h : EqE e n) (h2 : EqE e2 n2) : EqE (eP2 e e2) (n + n2 + 1) := by
  refine ⟨fun p => pur_tuple fun d hd => ?_, fun p => ?_, fun p q => ?_⟩
  · rcases List.mem_cons.mp hd with h1 | hd
    · rw [h1]; exact h.pur _
    · have : d = e2 p.2 := by simpa using hd
      rw [this]; exact h2.pur _
  · have a := h.dep p.1
    have b := h2.dep p.2
    rw [toPy_tuple]
    simp only [List.map_cons, List.map_nil, PyData.depth, PyData.depthAll]
    omega
  · obtain ⟨p1, p2⟩ := p
    obtain ⟨q1, q2⟩ := q
    rw [toPy_tuple, toPy_tuple]
    simp only [List.map_cons, List.map_nil, PyData.eqv, PyData.eqvAll, h.eqv, h2.eqv, Bool.and_true]
    by_cases a : p1 = q1 <;> by_cases b : p2 = q2 <;> simp [a, b]
theorem eqe_P3 (h : EqE e n) (h2 : EqE e2 n2) (h3 : EqE e3 n3) : EqE (eP3 e e2 e3) (n + n2 + n3 + 1) := by
  refine ⟨fun p => pur_tuple fun d hd => ?_, fun p => ?_, fun p q => ?_⟩
  · have : d = e p.1 ∨ d = e2 p.2.1 ∨ d = e3 p.2.2 := by simpa using hd
    rcases this with z | z | z
    · rw [z]; exact h.pur _
    · rw [z]; exact h2.pur _
    · rw [z]; exact h3.pur _
  · have a := h.dep p.1
    have b := h2.dep p.2.1
    have c := h3.dep p.2.2
    rw [toPy_tuple]
    simp only [List.map_cons, List.map_nil, PyData.depth, PyData.depthAll]
    omega
  · obtain ⟨p1, p2, p3⟩ := p
    obtain ⟨q1, q2, q3⟩ := q
    rw [toPy_tuple, toPy_tuple]
    simp only [List.map_cons, List.map_nil, PyData.eqv, PyData.eqvAll, h.eqv, h2.eqv, h3.eqv, Bool.and_true]
    by_cases a : p1 = q1 <;> by_cases b : p2 = q2 <;> by_cases c : p3 = q3 <;> simp [a, b, c]
/-- what == never takes for None -/
def NoneNe (e : α → Dat) : Prop := ∀ x, PyData.eqv .none (toPy (e x)) = false ∧ PyData.eqv (toPy (e x)) .none = false
theorem nn_T : NoneNe (eT e) := fun xs => by rw [toPy_tuple]; unfold PyData.eqv; exact ⟨rfl, rfl⟩
theorem nn_L : NoneNe (eL e) := fun xs => by rw [toPy_list]; unfold PyData.eqv; exact ⟨rfl, rfl⟩
theorem nn_int : NoneNe Dat.int := fun xs => by unfold toPy PyData.eqv; exact ⟨rfl, rfl⟩
theorem nn_str : NoneNe Dat.str := fun xs => by unfold toPy PyData.eqv; exact ⟨rfl, rfl⟩
theorem nn_bool : NoneNe Dat.bool := fun xs => by unfold toPy PyData.eqv; exact ⟨rfl, rfl⟩
theorem nn_P2 {e2 : β → Dat} : NoneNe (eP2 e e2) := fun xs => by rw [toPy_tuple]; unfold PyData.eqv; exact ⟨rfl, rfl⟩
theorem nn_P3 {e2 : β → Dat} {e3 : γ → Dat} : NoneNe (eP3 e e2 e3) := fun xs => by rw [toPy_tuple]; unfold PyData.eqv; exact ⟨rfl, rfl⟩
/-- None or a thing -/
theorem eqe_O (k : NoneNe e) (h : EqE e n) : EqE (eO e) n := by
  refine ⟨fun o => ?_, fun o => ?_, fun o p => ?_⟩
  · cases o with
    | none => show pur .none = true; unfold pur; rfl
    | some x => exact h.pur x
  · cases o with
    | none => show (toPy .none).depth ≤ n; unfold toPy PyData.depth; exact Nat.zero_le _
    | some x => exact h.dep x
  · have e0 : toPy (eO e none) = .none := by show toPy .none = _; unfold toPy; rfl
    cases o with
    | none =>
      cases p with
      | none => rw [e0]; unfold PyData.eqv; simp
      | some y => rw [e0, show toPy (eO e (some y)) = toPy (e y) from rfl, (k y).1]; simp
    | some x =>
      cases p with
      | none => rw [e0, show toPy (eO e (some x)) = toPy (e x) from rfl, (k x).2]; simp
      | some y =>
        show PyData.eqv (toPy (e x)) (toPy (e y)) = _
        rw [h.eqv]
        simp
end
section
variable {α β γ : Type} [DecidableEq α] {e : α → Dat} {n : Nat} {K : PySem.W.Frag} {σ : St} {G G' M M1 M2 M3 : Hp} {ta tb te tc : TE} {ds es : List Dat}
theorem ev_eqE {x y : α} (h : EqE e n) (hn : n ≤ 63) (ha : Ev ta σ G M M1 (DD K (e x))) (hb : Ev tb σ G M1 M2 (DD K (e y))) : Ev (tOp (rEqD K) ta tb) σ G M M2 (DD K (.bool (decide (x = y)))) := by
  have := ev_eqD (h.pur x) (h.pur y) (Nat.le_trans (h.dep x) (by omega)) (Nat.le_trans (h.dep y) (by omega)) ha hb
  rw [h.eqv] at this
  exact this
theorem ev_neE {x y : α} (h : EqE e n) (hn : n ≤ 63) (ha : Ev ta σ G M M1 (DD K (e x))) (hb : Ev tb σ G M1 M2 (DD K (e y))) : Ev (tOp (rNeD K) ta tb) σ G M M2 (DD K (.bool (!decide (x = y)))) := by
  have := ev_neD (h.pur x) (h.pur y) (Nat.le_trans (h.dep x) (by omega)) (Nat.le_trans (h.dep y) (by omega)) ha hb
  rw [h.eqv] at this
  exact this
def memB {α : Type} [DecidableEq α] (x : α) (xs : List α) : Bool := decide (x ∈ xs)
theorem any_eqv (h : EqE e n) (x : α) : ∀ xs : List α, ((toPys (xs.map e)).any fun z => PyData.eqv z (toPy (e x))) = decide (x ∈ xs)
  | [] => by rw [toPys_map]; simp
  | y :: ys => by
    have ih := any_eqv h x ys
    rw [toPys_map] at ih ⊢
    rw [List.map_cons, List.map_cons, List.any_cons, ih, h.eqv]
    by_cases a : x = y
    · simp [a]
    · simp [a, Ne.symm a]
theorem ev_inE {x : α} {xs : List α} (h : EqE e n) (hn : n ≤ 63) (ha : Ev ta σ G M M1 (DD K (e x))) (hb : Ev tb σ G M1 M2 (DD K (.list (xs.map e)))) : Ev (tOp (rInD K) ta tb) σ G M M2 (DD K (.bool (memB x xs))) := by
  have := ev_inD (h.pur x) ((eqe_L h).pur xs) (Nat.le_trans (h.dep x) (by omega)) (Nat.le_trans ((eqe_L h).dep xs) (by omega)) ha hb
  rw [any_eqv h] at this
  exact this
theorem ev_notInE {x : α} {xs : List α} (h : EqE e n) (hn : n ≤ 63) (ha : Ev ta σ G M M1 (DD K (e x))) (hb : Ev tb σ G M1 M2 (DD K (.list (xs.map e)))) : Ev (tOp (rNotInD K) ta tb) σ G M M2 (DD K (.bool (!memB x xs))) := by
  have := ev_notInD (h.pur x) ((eqe_L h).pur xs) (Nat.le_trans (h.dep x) (by omega)) (Nat.le_trans ((eqe_L h).dep xs) (by omega)) ha hb
  rw [any_eqv h] at this
  exact this
def NotN {α : Type} (e : α → Dat) : Prop := ∀ x, e x ≠ .none
theorem ev_isNO {o : Option β} {e : β → Dat} (hn : NotN e) (ha : Ev ta σ G M M1 (DD K (eO e o))) (hb : Ev tb σ G M1 M2 (DD K .none)) : Ev (tOp (fun x y H Q => y = .non ∧ Q (.bl (decide (x = .non))) H) ta tb) σ G M M2 (DD K (.bool o.isNone)) := by
  refine ev_is (ev_isN ha hb) (congrArg Dat.bool ?_)
  cases o with
  | none => rfl
  | some x =>
    show isND (e x) = false
    have := hn x
    unfold isND
    split
    · contradiction
    · rfl
theorem ev_notNO {o : Option β} {e : β → Dat} (hn : NotN e) (ha : Ev ta σ G M M1 (DD K (eO e o))) (hb : Ev tb σ G M1 M2 (DD K .none)) : Ev (tOp (fun x y H Q => y = .non ∧ Q (.bl (!decide (x = .non))) H) ta tb) σ G M M2 (DD K (.bool o.isSome)) := by
  refine ev_is (ev_notN ha hb) (congrArg Dat.bool ?_)
  cases o with
  | none => rfl
  | some x =>
    show (!isND (e x)) = true
    have := hn x
    unfold isND
    split
    · contradiction
    · rfl
theorem el_catO {xs ys zs : List β} {e : β → Dat} (h : catO xs ys = some zs) (ha : Ev ta σ G M M1 (DD K (.list (xs.map e)))) (hb : Ev tb σ G M1 M2 (DD K (.list (ys.map e)))) : EvL K (tOp rCat ta tb) σ G M M2 (zs.map e) := by
  obtain ⟨h1, rfl⟩ := catO_of h
  rw [List.map_append]
  exact el_cat (by rw [List.length_map, List.length_map]; exact szl h1) ha hb
theorem ev_catTO {xs ys zs : List β} {e : β → Dat} (h : catO xs ys = some zs) (ha : Ev ta σ G M M1 (DD K (.tuple (xs.map e)))) (hb : Ev tb σ G M1 M2 (DD K (.tuple (ys.map e)))) : Ev (tOp (rCatA K) ta tb) σ G M M2 (DD K (.tuple (zs.map e))) := by
  obtain ⟨h1, rfl⟩ := catO_of h
  rw [List.map_append]
  exact ev_catT (by rw [List.length_map, List.length_map]; exact szl h1) ha hb
theorem el_repO {x : β} {zs : List β} {k : Int} {e : β → Dat} (h : repO x k = some zs) (ha : Ev ta σ G M M1 (DD K (.list [e x]))) (hb : Ev tb σ G M1 M2 (DD K (.int k))) : EvL K (tOp rRep ta tb) σ G M M2 (zs.map e) := by
  obtain ⟨_, h1, h2⟩ := bs h
  cases h2
  have := grd_of h1
  rw [List.map_replicate]
  exact el_rep1 (by omega) (by omega) ha hb
theorem src_rngO {ta : TA} {k : Int} {xs : List Int} (h : rngO k = some xs) (ha : EvA ta σ G M M1 (conP (DD K (.int k)) nilP)) : Src K (iRng1 ta) σ G M M1 (xs.map Dat.int) := by
  obtain ⟨_, h1, h2⟩ := bs h
  cases h2
  exact src_range1 (grd_of h1).1 (grd_of h1).2 ha
theorem src_rng2O {ta : TA} {j k : Int} {xs : List Int} (h : rng2O j k = some xs) (ha : EvA ta σ G M M1 (conP (DD K (.int j)) (conP (DD K (.int k)) nilP))) : Src K (iRng2 ta) σ G M M1 (xs.map Dat.int) := by
  obtain ⟨_, h1, h2⟩ := bs h
  cases h2
  have z := grd_of h1
  exact src_range2 z.1.1 z.1.2 z.2.1 z.2.2 ha
theorem el_slLM {xs : List β} {e : β → Dat} {tl th : TO} {lo hi : Option Int} (h : Ev te σ G M M (DD K (.list (xs.map e)))) (h1 : EvO tl σ G M M lo) (h2 : EvO th σ G M M hi) : EvL K (tSl (rSlL K) te tl th) σ G M M ((cut xs lo hi).map e) := cut_map ▸ el_slL h h1 h2
theorem ev_slTM {xs : List β} {e : β → Dat} {tl th : TO} {lo hi : Option Int} (h : Ev te σ G M M (DD K (.tuple (xs.map e)))) (h1 : EvO tl σ G M M lo) (h2 : EvO th σ G M M hi) : Ev (tSl (rSlA K) te tl th) σ G M M (DD K (.tuple ((cut xs lo hi).map e))) := cut_map ▸ ev_slT h h1 h2
theorem ev_mulO {i j r : Int} (hc : mulO i j = some r) (ha : Ev ta σ G M M1 (DD K (.int i))) (hb : Ev tb σ G M1 M2 (DD K (.int j))) : Ev (tOp (rI CMulO fun i j => .int (i * j)) ta tb) σ G M M2 (DD K (.int r)) := by
  obtain ⟨h, rfl⟩ := mulO_of hc
  exact ev_op mo_dd ha hb (rv_I (f := fun i j => .int (i * j)) (fun i j _ => .int _) h)
theorem ev_fdivO {i j r : Int} (hc : fdivO i j = some r) (ha : Ev ta σ G M M1 (DD K (.int i))) (hb : Ev tb σ G M1 M2 (DD K (.int j))) : Ev (tOp (rI CDivO fun i j => .int (i.fdiv j)) ta tb) σ G M M2 (DD K (.int r)) := by
  obtain ⟨h, rfl⟩ := fdivO_of hc
  exact ev_op mo_dd ha hb (rv_I (f := fun i j => .int (i.fdiv j)) (fun i j _ => .int _) h)
theorem ev_modO {i j r : Int} (hc : modO i j = some r) (ha : Ev ta σ G M M1 (DD K (.int i))) (hb : Ev tb σ G M1 M2 (DD K (.int j))) : Ev (tOp (rI (fun _ j => j ≠ 0) fun i j => .int (i.fmod j)) ta tb) σ G M M2 (DD K (.int r)) := by
  obtain ⟨h, rfl⟩ := modO_of hc
  exact ev_mod h ha hb
theorem ev_powO {i j r : Int} (hc : powO i j = some r) (ha : Ev ta σ G M M1 (DD K (.int i))) (hb : Ev tb σ G M1 M2 (DD K (.int j))) : Ev (tOp (rI CPow fun i j => .int (i ^ j.toNat)) ta tb) σ G M M2 (DD K (.int r)) := by
  obtain ⟨h, rfl⟩ := powO_of hc
  exact ev_pow h ha hb
theorem ev_dmO {i j : Int} {r : Int × Int} (hc : dmO i j = some r) (ha : EvA (tCons ta (tCons tb tNil)) σ G M M1 (conP (DD K (.int i)) (conP (DD K (.int j)) nilP))) : Ev (tCB rDivmod (tCons ta (tCons tb tNil))) σ G M M1 (DD K (eP2 Dat.int Dat.int r)) := by
  obtain ⟨h, rfl⟩ := dmO_of hc
  exact ev_divmod h ha
theorem ev_ixLM {xs : List β} {e : β → Dat} {i : Int} {x : β} (hi : atI xs i = some x) (ha : Ev ta σ G M M1 (DD K (.list (xs.map e)))) (hb : Ev tb σ G M1 M2 (DD K (.int i))) : Ev (tOp (rIxL K) ta tb) σ G M M2 (DD K (e x)) := ev_ixL (atI_map hi) ha hb
theorem ev_ixTM {xs : List β} {e : β → Dat} {i : Int} {x : β} (hi : atI xs i = some x) (ha : Ev ta σ G M M1 (DD K (.tuple (xs.map e)))) (hb : Ev tb σ G M1 M2 (DD K (.int i))) : Ev (tOp (rIxT K) ta tb) σ G M M2 (DD K (e x)) := ev_ixT (atI_map hi) ha hb
theorem ev_ixOM {xs : List β} {e : β → Dat} {i : Int} {x : β} {p : Addr} {vs : List V} (hi : atI xs i = some x) (hp : M2 p = some (.lst vs)) (hv : DqAll K G vs (xs.map e)) (ha : Ev ta σ G M M1 (OW p)) (hb : Ev tb σ G M1 M2 (DD K (.int i))) : Ev (tOp (rIxL K) ta tb) σ G M M2 (DD K (e x)) := ev_ixO ha hb hp hv (atI_map hi)
/-- an owned list read as a whole: it is lent -/
theorem ev_lenLM {xs : List β} {e : β → Dat} (ha : EvA (tCons ta tNil) σ G M M1 (conP (DD K (.list (xs.map e))) nilP)) : Ev (tCB (rLen K) (tCons ta tNil)) σ G M M1 (DD K (.int (xs.length : Int))) := ev_is (ev_lenL ha) (by rw [List.length_map])
theorem ev_lenTM {xs : List β} {e : β → Dat} (ha : EvA (tCons ta tNil) σ G M M1 (conP (DD K (.tuple (xs.map e))) nilP)) : Ev (tCB (rLen K) (tCons ta tNil)) σ G M M1 (DD K (.int (xs.length : Int))) := ev_is (ev_lenT ha) (by rw [List.length_map])
theorem ev_lenOM {xs : List β} {e : β → Dat} {p : Addr} {vs : List V} (hp : M1 p = some (.lst vs)) (hd : DqAll K G vs (xs.map e)) (ha : EvA (tCons ta tNil) σ G M M1 (conP (OW p) nilP)) : Ev (tCB (rLen K) (tCons ta tNil)) σ G M M1 (DD K (.int (xs.length : Int))) := ev_is (ev_lenO hp hd ha) (by rw [List.length_map])
end
/-! ### the part that may be changed, kept -/
theorem up_ne {M : Hp} {p q : Addr} {o u : HO} (n : q ≠ p) (h : M q = some o) : (upd M p u) q = some o := (upd_ne n).trans h
theorem hB_draw {M0 M : Hp} {s : Addr} {o : HO} (hB : ∀ a u, a ≠ s → M0 a = some u → M a = some u) : ∀ a u, a ≠ s → M0 a = some u → (upd M s o) a = some u := fun a u h1 h2 => (upd_ne h1).trans (hB a u h1 h2)
theorem hB_own {M0 M : Hp} {s p : Addr} {o : HO} (hB : ∀ a u, a ≠ s → M0 a = some u → M a = some u) (h0 : M0 p = none) : ∀ a u, a ≠ s → M0 a = some u → (upd M p o) a = some u := fun a u h1 h2 => (upd_ne (ne_of_none h2 h0)).trans (hB a u h1 h2)
theorem sB_own {M0 M : Hp} {p : Addr} {o : HO} (hB : Same M0 M) (h0 : M0 p = none) : Same M0 (upd M p o) := fun a u h2 => (upd_ne (ne_of_none h2 h0)).trans (hB a u h2)
theorem hB_none {M0 M : Hp} {s p : Addr} {o : HO} (hB : ∀ a u, a ≠ s → M0 a = some u → M a = some u) (hs : M s = some o) (h : M p = none) : M0 p = none := by
  cases e : M0 p with
  | none => rfl
  | some u =>
    have n : p ≠ s := fun z => by rw [z, hs] at h; cases h
    rw [hB p u n e] at h
    cases h
theorem sB_none {M0 M : Hp} {p : Addr} (hB : Same M0 M) (h : M p = none) : M0 p = none := hB.free h
end Kx

end

section
set_option maxHeartbeats 2000000
theorem L2.Room.un65 {k : Nat} {A : PySem.Around} (r : L2.Room k A) : A.units + 65 < PySem.cLine := by have := r.un; omega
namespace Kx
open PySem L2
section
variable {K : PySem.W.Frag} {σ σ' : St} {G G' M M1 M2 M3 : Hp} {ta tb te tc : TE} {P P1 P2 : VP} {d e : Dat} {ds es : List Dat} {D : Ends} {H : Hp} {u : TS}
theorem ev_uu2 {s : Addr} {a b : HO} (h : Ev te σ G M (upd (upd M1 s a) s b) P) : Ev te σ G M (upd M1 s b) P := by rw [upd_upd] at h; exact h
theorem ev_uu3 {s : Addr} {a b c : HO} (h : Ev te σ G M (upd (upd (upd M1 s a) s b) s c) P) : Ev te σ G M (upd M1 s c) P := by rw [upd_upd, upd_upd] at h; exact h
theorem ev_ifC {α : Type} {e : α → Dat} {t : TT} {b : Bool} {x y : α} (h : EvT t σ G M M1 b) (h1 : b = true → Ev ta σ G M1 M2 (DD K (e x))) (h2 : b = false → Ev tb σ G M1 M2 (DD K (e y))) : Ev (tIf t ta tb) σ G M M2 (DD K (e (cond b x y))) :=
  ev_if h (fun z => by subst z; exact h1 rfl) (fun z => by subst z; exact h2 rfl)
theorem ev_isiO {β : Type} {e : β → Dat} {o : Option (List β)} (ha : EvA (tCons ta (tCons tb tNil)) σ G M M1 (conP (DD K (eO (eT e) o)) (conP (CLS "tuple") nilP))) : Ev (tCB (rIsi K) (tCons ta (tCons tb tNil))) σ G M M1 (DD K (.bool o.isSome)) := by
  cases o with
  | none => exact ev_isi (d := .none) rfl (show kitB "NoneType" "tuple" = some false by decide +kernel) ha
  | some x => exact ev_isi (d := .tuple (x.map e)) rfl (show kitB "tuple" "tuple" = some true by decide +kernel) ha
/-- == of a list of one's own -/
theorem own_shp {α : Type} [DecidableEq α] {e : α → Dat} {n : Nat} {xs : List α} {vs : List V} (h : EqE e n) (hn : n ≤ 62) (hd : DqAll K G vs (xs.map e)) : SeqAt.shaped (toPy (eL e xs)) = true := by
  unfold SeqAt.shaped
  have := dqAll_lay (xs.map e) (purs_all (purMap h xs)) hd
  have e1 : (toPy (eL e xs)).canLay0 = true := by
    show (toPy (.list (xs.map e))).canLay0 = true
    unfold toPy PyData.canLay0
    exact this
  rw [e1]
  have := (eqe_L h).dep xs
  simp only [Bool.true_and, decide_eq_true_eq]
  omega
theorem own_dp {α : Type} [DecidableEq α] {e : α → Dat} {n : Nat} {xs : List α} {p : Addr} {vs : List V} (h : EqE e n) {H : Hp} (hp : H p = some (.lst vs)) (hd : DqAll K H vs (xs.map e)) : Dp K H (.ref p) (toPy (eL e xs)) := by
  show Dp K H (.ref p) (toPy (.list (xs.map e)))
  unfold toPy
  exact .lst (.inl (.inl hp)) (dqAll_dp _ (purs_all (purMap h xs)) hd)
theorem ev_eqOw {α : Type} [DecidableEq α] {e : α → Dat} {n : Nat} {xs ys : List α} {p : Addr} {vs : List V} (h : EqE e n) (hn : n ≤ 62) (hp : M2 p = some (.lst vs)) (hd : DqAll K G vs (xs.map e)) (ha : Ev ta σ G M M1 (OW p)) (hb : Ev tb σ G M1 M2 (DD K (.list (ys.map e)))) : Ev (tOp (rEqD K) ta tb) σ G M M2 (DD K (.bool (decide (xs = ys)))) :=
  ev_op mo_ow ha hb fun x y G0 H s k hx hy Q q => by
    cases hx
    refine ⟨toPy (eL e xs), toPy (eL e ys), own_dp h (k.m _ _ hp) (dpAll_up (s.trans k.g) _ hd), dq_dp _ ((eqe_L h).pur ys) (dp_up k.g _ hy), own_shp h hn hd, shp_of (n := 0) ((eqe_L h).pur ys) (Nat.le_trans ((eqe_L h).dep ys) (by omega)) hy, ?_⟩
    rw [(eqe_L h).eqv]
    exact q _ G0 H (Same.refl _) k (.bl _)
theorem ev_neOw {α : Type} [DecidableEq α] {e : α → Dat} {n : Nat} {xs ys : List α} {p : Addr} {vs : List V} (h : EqE e n) (hn : n ≤ 62) (hp : M2 p = some (.lst vs)) (hd : DqAll K G vs (xs.map e)) (ha : Ev ta σ G M M1 (OW p)) (hb : Ev tb σ G M1 M2 (DD K (.list (ys.map e)))) : Ev (tOp (rNeD K) ta tb) σ G M M2 (DD K (.bool (!decide (xs = ys)))) :=
  ev_op mo_ow ha hb fun x y G0 H s k hx hy Q q => by
    cases hx
    refine ⟨toPy (eL e xs), toPy (eL e ys), own_dp h (k.m _ _ hp) (dpAll_up (s.trans k.g) _ hd), dq_dp _ ((eqe_L h).pur ys) (dp_up k.g _ hy), own_shp h hn hd, shp_of (n := 0) ((eqe_L h).pur ys) (Nat.le_trans ((eqe_L h).dep ys) (by omega)) hy, ?_⟩
    rw [(eqe_L h).eqv]
    exact q _ G0 H (Same.refl _) k (.bl _)
/-! ### a, b = e1, e2 -/
theorem k_par {i j : Nat} {ta : TA} (h : ta σ H fun vs H1 => ∃ v w, vs = [v, w] ∧ u D ((σ.set i (some v)).set j (some w)) H1) : tSeq (tPar i j ta) u D σ H := h
/-- data and a new list of one's own -/
theorem q_parDL {i j : Nat} {σ' : V → V → St} (ha : Ev ta σ G M M1 P1) (m : Mo P1) (hb : EvL K tb σ G M1 M2 ds) (ok : Ok G M H) (hσ : ∀ v w, (σ.set i (some v)).set j (some w) = σ' v w)
    (k : ∀ v p vs G' H', Same G G' → Ok G' (upd M2 p (.lst vs)) H' → M2 p = none → P1 v G' → DqAll K G' vs ds → u D (σ' v (.ref p)) H') : tSeq (tPar i j (tCons ta (tCons tb tNil))) u D σ H :=
  ha G H (Same.refl _) ok _ fun v G1 H1 s1 k1 hv => hb G1 H1 s1 k1 _ fun p vs G2 H2 s2 k2 hp hd => ⟨v, .ref p, rfl, by
    show u D ((σ.set i (some v)).set j (some (.ref p))) H2
    rw [hσ]
    exact k v p vs G2 H2 (s1.trans s2) k2 hp (m _ _ _ s2 hv) hd⟩
theorem q_parLD {i j : Nat} {σ' : V → V → St} (ha : EvL K ta σ G M M1 ds) (hb : ∀ p vs, M1 p = none → Ev tb σ G (upd M1 p (.lst vs)) (upd M1 p (.lst vs)) P2) (ok : Ok G M H) (hσ : ∀ v w, (σ.set i (some v)).set j (some w) = σ' v w)
    (k : ∀ w p vs G' H', Same G G' → Ok G' (upd M1 p (.lst vs)) H' → M1 p = none → P2 w G' → DqAll K G' vs ds → u D (σ' (.ref p) w) H') : tSeq (tPar i j (tCons ta (tCons tb tNil))) u D σ H :=
  ha G H (Same.refl _) ok _ fun p vs G1 H1 s1 k1 hp hd => hb p vs hp G1 H1 s1 k1 _ fun w G2 H2 s2 k2 hw => ⟨.ref p, w, rfl, by
    show u D ((σ.set i (some (.ref p))).set j (some w)) H2
    rw [hσ]
    exact k w p vs G2 H2 (s1.trans s2) k2 hp hw (dpAll_up s2 _ hd)⟩
/-! the same where a tuple is made on the way -/
theorem tup_go {i j : Nat} {v w : V} (k : Ok G M H) (h : ∀ G' H', Same G G' → Ok G' M H' → u D ((σ.set i (some v)).set j (some w)) H') (t : V) : [v, w].length ≤ sizeLine ∧ ∀ p, H p = none → gTup K 2 (gCons (gName i) (gCons (gName j) gNil)) (.ref p) σ (upd H p (.tup [v, w])) (u D) := by
  refine ⟨by show 2 ≤ sizeLine; decide, fun p hp => ?_⟩
  have sp : Same G (upd G p (.tup [v, w])) := Same.new (Same.none k.g hp)
  exact ⟨p, [v, w], rfl, .inl (.inl upd_same), rfl, v, [w], rfl, w, [], rfl, rfl, h _ _ sp (k.newG _ hp)⟩
theorem q_tupDD {i j : Nat} {σ' : V → V → St} (ha : Ev ta σ G M M1 P1) (m1 : Mo P1) (hb : Ev tb σ G M1 M2 P2) (m2 : Mo P2) (ok : Ok G M H) (hσ : ∀ v w, (σ.set i (some v)).set j (some w) = σ' v w)
    (k : ∀ v w G' H', Same G G' → Ok G' M2 H' → P1 v G' → P2 w G' → u D (σ' v w) H') : tSeq (tAsg (tTup (tCons ta (tCons tb tNil))) (gTup K 2 (gCons (gName i) (gCons (gName j) gNil)))) u D σ H :=
  ha G H (Same.refl _) ok _ fun v G1 H1 s1 k1 hv => hb G1 H1 s1 k1 _ fun w G2 H2 s2 k2 hw => tup_go (K := K) k2 (fun G3 H3 s3 k3 => by
    rw [hσ]
    exact k v w G3 H3 ((s1.trans s2).trans s3) k3 (m1 _ _ _ (s2.trans s3) hv) (m2 _ _ _ s3 hw)) v
theorem q_tupDL {i j : Nat} {σ' : V → V → St} (ha : Ev ta σ G M M1 P1) (m : Mo P1) (hb : EvL K tb σ G M1 M2 ds) (ok : Ok G M H) (hσ : ∀ v w, (σ.set i (some v)).set j (some w) = σ' v w)
    (k : ∀ v p vs G' H', Same G G' → Ok G' (upd M2 p (.lst vs)) H' → M2 p = none → P1 v G' → DqAll K G' vs ds → u D (σ' v (.ref p)) H') : tSeq (tAsg (tTup (tCons ta (tCons tb tNil))) (gTup K 2 (gCons (gName i) (gCons (gName j) gNil)))) u D σ H :=
  ha G H (Same.refl _) ok _ fun v G1 H1 s1 k1 hv => hb G1 H1 s1 k1 _ fun p vs G2 H2 s2 k2 hp hd => tup_go (K := K) k2 (fun G3 H3 s3 k3 => by
    rw [hσ]
    exact k v p vs G3 H3 ((s1.trans s2).trans s3) k3 hp (m _ _ _ (s2.trans s3) hv) (dpAll_up s3 _ hd)) v
theorem q_tupLD {i j : Nat} {σ' : V → V → St} (ha : EvL K ta σ G M M1 ds) (hb : ∀ p vs, M1 p = none → Ev tb σ G (upd M1 p (.lst vs)) (upd M1 p (.lst vs)) P2) (m2 : Mo P2) (ok : Ok G M H) (hσ : ∀ v w, (σ.set i (some v)).set j (some w) = σ' v w)
    (k : ∀ w p vs G' H', Same G G' → Ok G' (upd M1 p (.lst vs)) H' → M1 p = none → P2 w G' → DqAll K G' vs ds → u D (σ' (.ref p) w) H') : tSeq (tAsg (tTup (tCons ta (tCons tb tNil))) (gTup K 2 (gCons (gName i) (gCons (gName j) gNil)))) u D σ H :=
  ha G H (Same.refl _) ok _ fun p vs G1 H1 s1 k1 hp hd => hb p vs hp G1 H1 s1 k1 _ fun w G2 H2 s2 k2 hw => tup_go (K := K) k2 (fun G3 H3 s3 k3 => by
    rw [hσ]
    exact k w p vs G3 H3 ((s1.trans s2).trans s3) k3 hp (m2 _ _ _ s3 hw) (dpAll_up (s2.trans s3) _ hd)) w
theorem q_augI {i : Nat} {x j : Int} {f : Int → Int → Int} {σ' : V → St} (hx : σ[i]? = some (some (.int x))) (he : Ev te σ G M M1 (DD K (.int j))) (ok : Ok G M H) (hσ : σ.set i (some (.int (f x j))) = σ' (.int (f x j))) (k : ∀ G' H', Same G G' → Ok G' M1 H' → u D (σ' (.int (f x j))) H') : tSeq (tAug i te (ipI f)) u D σ H :=
  ⟨.int x, hx, he G H (Same.refl _) ok _ fun v G1 H1 s1 k1 hv => by
    cases hv
    refine ⟨x, j, rfl, rfl, ?_⟩
    show u D (σ.set i (some (.int (f x j)))) H1
    rw [hσ]
    exact k G1 H1 s1 k1⟩
theorem q_nilU (h : u D σ H) : tNext { D with nx := u D } σ H := h
theorem orR_l {S R T : Type} {s : S} {f : S → Option T} {g : R → Option T} {r : Option T} (h : orR (.inl s) f g = r) : f s = r := h
/-- a filtered comprehension -/
def mapF {α β : Type} (f : α → Option (Option β)) : List α → Option (List β)
  | [] => some []
  | x :: xs => (f x).bind fun o => (mapF f xs).bind fun ys => some (o.toList ++ ys)
def lcF {α β : Type} (f : α → Option (Option β)) (xs : List α) : Option (List β) := (grd (xs.length ≤ 16777216)).bind fun _ => mapF f xs
theorem mapF_get {α β : Type} {f : α → Option (Option β)} : ∀ {xs : List α} {ys : List β}, mapF f xs = some ys → ∃ os : List (Option β), os.length = xs.length ∧ os.filterMap id = ys ∧ ∀ (i : Nat) (x : α) (o : Option β), xs[i]? = some x → os[i]? = some o → f x = some o
  | [], ys, h => by cases h; exact ⟨[], rfl, rfl, fun i x o h => by simp at h⟩
  | a :: xs, ys, h => by
    obtain ⟨o, ho, h⟩ := bs h
    obtain ⟨zs, hz, h⟩ := bs h
    cases h
    obtain ⟨os, h1, h2, h3⟩ := mapF_get hz
    refine ⟨o :: os, congrArg (· + 1) h1, ?_, fun i x o' hx ho' => ?_⟩
    · rw [← h2]
      cases o <;> rfl
    · cases i with
      | zero => simp at hx ho'; subst hx; subst ho'; exact ho
      | succ i => exact h3 i x o' (by simpa using hx) (by simpa using ho')
theorem el_lcMF {α β : Type} {ea : α → Dat} {eb : β → Dat} {f : α → Option (Option β)} {xs : List α} {ys : List β} {wi : TI} {g : TG} {tt : TT} {vs : List Nat} (src : Src K wi σ G M M1 (xs.map ea)) (hf : lcF f xs = some ys)
    (hs : ∀ (x : α) (o : Option β) (Mx G1 : Hp) (v : V), f x = some o → Same M1 Mx → Same G G1 → Dq K G1 v (ea x) → Tg g v (wipe σ vs) G1 fun σ2 => wipe σ2 vs = wipe σ vs ∧ LcB K tt te σ2 G1 Mx Mx (o.map eb)) :
    EvL K (tLc wi g tt te vs) σ G M M1 (ys.map eb) := by
  obtain ⟨_, h1, h2⟩ := bs hf
  obtain ⟨os, hl, rfl, hi⟩ := mapF_get h2
  have := el_lcG (tt := tt) (te := te) (g := g) (vs := vs) (M2 := M1) src (os.map fun o => o.map eb) (fun _ => M1) rfl rfl (fun _ _ => rfl) (by rw [List.length_map, List.length_map, hl]) (by rw [List.length_map]; exact szl (grd_of h1)) fun i d o D acc G1 v hd ho hD s hv => by
    rw [List.getElem?_map] at hd ho
    cases e1 : xs[i]? with
    | none => rw [e1] at hd; cases hd
    | some x =>
      cases e2 : os[i]? with
      | none => rw [e2] at ho; cases ho
      | some o' =>
        rw [e1] at hd; rw [e2] at ho
        cases hd; cases ho
        exact hs x o' _ G1 v (hi i x o' e1 e2) (Same.new hD) s hv
  have e : ∀ os : List (Option β), (os.map fun o => o.map eb).filterMap id = (os.filterMap id).map eb := fun os => by
    induction os with
    | nil => rfl
    | cons o os ih => cases o <;> simp_all
  rw [e] at this
  exact this
end
end Kx

end

section
set_option maxHeartbeats 2000000
namespace Kx
open PySem L2
/-! ### enumerate of a tuple, zip of lists and tuples -/
def SqB (K : PySem.W.Frag) : Bool → Hp → Addr → List V → Prop
  | true => SqT K
  | false => SqL K
def IteT (K : PySem.W.Frag) (a : Addr) : It :=
  ⟨fun i H => ∃ (xs : List V) (x : V), SqT K H a xs ∧ xs[i]? = some x, fun i H v H' => ∃ T x, v = .ref T ∧ H T = none ∧ H' = upd H T (.tup [.int (i : Nat), x]) ∧ ∀ xs, SqT K H a xs → xs[i]? = some x, fun i H => ∃ xs : List V, SqT K H a xs ∧ xs.length = i⟩
def ItzB (K : PySem.W.Frag) (ka kb : Bool) (a b : Addr) : It :=
  ⟨fun i H => ∃ (xs ys : List V) (x y : V), SqB K ka H a xs ∧ SqB K kb H b ys ∧ xs[i]? = some x ∧ ys[i]? = some y,
    fun i H v H' => ∃ T x y, v = .ref T ∧ H T = none ∧ H' = upd H T (.tup [x, y]) ∧ (∀ xs, SqB K ka H a xs → xs[i]? = some x) ∧ ∀ ys, SqB K kb H b ys → ys[i]? = some y,
    fun i H => ∃ xs ys : List V, SqB K ka H a xs ∧ SqB K kb H b ys ∧ min xs.length ys.length = i⟩
def iEnumT (K : PySem.W.Frag) (ta : TA) : TI := fun σ H R => ta σ H fun vs H1 => ∃ a xs, vs = [.ref a] ∧ SqT K H1 a xs ∧ R (IteT K a) H1
def iZipB (K : PySem.W.Frag) (ka kb : Bool) (ta : TA) : TI := fun σ H R => ta σ H fun vs H1 => ∃ a b xs ys, vs = [.ref a, .ref b] ∧ SqB K ka H1 a xs ∧ SqB K kb H1 b ys ∧ R (ItzB K ka kb a b) H1

def IterB : Bool → Heap → Addr → Addr → Nat → Prop
  | true => fun h it a i => h.IsTupleIter it a i
  | false => fun h it a i => h.IsListIter it a i
def SeqB : Bool → Heap → Addr → Array Value → Prop
  | true => fun h a its => h.IsTuple a its
  | false => fun h a its => h.IsList a its
theorem IterB.at {k : Bool} {h h' : Heap} {it a : Addr} {i : Nat} (x : IterB k h it a i) (e : ∀ o, h.get? it = some o → h'.get? it = some o) : IterB k h' it a i := by
  cases k with
  | true => exact Heap.IsTupleIter.at x e
  | false => exact Heap.IsListIter.at x e
theorem IterB.obj {k : Bool} {h : Heap} {it a : Addr} {i : Nat} (x : IterB k h it a i) : ∃ o, h.get? it = some o ∧ ∀ v, o.data ≠ .cell v := by
  cases k with
  | true =>
    obtain ⟨o, ho, _, hd⟩ := (show h.IsTupleIter it a i from x)
    exact ⟨o, ho, fun v q => by rw [hd] at q; cases q⟩
  | false =>
    obtain ⟨o, ho, _, hd⟩ := (show h.IsListIter it a i from x)
    exact ⟨o, ho, fun v q => by rw [hd] at q; cases q⟩
def itName : Bool → String
  | true => "tuple_iterator"
  | false => "list_iterator"
theorem begins_B (k : Bool) (a : Addr) (items : Array Value) : Begins (.ref a) { cls := .type (itName k), data := .fields #[.ref a, .int 0 0] } fun h => SeqB k h a items := by
  cases k with
  | true => exact begins_tuple a items
  | false => exact begins_list a items
theorem iterB_new {k : Bool} {h : Heap} {it a : Addr} (e : h.get? it = some { cls := .type (itName k), data := .fields #[.ref a, .int 0 0] }) : IterB k h it a 0 := by
  cases k with
  | true => exact ⟨_, e, rfl, rfl⟩
  | false => exact ⟨_, e, rfl, rfl⟩
theorem drawsB {prog : Program} {w : World} {A : Around} (k : Bool) (hh : A.handled = none) (it a : Addr) (hne : a ≠ it) (items : Array Value) : Draws prog w A it [it, a] items.size (fun i v => items[i]? = some v) (fun i h => IterB k h it a i ∧ SeqB k h a items) := by
  cases k with
  | true => exact Draws.tuple hh it a hne items
  | false => exact Draws.list hh it a hne items
section
variable {X : Cx} {pins : List (Addr × Obj)} {σ : St} {H : Hp} {s : Shared}
theorem seqB_of {k : Bool} {a : Addr} {xs : List V} (I : Inv X pins σ H s) (h : SqB X.K k H a xs) : ∃ its, Vals xs its ∧ SeqB k s.heap a its.toArray ∧ a < s.heap.objs.size := by
  cases k with
  | true =>
    obtain ⟨its, rv, p, _⟩ := I.tuple h
    obtain ⟨o, ho, _⟩ := id p
    exact ⟨its, rv, p, Heap.lt_size ho⟩
  | false =>
    obtain ⟨its, rv, p, _⟩ := I.list h
    exact ⟨its, rv, p.isList, p.lt⟩
theorem sqB_inj {k : Bool} {a : Addr} {xs ys : List V} (I : Inv X pins σ H s) (h : SqB X.K k H a xs) (h' : SqB X.K k H a ys) : xs = ys := by
  cases k with
  | true => exact I.tuple_inj h h'
  | false => exact I.list_inj h h'
end
theorem turn_enumT {P : Program} {w : World} {K : PySem.W.Frag} {elts : List Expr} {kk : Nat} {tpos : Pos} (a e it : Addr) :
    Turn P w K (.Tuple elts kk tpos) (IteT K a) [e, it] e (fun i h => (∃ old, IsEnum h e it ((i : Nat) : Int) old) ∧ IterB true h it a i ∧ e ≠ it ∧ a ≠ it ∧ a ≠ e) where
  mem := by simp
  obj := fun i h st b hb => by
    obtain ⟨⟨old, he⟩, hi, _⟩ := st
    have e' : b = e ∨ b = it := by simpa using hb
    rcases e' with z | z
    · rw [z]; exact ⟨_, he, fun v q => nomatch q⟩
    · rw [z]; exact hi.obj
  keep := fun i h h' st k => let ⟨⟨old, he⟩, hi, hne⟩ := st; ⟨⟨old, k e (by simp) _ he⟩, hi.at fun o q => k it (by simp) o q, hne⟩
  item := by
    intro X hP hw hK hc i pins s σ H E I hf st hg
    subst hP hw hK
    obtain ⟨⟨old, he⟩, hit, hne, hai, hae⟩ := st
    obtain ⟨xs, x, hq, hx⟩ := hg
    obtain ⟨its, rv, p, hz⟩ := seqB_of (k := true) I hq
    have hlen := rv.length
    have hil' : i < xs.length := (List.getElem?_eq_some_iff.mp hx).1
    have hel : e < s.heap.objs.size := Heap.lt_size he
    have hil : it < s.heap.objs.size := by obtain ⟨_, q, _⟩ := hit.obj; exact Heap.lt_size q
    refine wpAny_pyNext_enum_itemD (drawsB (A := X.A.in1) true (show X.A.in1.handled = none from I.ok.hd hc) it a hai its.toArray) he ⟨hit, p⟩ (by simp; omega) hne (by simp [hne, Ne.symm hae]) fun u h' tk hu ho hit' hT hsz hk => ?_
    obtain ⟨u', hu', ru⟩ := rv.get hx
    have eu : u = u' := by
      have : its.toArray[i]? = some u' := by simpa using hu'
      rw [hu] at this
      exact Option.some.inj this
    subst eu
    refine ⟨_, rfl, wpAny_letOwnedTupleGo_enum (s := { s with heap := h', toks := tk + 1 }) ho fun h'' he' sb => ?_⟩
    have hT2 : h''.get? s.heap.objs.size = some { cls := .type "tuple", data := .seq #[.int i tk, u] } := (sb.2 _ (Nat.ne_of_gt hel)).trans hT
    have new : ObjOk X.prog X.w (upd H s.heap.objs.size (.tup [.int (i : Nat), x])) h'' s.heap.objs.size (.tup [.int (i : Nat), x]) :=
      ⟨by show 2 ≤ sizeLine; decide, [.int i tk, u], .cons ⟨_, rfl⟩ (.cons ru .nil), ⟨_, hT2, rfl, _, rfl⟩⟩
    have I1 : Inv X pins σ (upd H s.heap.objs.size (.tup [.int (i : Nat), x])) { s with heap := h'', toks := tk + 1 } :=
      I.turnedNew (ch := [e, it]) (fun b ob hb q => (sb.2 b (fun z => hb (by simp [z]))).trans (hk b ob (fun z => hb (by simp [z])) (fun z => hb (by simp [z])) q)) hf (Nat.le_refl _) new
    refine ⟨.ref s.heap.objs.size, _, I1, rfl, ⟨_, x, rfl, I.hok.fresh (Nat.le_refl _), rfl, fun ys hy => by rw [I.tuple_inj hy hq]; exact hx⟩, ⟨⟨u, ?_⟩, hit'.1.at fun o q => (sb.2 it (Ne.symm hne)).trans q, hne, hai, hae⟩, fun b hb => ?_⟩
    · have e1 : ((i + 1 : Nat) : Int) = (i : Int) + 1 := by omega
      rw [e1]; exact he'
    · have hb' : b < s.heap.objs.size := by
        have e' : b = e ∨ b = it := by simpa using hb
        rcases e' with z | z
        · rw [z]; exact hel
        · rw [z]; exact hil
      rw [upd_ne (Nat.ne_of_lt hb')]
      exact (hf b hb).1
  done := by
    intro X hP hw hK hc i pins s σ H E I hf st hg
    subst hP hw hK
    obtain ⟨⟨old, he⟩, hit, hne, hai, hae⟩ := st
    obtain ⟨xs, hq, hx⟩ := hg
    obtain ⟨its, rv, p, hz⟩ := seqB_of (k := true) I hq
    obtain ⟨f0, f1, f2, f3, f4, f5⟩ := hf it (by simp)
    have hl := rv.length
    have en : its.toArray.size = i := by simp; omega
    exact wpAny_pyNext_enum_endD (drawsB (A := X.A.in1) true (show X.A.in1.handled = none from I.ok.hd hc) it a hai its.toArray) he (by rw [en]; exact ⟨hit, p⟩) fun h' eb => ⟨rfl, I.turned (t' := s.toks) (fun b o hb q => eb b o hb q) f0 f1 f3 f4 f5⟩
  self := fun A i s Q E st h => let ⟨⟨_, he⟩, _⟩ := st; wpAny_pyIter_enum he h
end Kx
namespace PySem
theorem meets_enumerate_newB1 {v : Value} {o : Obj} {H : Heap → Prop} (B : Begins v o H) :
    Meets (Builtin.«enumerate.__new__» ⟨[.type "enumerate", v], []⟩) (fun _ R s => H s.heap ∧
      R (.ok (.ret (.ref (s.heap.push o).objs.size))) { s with heap := (s.heap.push o).push { cls := .type "enumerate", data := .fields #[.none, .bool false, .ref s.heap.objs.size, rawInt 0, .none, .none] } }) :=
  .of_wp fun prog w A R s h => by
    obtain ⟨hp, g, d, tk, os⟩ := s; obtain ⟨h1, h⟩ := h
    have hsub := sub_enumerate
    have q1 : ∀ {A' : Around} {E : Value → Shared → Prop} {Q : Value → Shared → Prop}, Q (.ref hp.objs.size) ⟨hp.push o, g, d, tk, os⟩ → wpAny (model prog w) A' (pyIter v) Q E ⟨hp, g, d, tk, os⟩ :=
      fun q => B.iter prog w _ _ ⟨hp, g, d, tk, os⟩ _ h1 q
    wp_walk using q1
    refine wpAny_stack_any fun st => wpAny_pure ?_
    split
    · rename_i c _ _ _ _ _
      cases (c == Value.type "enumerate")
      · wp_walk using q1
        exact ⟨_, rfl, h⟩
      · wp_walk using q1
        exact ⟨_, rfl, h⟩
    · wp_walk using q1
      exact ⟨_, rfl, h⟩
theorem enum_begins1 {prog : Program} {w : World} {A : Around} {E : Value → Shared → Prop} {s : Shared} {v : Value} {o : Obj} {H : Heap → Prop} {Q : Value → Shared → Prop} (B : Begins v o H) (h1 : H s.heap)
    (h : ∀ h', IsEnum h' (s.heap.objs.size + 1) s.heap.objs.size 0 .none → h'.get? s.heap.objs.size = some o → h'.objs.size = s.heap.objs.size + 2 →
      (∀ b o, s.heap.get? b = some o → h'.get? b = some o) → Q (.ref (s.heap.objs.size + 1)) { s with heap := h' }) :
    wpAny (model prog w) A (call (.type "enumerate") [v]) Q E s := by
  refine callType_new F.called_enumerate (by decide) (F.typeCall_enumerate_1 _) (F.newCall_enumerate_1 _) (fun obj => F.args_object_init_2 obj _) F.entry_enumerate_new
    (meets_enumerate_newB1 B) ⟨h1, ?_⟩
  have hz : (s.heap.push o).objs.size = s.heap.objs.size + 1 := Heap.size_push ..
  show _ ∧ _
  rw [hz]
  have he : IsEnum ((s.heap.push o).push { cls := .type "enumerate", data := .fields #[.none, .bool false, .ref s.heap.objs.size, rawInt 0, .none, .none] }) (s.heap.objs.size + 1) s.heap.objs.size 0 .none := by
    have := Heap.get?_push_size (s.heap.push o) (o := { cls := .type "enumerate", data := .fields #[.none, .bool false, .ref s.heap.objs.size, rawInt 0, .none, .none] }) rfl
    rw [hz] at this; exact this
  refine ⟨⟨_, he, rfl⟩, h _ he (Heap.get?_push_of_some _ (Heap.get?_push_size _ B.free)) (by rw [Heap.size_push, hz]) fun b o x => Heap.get?_push_of_some _ (Heap.get?_push_of_some _ x)⟩
end PySem
namespace Kx
open PySem L2
theorem pi_enumT {X : Cx} {e : Expr} {ta : TA} {p pos tpos : Pos} {elts : List Expr} {kk : Nat} (hg : Gl X "enumerate") (hm : X.mg "enumerate" = none) (ha : PA X [e] ta) (hs : starEach [e] X.env = [(false, eval e X.env)] := by rfl) :
    PI X (.Tuple elts kk tpos) (.Call (.Name "enumerate" p) [e] [] pos) (iEnumT X.K ta) := by
  refine ⟨fun pins s σ H R I h => ?_⟩
  refine PyProof.Rows.Call_ (ld_blt I hg hm PyProof.Rows.boot_enumerate (PyProof.Rows.callWith_type1 (thn (ha.run pos pins s σ H _ I h) fun us s1 ⟨vs, H1, I1, r1, q1⟩ => ?_) hs rfl))
  obtain ⟨a, xs, ex, hq, q⟩ := q1
  subst ex
  cases r1 with
  | cons r rr =>
    cases rr
    cases r
    obtain ⟨its, rv, p', hz⟩ := seqB_of (k := true) I1 hq
    refine enum_begins1 (begins_B true a its.toArray) p' fun h' he hit hsz hk => wpAny_pyIter_enum he ?_
    have I2 : Inv X pins σ H1 { s1 with heap := h' } := I1.kept (t' := s1.toks) hk
    refine ⟨s1.heap.objs.size + 1, [s1.heap.objs.size + 1, s1.heap.objs.size], _, _, H1, rfl, I2, turn_enumT a (s1.heap.objs.size + 1) s1.heap.objs.size, ⟨⟨.none, he⟩, iterB_new hit, Nat.succ_ne_self _, Nat.ne_of_lt hz, Nat.ne_of_lt (Nat.lt_succ_of_lt hz)⟩, fun b hb => ?_, q⟩
    have e' : b = s1.heap.objs.size + 1 ∨ b = s1.heap.objs.size := by simpa using hb
    have hle : s1.heap.objs.size ≤ b := by
      rcases e' with z | z
      · rw [z]; exact Nat.le_add_right _ _
      · rw [z]; exact Nat.le_refl _
    exact I1.fpOk hle (I1.hok.fresh hle)
theorem turn_zipB {P : Program} {w : World} {K : PySem.W.Frag} {ka kb : Bool} {elts : List Expr} {kk : Nat} {tpos : Pos} {a b z TI TO i1 i2 : Addr} (D : ZipSep2 z TI TO i1 i2 [i1, a] [i2, b]) (ha : a ≠ i1) (hb : b ≠ i2) :
    Turn P w K (.Tuple elts kk tpos) (ItzB K ka kb a b) [z, TI, TO, i1, i2] z (fun i h => IsZip h z TI TO .none ∧ IsTupOf2 h TI (.ref i1) (.ref i2) ∧ (∃ x y, IsTupOf2 h TO x y) ∧ IterB ka h i1 a i ∧ IterB kb h i2 b i) where
  mem := by simp
  obj := fun i h st c hc => by
    obtain ⟨hz, hTI, ⟨x, y, hTO⟩, h1, h2⟩ := st
    have e' : c = z ∨ c = TI ∨ c = TO ∨ c = i1 ∨ c = i2 := by simpa using hc
    rcases e' with q | q | q | q | q
    · rw [q]; exact ⟨_, hz, fun v q => nomatch q⟩
    · rw [q]; exact ⟨_, hTI, fun v q => nomatch q⟩
    · rw [q]; exact ⟨_, hTO, fun v q => nomatch q⟩
    · rw [q]; exact h1.obj
    · rw [q]; exact h2.obj
  keep := fun i h h' st k => by
    obtain ⟨hz, hTI, ⟨x, y, hTO⟩, h1, h2⟩ := st
    exact ⟨k z (by simp) _ hz, k TI (by simp) _ hTI, ⟨x, y, k TO (by simp) _ hTO⟩, h1.at fun o q => k i1 (by simp) o q, h2.at fun o q => k i2 (by simp) o q⟩
  item := by
    intro X hP hw hK hc i pins s σ H E I hf st hg
    subst hP hw hK
    obtain ⟨hz, hTI, ⟨x0, y0, hTO⟩, h1, h2⟩ := st
    obtain ⟨xs, ys, x, y, hqx, hqy, hx, hy⟩ := hg
    obtain ⟨its, rv, p, _⟩ := seqB_of I hqx
    obtain ⟨its2, rv2, p2, _⟩ := seqB_of I hqy
    have l1 := rv.length
    have l2 := rv2.length
    have g1 : i < xs.length := (List.getElem?_eq_some_iff.mp hx).1
    have g2 : i < ys.length := (List.getElem?_eq_some_iff.mp hy).1
    have hzl : z < s.heap.objs.size := Heap.lt_size hz
    have hh : X.A.in1.handled = none := I.ok.hd hc
    refine wpAny_pyNext_zipD2_item D (drawsB (A := X.A.in1) ka hh i1 a ha its.toArray) (drawsB (A := X.A.in1) kb hh i2 b hb its2.toArray) hz hTI hTO ⟨h1, p⟩ ⟨h2, p2⟩ (by simp; omega) (by simp; omega) fun u u2 h' tk hu hu2 z' TO' h1' h2' hT hsz hk => ?_
    have ru : RelV x u := by
      obtain ⟨w, hw, r⟩ := rv.get hx
      have e : its.toArray[i]? = some w := by simpa using hw
      rw [hu] at e
      cases e
      exact r
    have ru2 : RelV y u2 := by
      obtain ⟨w, hw, r⟩ := rv2.get hy
      have e : its2.toArray[i]? = some w := by simpa using hw
      rw [hu2] at e
      cases e
      exact r
    refine ⟨_, rfl, wpAny_letOwnedTupleGo_zip (s := { s with heap := h', toks := tk }) z' fun h'' z'' sb => ?_⟩
    have hT2 : h''.get? s.heap.objs.size = some { cls := .type "tuple", data := .seq #[u, u2] } := (sb.2 _ (Nat.ne_of_gt hzl)).trans hT
    have new : ObjOk X.prog X.w (upd H s.heap.objs.size (.tup [x, y])) h'' s.heap.objs.size (.tup [x, y]) :=
      ⟨by show 2 ≤ sizeLine; decide, [u, u2], .cons ru (.cons ru2 .nil), ⟨_, hT2, rfl, _, rfl⟩⟩
    have I1 : Inv X pins σ (upd H s.heap.objs.size (.tup [x, y])) { s with heap := h'', toks := tk } :=
      I.turnedNew (t' := tk) (ch := [z, TI, TO, i1, i2]) (fun c o hb q => (sb.2 c (fun q' => hb (by simp [q']))).trans (hk c o (fun q' => hb (by simp [q'])) (fun q' => hb (by simp [q'])) (fun q' => hb (by simp [q'])) (fun q' => hb (by simp [q'])) q)) hf (Nat.le_refl _) new
    refine ⟨.ref s.heap.objs.size, _, I1, rfl, ⟨_, x, y, rfl, I.hok.fresh (Nat.le_refl _), rfl, fun l hl => by rw [sqB_inj I hl hqx]; exact hx, fun l hl => by rw [sqB_inj I hl hqy]; exact hy⟩, ⟨z'', ?_, ⟨u, u2, ?_⟩, ?_, ?_⟩, fun c hcm => ?_⟩
    · exact (sb.2 _ D.TIz).trans (hk _ _ D.TIz D.TITO D.TIi1 D.TIi2 hTI)
    · exact (sb.2 _ D.TOz).trans TO'
    · exact h1'.1.at fun o q => (sb.2 _ (Ne.symm D.zi1)).trans q
    · exact h2'.1.at fun o q => (sb.2 _ (Ne.symm D.zi2)).trans q
    · have hlt : c < s.heap.objs.size := by
        have e' : c = z ∨ c = TI ∨ c = TO ∨ c = i1 ∨ c = i2 := by simpa using hcm
        rcases e' with q | q | q | q | q
        · rw [q]; exact hzl
        · rw [q]; exact Heap.lt_size hTI
        · rw [q]; exact Heap.lt_size hTO
        · rw [q]; obtain ⟨_, e1, _⟩ := h1.obj; exact Heap.lt_size e1
        · rw [q]; obtain ⟨_, e2, _⟩ := h2.obj; exact Heap.lt_size e2
      rw [upd_ne (Nat.ne_of_lt hlt)]
      exact (hf c hcm).1
  done := by
    intro X hP hw hK hc i pins s σ H E I hf st hg
    subst hP hw hK
    obtain ⟨hz, hTI, ⟨x0, y0, hTO⟩, h1, h2⟩ := st
    obtain ⟨xs, ys, hqx, hqy, hend⟩ := hg
    obtain ⟨its, rv, p, _⟩ := seqB_of I hqx
    obtain ⟨its2, rv2, p2, _⟩ := seqB_of I hqy
    have l1 := rv.length
    have l2 := rv2.length
    have hh : X.A.in1.handled = none := I.ok.hd hc
    exact wpAny_pyNext_zipD2_end D (drawsB (A := X.A.in1) ka hh i1 a ha its.toArray) (drawsB (A := X.A.in1) kb hh i2 b hb its2.toArray) hz hTI hTO ⟨h1, p⟩ ⟨h2, p2⟩ (by simp; omega) (by simp; omega) (by simp; omega) fun h' tk hk => ⟨rfl, I.turnedL (t' := tk) (ch := [z, TI, TO, i1, i2]) (fun c o hb q =>
      hk c o (fun q' => hb (by simp [q'])) (fun q' => hb (by simp [q'])) (fun q' => hb (by simp [q'])) (fun q' => hb (by simp [q'])) q) hf⟩
  self := fun A i s Q E st h => wpAny_pyIter_zip st.1 h
theorem pi_zipB (ka kb : Bool) {X : Cx} {e e2 : Expr} {ta : TA} {p pos tpos : Pos} {elts : List Expr} {kk : Nat} (hg : Gl X "zip") (hm : X.mg "zip" = none) (ha : PA X [e, e2] ta)
    (hs : starEach [e, e2] X.env = (false, eval e X.env) :: starEach [e2] X.env := by rfl) (hpl : (backTo pos (starEach [e2] X.env)).any (·.1) = false := by rfl) :
    PI X (.Tuple elts kk tpos) (.Call (.Name "zip" p) [e, e2] [] pos) (iZipB X.K ka kb ta) := by
  refine ⟨fun pins s σ H R I h => ?_⟩
  refine PyProof.Rows.Call_ (ld_blt I hg hm PyProof.Rows.boot_zip (PyProof.Rows.callWith_type1 (thn (ha.run pos pins s σ H _ I h) fun us s1 ⟨vs, H1, I1, r1, q1⟩ => ?_) hs hpl))
  obtain ⟨a, b, xs, ys, ex, hqx, hqy, q⟩ := q1
  subst ex
  cases r1 with
  | cons r rr =>
    cases rr with
    | cons r' rr =>
      cases rr
      cases r
      cases r'
      have fresh5 : ∀ c, c ∈ [s1.heap.objs.size + 4, s1.heap.objs.size + 2, s1.heap.objs.size + 3, s1.heap.objs.size, s1.heap.objs.size + 1] → FpOk X pins H1 c := fun c hcm => by
        have e' : c = s1.heap.objs.size + 4 ∨ c = s1.heap.objs.size + 2 ∨ c = s1.heap.objs.size + 3 ∨ c = s1.heap.objs.size ∨ c = s1.heap.objs.size + 1 := by simpa using hcm
        have hle : s1.heap.objs.size ≤ c := by
          rcases e' with z | z | z | z | z
          · rw [z]; exact Nat.le_add_right _ _
          · rw [z]; exact Nat.le_add_right _ _
          · rw [z]; exact Nat.le_add_right _ _
          · rw [z]; exact Nat.le_refl _
          · rw [z]; exact Nat.le_add_right _ _
        exact I1.fpOk hle (I1.hok.fresh hle)
      obtain ⟨its, rv, p1, la⟩ := seqB_of I1 hqx
      obtain ⟨its2, rv2, p2, lb⟩ := seqB_of I1 hqy
      refine zip_begins2 (begins_B ka a its.toArray) (begins_B kb b its2.toArray) p1 p2 fun h' hz hTI hTO h1 h2 hsz hk => wpAny_pyIter_zip hz ?_
      have I2 : Inv X pins σ H1 { s1 with heap := h' } := I1.kept (t' := s1.toks) hk
      exact ⟨s1.heap.objs.size + 4, [s1.heap.objs.size + 4, s1.heap.objs.size + 2, s1.heap.objs.size + 3, s1.heap.objs.size, s1.heap.objs.size + 1], _, _, H1, rfl, I2, turn_zipB (zip_sep2 (fp1 := [a]) (fp2 := [b]) (by simpa using la) (by simpa using lb)) (Nat.ne_of_lt la) (Nat.ne_of_lt (Nat.lt_succ_of_lt lb)), ⟨hz, hTI, ⟨_, _, hTO⟩, iterB_new h1, iterB_new h2⟩, fresh5, q⟩
section
variable {K : PySem.W.Frag} {σ : St} {G G' M M1 M2 M3 : Hp} {ta tb te tc : TE} {P P1 P2 : VP} {d e : Dat} {ds es : List Dat}
def seqD : Bool → List Dat → Dat
  | true => .tuple
  | false => .list
theorem sqB_of {k : Bool} {v : V} {G : Hp} (h : Dq K G v (seqD k ds)) : ∃ a vs, v = .ref a ∧ (∀ H, Same G H → SqB K k H a vs) ∧ DqAll K G vs ds := by
  cases k with
  | true =>
    obtain ⟨a, vs, rfl, h1, h2⟩ := dp_tuple h
    exact ⟨a, vs, rfl, fun H s => sqT_up s h1, h2⟩
  | false =>
    obtain ⟨a, vs, rfl, h1, h2⟩ := dp_list h
    exact ⟨a, vs, rfl, fun H s => .inl (.inl (s _ _ h1)), h2⟩
theorem src_enumT {ta : TA} (h : EvA ta σ G M M1 (conP (DD K (.tuple ds)) nilP)) : Src K (iEnumT K ta) σ G M M1 (enumD ds) := fun G0 H s k R q =>
  h G0 H s k _ fun vs G1 H1 s1 k1 hv => by
    obtain ⟨v, rfl, hw⟩ := one_of (R := nilP) hv
    obtain ⟨a, vs, rfl, h1, h2⟩ := dp_tuple hw
    refine ⟨a, vs, rfl, sqT_up k1.g h1, q _ G1 H1 s1 k1 ?_⟩
    have w : Walk (IteT K a) vs.length (fun H => SqT K H a vs) (YPair (fun i => some (.int (i : Nat))) (fun i => vs[i]?)) := by
      refine ⟨fun i _ hi q => ⟨vs, vs[i], q, by simp [hi]⟩, fun _ q => ⟨vs, q, rfl⟩, fun i H v H' _ q y => ?_⟩
      obtain ⟨T, x, h1, h2, h3, h4⟩ := y
      exact ⟨T, .int (i : Nat), x, h1, h2, h3, rfl, h4 vs q⟩
    refine walks_pair w (by simp [enumD, dpAll_len h2]) (fun H s => sqT_up s h1) fun i d x y hd hx hy => ?_
    cases hx
    unfold enumD at hd
    rw [List.getElem?_mapIdx] at hd
    cases e : ds[i]? with
    | none => rw [e] at hd; cases hd
    | some d' =>
      rw [e] at hd
      cases hd
      exact ⟨_, _, rfl, .int _, dqAll_at h2 hy e⟩
theorem src_zipB {ka kb : Bool} {ta : TA} (h : EvA ta σ G M M1 (conP (DD K (seqD ka ds)) (conP (DD K (seqD kb es)) nilP))) : Src K (iZipB K ka kb ta) σ G M M1 (zipD ds es) := fun G0 H s k R q =>
  h G0 H s k _ fun vs G1 H1 s1 k1 hv => by
    obtain ⟨v, w, rfl, hv1, hw1⟩ := two_of hv
    obtain ⟨a, vs, rfl, h1, h2⟩ := sqB_of hv1
    obtain ⟨b, ws, rfl, h3, h4⟩ := sqB_of hw1
    refine ⟨a, b, vs, ws, rfl, h1 _ k1.g, h3 _ k1.g, q _ G1 H1 s1 k1 ?_⟩
    have w : Walk (ItzB K ka kb a b) (min vs.length ws.length) (fun H => SqB K ka H a vs ∧ SqB K kb H b ws) (YPair (fun i => vs[i]?) (fun i => ws[i]?)) := by
      refine ⟨fun i _ hi q => ?_, fun _ q => ⟨vs, ws, q.1, q.2, rfl⟩, fun i H v H' _ q y => ?_⟩
      · have h1 : i < vs.length := by omega
        have h2 : i < ws.length := by omega
        exact ⟨vs, ws, vs[i], ws[i], q.1, q.2, by simp [h1], by simp [h2]⟩
      · obtain ⟨T, x, z, h1, h2, h3, h4, h5⟩ := y
        exact ⟨T, x, z, h1, h2, h3, h4 vs q.1, h5 ws q.2⟩
    refine walks_pair w (by simp [zipD, dpAll_len h2, dpAll_len h4]) (fun H s => ⟨h1 _ s, h3 _ s⟩) fun i d x y hd hx hy => ?_
    obtain ⟨p, q, rfl, e1, e2⟩ := zipD_get hd
    exact ⟨p, q, rfl, dqAll_at h2 hx e1, dqAll_at h4 hy e2⟩
end
end Kx

end

section
set_option maxHeartbeats 2000000
namespace Kx
open PySem L2
section
variable {X : Cx} {K : PySem.W.Frag}
theorem ix_listK (h : X.K = K := by rfl) : IxR X (rIxL K) := h ▸ ix_list
theorem ix_tupK (h : X.K = K := by rfl) : IxR X (rIxT K) := h ▸ ix_tup
theorem sl_listK (h : X.K = K := by rfl) : SlR X (rSlL K) := h ▸ sl_list
theorem sl_tupK (h : X.K = K := by rfl) : SlR X (rSlA K) := h ▸ sl_tupA
theorem cl_lenK (h : X.K = K := by rfl) : CallR X (.builtin "len") (rLen K) := h ▸ cl_len
theorem cl_listK (h : X.K = K := by rfl) : CallR X (.type "list") (rListOf K) := h ▸ cl_list
theorem cl_tupleK (h : X.K = K := by rfl) : CallR X (.type "tuple") (rTupOf K) := h ▸ cl_tuple
theorem call_isiKK (h : X.K = K := by rfl) : CallR X (.builtin "isinstance") (rIsi K) := h ▸ call_isi
theorem cr_sumK (hc : X.calm = true) (h : X.K = K := by rfl) : CallR X (.builtin "sum") (rSum K) := h ▸ cr_sum hc
theorem cr_anyK (hc : X.calm = true) (h : X.K = K := by rfl) : CallR X (.builtin "any") (rAny K) := h ▸ cr_any hc
theorem cr_allK (hc : X.calm = true) (h : X.K = K := by rfl) : CallR X (.builtin "all") (rAll K) := h ▸ cr_all hc
theorem op_eqDK (hu : X.A.units + 64 < cLine) (h : X.K = K := by rfl) : OpR X (compareOp .Eq) (rEqD K) := h ▸ op_eqD hu
theorem op_neDK (hu : X.A.units + 64 < cLine) (h : X.K = K := by rfl) : OpR X (compareOp .NotEq) (rNeD K) := h ▸ op_neD hu
theorem op_inDK (hu : X.A.units + 65 < cLine) (h : X.K = K := by rfl) : OpR X (compareOp .In) (rInD K) := h ▸ op_inD hu
theorem op_notInDK (hu : X.A.units + 65 < cLine) (h : X.K = K := by rfl) : OpR X (compareOp .NotIn) (rNotInD K) := h ▸ op_notInD hu
theorem op_catAK (h : X.K = K := by rfl) : OpR X (binaryOp .Add) (rCatA K) := h ▸ op_catA
theorem pi_listK {tg l : Expr} {tl : TE} (hl : PE X l tl) (h : X.K = K := by rfl) : PI X tg l (iList K tl) := h ▸ pi_list hl
theorem pi_tupK {tg l : Expr} {tl : TE} (hl : PE X l tl) (h : X.K = K := by rfl) : PI X tg l (iTup K tl) := h ▸ pi_tup hl
theorem pi_enumK {e : Expr} {ta : TA} {p pos tpos : Pos} {elts : List Expr} {kk : Nat} (hg : Gl X "enumerate") (hm : X.mg "enumerate" = none) (ha : PA X [e] ta) (h : X.K = K := by rfl) (hs : starEach [e] X.env = [(false, eval e X.env)] := by rfl) :
    PI X (.Tuple elts kk tpos) (.Call (.Name "enumerate" p) [e] [] pos) (iEnum K ta) := h ▸ pi_enum hg hm ha hs
theorem pi_enumTK {e : Expr} {ta : TA} {p pos tpos : Pos} {elts : List Expr} {kk : Nat} (hg : Gl X "enumerate") (hm : X.mg "enumerate" = none) (ha : PA X [e] ta) (h : X.K = K := by rfl) (hs : starEach [e] X.env = [(false, eval e X.env)] := by rfl) :
    PI X (.Tuple elts kk tpos) (.Call (.Name "enumerate" p) [e] [] pos) (iEnumT K ta) := h ▸ pi_enumT hg hm ha hs
theorem pi_zipK {e e2 : Expr} {ta : TA} {p pos tpos : Pos} {elts : List Expr} {kk : Nat} (hg : Gl X "zip") (hm : X.mg "zip" = none) (ha : PA X [e, e2] ta) (h : X.K = K := by rfl)
    (hs : starEach [e, e2] X.env = (false, eval e X.env) :: starEach [e2] X.env := by rfl) (hpl : (backTo pos (starEach [e2] X.env)).any (·.1) = false := by rfl) :
    PI X (.Tuple elts kk tpos) (.Call (.Name "zip" p) [e, e2] [] pos) (iZip K ta) := h ▸ pi_zip hg hm ha hs hpl
theorem pi_zipBK (ka kb : Bool) {e e2 : Expr} {ta : TA} {p pos tpos : Pos} {elts : List Expr} {kk : Nat} (hg : Gl X "zip") (hm : X.mg "zip" = none) (ha : PA X [e, e2] ta) (h : X.K = K := by rfl)
    (hs : starEach [e, e2] X.env = (false, eval e X.env) :: starEach [e2] X.env := by rfl) (hpl : (backTo pos (starEach [e2] X.env)).any (·.1) = false := by rfl) :
    PI X (.Tuple elts kk tpos) (.Call (.Name "zip" p) [e, e2] [] pos) (iZipB K ka kb ta) := h ▸ pi_zipB ka kb hg hm ha hs hpl
end
end Kx

end

section
set_option maxHeartbeats 2000000
namespace Kx
open PySem L2
/-! ### a call by names alone -/
structure KBw (K : PySem.W.Frag) (fd : FuncData) (ps ks : List Str) (g : {α : Type} → List α → List α) : Prop where
  to : ∀ (s : Shared) (ws : List Value), K.In s.heap → ws.length = ks.length → BindsTo s fd ⟨[], ks.zip ws⟩ (ps.zip (g ws))
  rel : ∀ {zs : List V} {ws : List Value}, Vals zs ws → Vals (g zs) (g ws)
def tCallKw (n : Nat) (sp : Sp) (gV : List V → List V) (E : XK) (tk : TA) : TE := fun σ H Q => tk σ H fun zs H2 => zs.length = n ∧ sp (gV zs) H2 Q E
theorem pe_callKw {X : Cx} {CX : CXT} {k : Nat} {f : Addr} {fd : FuncData} {ps ks : List Str} {sp : Sp} {E : XK} {x : Str} {p pos : Pos} {kws : List Keyword} {tk : TA} {g : {α : Type} → List α → List α}
    (F : FnOk X.prog X.w X.K X.mg X.base CX k f fd ps sp) (hr : Room k X.A) (hg : Gl X x) (hm : X.mg x = some (.ref f)) (hk : PySem.W.keepIn X.K (.ref f) = true) (hb : KBw X.K fd ps ks g) (hx : Passes CX X E)
    (hkw : PK X kws tk) (hall : (backToKw pos (keywordEach kws X.env)).all (·.1.isSome) = true := by rfl) (hks : (backToKw pos (keywordEach kws X.env)).filterMap (·.1) = ks := by rfl)
    (hdb : (x == ("__debug__" : Str)) = false := by decide)
    (hpl : ((backTo pos (starEach [] X.env)).any (·.1) || (backToKw pos (keywordEach kws X.env)).any (·.1.isNone)) = false := by rfl) :
    PE X (.Call (.Name x p) [] kws pos) (tCallKw ks.length sp g E tk) := by
  refine ⟨fun pins s σ H Q I h => ?_⟩
  refine wpAny_Call_Name_kw (ld_glob I hg hm ?_ hdb)
  refine PySem.W.callWith_KW0 (h₀ := X.base) I.ok.mod.kin hk hall (thn (hkw.run pos pins s σ H _ I h) fun ws s2 ⟨zs, H2, I2, rz, l2, q2⟩ => ⟨I2.kIn, ?_⟩) hpl
  rw [hks]
  have r2 := hb.rel rz
  refine wpAny_call (codeAny_mono (F.run X.A X.stack s2 H2 ⟨[], ks.zip ws⟩ (g ws) (g zs) Q E hr I2.env0 (hb.to s2 ws I2.kIn (rz.length.symm.trans l2)) r2 q2) fun r s' hq => ?_)
  cases r with
  | error e => exact hx pins σ H2 s2 e s' I2 hq
  | ok fl =>
    cases fl with
    | ret u => exact I2.after hq
    | next => exact False.elim hq
    | brk => exact False.elim hq
    | cont => exact False.elim hq
theorem kbw_of {K : PySem.W.Frag} {x qual : Str} {st : Stmt} {f : Addr} {fd : FuncData} {ps ks : List Str} {g : {α : Type} → List α → List α} (F : Fun K x qual st f fd)
    (h : ∀ (kV doc pm : Value) (an : Option Addr) (cdv ct : Value) (ws : List Value), ws.length = ks.length → bindArgs (PySem.W.fnOf x qual (defArgs st) (defBody st) (defScope st) .none kV doc pm an cdv ct) ⟨[], ks.zip ws⟩ = pure (ps.zip (g ws)))
    (hr : ∀ {zs : List V} {ws : List Value}, Vals zs ws → Vals (g zs) (g ws)) : KBw K fd ps ks g := by
  obtain ⟨oc, od, kV, doc, pm, an, cdv, ct, osl, rfl, lk, hcd⟩ := F.ex
  exact ⟨fun s ws _ hl => .of_eq (h kV doc pm an cdv ct ws hl), hr⟩
section
variable {K : PySem.W.Frag} {σ : St} {G G' M M1 M2 M3 : Hp} {ta tb te tc : TE} {P P1 P2 : VP} {d e : Dat} {ds es : List Dat} {D : Ends} {H : Hp} {u : TS}
/-- the values by names, put in the def's own order -/
theorem ev_callKP {α ρ : Type} {args : α → List V → Hp → Prop} {m : α → Option ρ} {res : ρ → VP} {E : XK} {t : TA} {a : α} {r : ρ} {n : Nat} {gV : List V → List V} {Ps : List V → Hp → Prop} (hm : m a = some r) (hg : ∀ vs G, Ps vs G → vs.length = n ∧ args a (gV vs) G) (ha : EvA t σ G M M1 Ps) : Ev (tCallKw n (spP args m res) gV E t) σ G M M1 (res r) := fun G0 H s k Q q =>
  ha G0 H s k _ fun vs G1 H1 s1 k1 hv => ⟨(hg vs G1 hv).1, G1, M1, a, r, k1, (hg vs G1 hv).2, hm, fun v G2 H2 s2 k2 hr => q v G2 H2 (s1.trans s2) k2 hr⟩

/-! ### a list or a tuple -/
abbrev eQ {α : Type} (e : α → Dat) (q : Bool × List α) : Dat := seqD q.1 (q.2.map e)
theorem ev_lenQ {β : Type} {e : β → Dat} {q : Bool × List β} (ha : EvA (tCons ta tNil) σ G M M1 (conP (DD K (eQ e q)) nilP)) : Ev (tCB (rLen K) (tCons ta tNil)) σ G M M1 (DD K (.int (q.2.length : Int))) := by
  obtain ⟨k, xs⟩ := q
  cases k with
  | true => exact ev_lenTM ha
  | false => exact ev_lenLM ha
theorem ix_seqK {X : Cx} (h : X.K = K := by rfl) : IxR X (rIx K) := h ▸ ix_seq
theorem ev_ixQ {β : Type} {e : β → Dat} {q : Bool × List β} {i : Int} {x : β} (hi : atI q.2 i = some x) (ha : Ev ta σ G M M1 (DD K (eQ e q))) (hb : Ev tb σ G M1 M2 (DD K (.int i))) : Ev (tOp (rIx K) ta tb) σ G M M2 (DD K (e x)) := by
  obtain ⟨k, xs⟩ := q
  refine ev_op mo_dd ha hb fun x' y G0 H s kk hx hy Q q => ?_
  cases hy
  obtain ⟨a, vs, rfl, h1, h2⟩ := sqB_of hx
  obtain ⟨v, h3, h4⟩ := atI_of h2 (atI_map hi)
  cases k with
  | true => exact .inr (.inl ⟨a, vs, i, v, rfl, rfl, h1 _ kk.g, h3, q v G0 H (Same.refl _) kk h4⟩)
  | false => exact .inl ⟨a, vs, i, v, rfl, rfl, h1 _ kk.g, h3, q v G0 H (Same.refl _) kk h4⟩
/-! ### what may be None, and isn't -/
theorem ev_unO {β : Type} {e : β → Dat} {o : Option β} {x : β} (h : o = some x) (ha : Ev ta σ G M M1 (DD K (eO e o))) : Ev ta σ G M M1 (DD K (e x)) := by subst h; exact ha
/-! ### the script -/
def SCP (K : PySem.W.Frag) (ns : List Int) : VP := fun v G => ∃ a, v = .ref a ∧ SqL K G a (ns.map V.int)
theorem mo_scp {ns : List Int} : Mo (SCP K ns) := fun _ _ _ s ⟨a, e, h⟩ => ⟨a, e, s.seq h⟩
theorem ev_lenScr {ns : List Int} (ha : EvA (tCons ta tNil) σ G M M1 (conP (SCP K ns) nilP)) : Ev (tCB (rLen K) (tCons ta tNil)) σ G M M1 (DD K (.int (ns.length : Int))) := ev_cb ha fun xs G0 H s k hx Q q => by
  obtain ⟨v, rfl, a, rfl, ha⟩ := one_of (R := nilP) hx
  refine ⟨a, _, rfl, .inl (k.g.seq ha), q _ G0 H (Same.refl _) k ?_⟩
  rw [List.length_map]
  exact .int _
theorem ev_ixScr {ns : List Int} {i x : Int} (hi : atI ns i = some x) (ha : Ev ta σ G M M1 (SCP K ns)) (hb : Ev tb σ G M1 M2 (DD K (.int i))) : Ev (tOp (rIxL K) ta tb) σ G M M2 (DD K (.int x)) := ev_op mo_scp ha hb fun x' y G0 H s k hx hy Q q => by
  obtain ⟨a, rfl, ha⟩ := hx
  cases hy
  exact ⟨a, _, i, .int x, rfl, rfl, k.g.seq ha, atI_map hi, q _ G0 H (Same.refl _) k (.int _)⟩
/-! ### a def that makes a store -/
def spO {α : Type} (args : α → List V → Hp → Prop) (m : α → Option Sto) : Sp := fun vs H Q _ =>
  ∃ (G M : Hp) (a : α) (z : Sto), Ok G M H ∧ args a vs G ∧ m a = some z ∧ ∀ p G' H', Same G G' → Ok G' (upd M p (sto z)) H' → M p = none → Q (.ref p) H'
theorem q_retL (he : EvL K te σ G M M1 ds) (ok : Ok G M H) (k : ∀ p vs G' H', Same G G' → Ok G' (upd M1 p (.lst vs)) H' → M1 p = none → DqAll K G' vs ds → D.rt (.ref p) H') : tSeq (tRet te) u D σ H := he G H (Same.refl _) ok _ k
theorem vs_sto {G : Hp} {vs : List V} {x y z : Int} (h : DqAll K G vs [.int x, .int y, .int z]) : vs = [.int x, .int y, .int z] := by
  cases h with
  | cons a b => cases a; cases b with
    | cons a b => cases a; cases b with
      | cons a b => cases a; cases b; rfl
/-- f(g(..)): the store that g makes is handed on to f -/
theorem ev_open {α ρ : Type} {ao : α → List V → Hp → Prop} {mo : α → Option Sto} {args : Unit → List V → Hp → Prop} {m : Unit → Sto → Option (ρ × Sto)} {res : ρ → VP} {E E' : XK} {t : TA} {a : α} {z : Sto} {r : ρ × Sto} (h1 : mo a = some z) (h2 : m () z = some r) (hn : ∀ G, args () [] G) (ha : EvA t σ G M M1 (ao a)) :
    Ev (tCall (spD args m res) [] E (tCons (tCall (spO ao mo) [] E' t) tNil)) σ G M M1 (res r.1) := fun G0 H s k Q q =>
  ha G0 H s k _ fun vs G1 H1 s1 k1 hv => by
    rw [List.append_nil]
    refine ⟨G1, M1, a, z, k1, hv, h1, fun p G2 H2 s2 k2 hp => ?_⟩
    refine ⟨G2, upd M1 p (sto z), p, z, r.2, (), r.1, [], rfl, k2, upd_same, hn G2, h2, fun v G3 H3 s3 k3 hr => ?_⟩
    rw [upd_upd] at k3
    exact q v G3 H3 ((s1.trans s2).trans s3) (k3.less (Same.new hp)) hr
end
end Kx

end

section
namespace Kx
open PySem L2
/-- one draw -/
def pullM (a : Int) (z : Sto) : Option (Int × Sto) :=
  cond (decide ((0 : Int) < z.1)) ((dmO z.1 a).bind fun t1 => some (t1.2, (t1.1, z.2.1, z.2.2 + 1)))
    ((modO z.2.1 40961).bind fun t1 => (mulO z.2.1 (t1 + 20011)).bind fun t2 => (mulO 50021 (z.2.2 + 1)).bind fun t3 => (modO (t2 + t3 + 3) 1000000433).bind fun t4 => (fdivO t4 48).bind fun t5 => (modO t5 a).bind fun t6 => some (t6, (z.1, t4, z.2.2 + 1)))
end Kx
namespace Kx
open PySem L2
theorem same_upd2 {M0 M : Hp} {p : Addr} {o : HO} (h : Same M0 M) : Same (upd M0 p o) (upd M p o) := fun a u e => by
  by_cases ha : a = p
  · subst ha; rw [upd_same] at e ⊢; exact e
  · rw [upd_ne ha] at e ⊢; exact h a u e
end Kx

end

section
set_option maxHeartbeats 2000000
namespace Kx
open PySem L2
section
variable {K : PySem.W.Frag} {σ σ' : St} {G G' M M1 M2 M3 : Hp} {ta tb te tc : TE} {P P1 P2 : VP} {d e : Dat} {ds es : List Dat} {D : Ends} {H : Hp} {u : TS}
/-! ### truth of things -/
def tTru (K : PySem.W.Frag) (ta : TE) : TT := fun σ H Q => ta σ H fun x H' => ∃ k, TruV K x H' k ∧ Q k H'
theorem pt_tru {X : Cx} {a : Expr} (ha : PE X a ta) (he : ∀ whole, isTrue a X.env whole = (do let v ← whole; standAt a.pos; holding [v] (truthy v)) := by intro _; rfl) (h : X.K = K := by rfl) : PT X a (tTru K ta) := h ▸ pt_truth ha he
theorem isEmpty_map {α β : Type} {f : α → β} {xs : List α} : (xs.map f).isEmpty = xs.isEmpty := by cases xs <;> rfl
theorem isEmpty_len {vs : List V} (h : DqAll K G vs ds) : vs.isEmpty = ds.isEmpty := by cases h <;> rfl
theorem et_truL {β : Type} {e : β → Dat} {xs : List β} (h : Ev te σ G M M1 (DD K (.list (xs.map e)))) : EvT (tTru K te) σ G M M1 (!xs.isEmpty) := fun G0 H s k Q q => h G0 H s k _ fun v G1 H1 s1 k1 hv => by
  obtain ⟨a, vs, rfl, h1, h2⟩ := dp_list hv
  refine ⟨_, .inl ⟨vs, .inl (.inl (k1.g _ _ h1)), rfl⟩, ?_⟩
  rw [isEmpty_len h2, isEmpty_map]
  exact q G1 H1 s1 k1
theorem et_truT {β : Type} {e : β → Dat} {xs : List β} (h : Ev te σ G M M1 (DD K (.tuple (xs.map e)))) : EvT (tTru K te) σ G M M1 (!xs.isEmpty) := fun G0 H s k Q q => h G0 H s k _ fun v G1 H1 s1 k1 hv => by
  obtain ⟨a, vs, rfl, h1, h2⟩ := dp_tuple hv
  refine ⟨_, .inr (.inl ⟨vs, sqT_up k1.g h1, rfl⟩), ?_⟩
  rw [isEmpty_len h2, isEmpty_map]
  exact q G1 H1 s1 k1
theorem et_truO {β : Type} {e : β → Dat} {xs : List β} {p : Addr} {vs : List V} (hp : M1 p = some (.lst vs)) (hd : DqAll K G vs (xs.map e)) (h : Ev te σ G M M1 (OW p)) : EvT (tTru K te) σ G M M1 (!xs.isEmpty) := fun G0 H s k Q q => h G0 H s k _ fun v G1 H1 s1 k1 hv => by
  cases hv
  refine ⟨_, .inl ⟨vs, .inl (.inl (k1.m _ _ hp)), rfl⟩, ?_⟩
  rw [isEmpty_len hd, isEmpty_map]
  exact q G1 H1 s1 k1
theorem et_truI {i : Int} (h : Ev te σ G M M1 (DD K (.int i))) : EvT (tTru K te) σ G M M1 (i != 0) := fun G0 H s k Q q => h G0 H s k _ fun v G1 H1 s1 k1 hv => by
  cases hv
  exact ⟨_, rfl, q G1 H1 s1 k1⟩
/-! ### range(i, j, -1) -/
def drange (i j : Int) : List Int := (List.range (i - j).toNat).map fun k : Nat => i - (k : Int)
theorem drange_len (i j : Int) : (drange i j).length = (i - j).toNat := by
  unfold drange
  rw [List.length_map, List.length_range]
theorem drange_get {lo hi : Int} {i : Nat} (h : i < (lo - hi).toNat) : (drange lo hi)[i]? = some (lo - (i : Int)) := by
  unfold drange
  rw [List.getElem?_map, List.getElem?_range h]
  rfl
def rngDO (i j : Int) : Option (List Int) := (grd ((-(2 ^ 62) ≤ i ∧ i < 2 ^ 62) ∧ -(2 ^ 62) ≤ j ∧ j < 2 ^ 62)).bind fun _ => some (drange i j)
theorem walks_drange {i j : Int} : Walks K (Itc i (-1) (i - j).toNat) G ((drange i j).map Dat.int) := by
  have el : ((drange i j).map Dat.int).length = (i - j).toNat := by rw [List.length_map, drange_len]
  refine ⟨YFn fun k => .int (i + (k : Nat) * (-1)), fun _ => True, (by rw [el]; exact walk_rangeC), fun H _ => True.intro, fun k d H x H' G2 M2 hd s2 k2 y => ?_⟩
  obtain ⟨rfl, rfl⟩ := y
  have hi : k < (i - j).toNat := by
    rw [← el]
    exact (List.getElem?_eq_some_iff.mp hd).1
  rw [List.getElem?_map, drange_get hi] at hd
  cases hd
  have e : i + (k : Int) * (-1) = i - (k : Int) := by omega
  show ∃ G3, Same G2 G3 ∧ Ok G3 M2 H' ∧ Dq K G3 (V.int (i + (k : Int) * (-1))) (Dat.int (i - (k : Int)))
  rw [e]
  exact ⟨G2, Same.refl _, k2, .int _⟩
theorem three_of {P2 : VP} {xs : List V} {G : Hp} (h : conP P (conP P1 (conP P2 nilP)) xs G) : ∃ v w x, xs = [v, w, x] ∧ P v G ∧ P1 w G ∧ P2 x G := by
  obtain ⟨v, r, rfl, hp, hr⟩ := h
  obtain ⟨w, r, rfl, hq, hr⟩ := hr
  obtain ⟨x, r, rfl, ht, hr⟩ := hr
  cases hr
  exact ⟨v, w, x, rfl, hp, hq, ht⟩
theorem src_rngDO {ta : TA} {j k c : Int} {xs : List Int} (h : rngDO j k = some xs) (hc : c = -1) (ha : EvA ta σ G M M1 (conP (DD K (.int j)) (conP (DD K (.int k)) (conP (DD K (.int c)) nilP)))) : Src K (iRng3 ta) σ G M M1 (xs.map Dat.int) := by
  obtain ⟨_, h1, h2⟩ := bs h
  cases h2
  subst hc
  have z := grd_of h1
  exact fun G0 H s k R q => ha G0 H s k _ fun vs G1 H1 s1 k1 hv => by
    obtain ⟨v, w, x, rfl, hv1, hw1, hx1⟩ := three_of hv
    cases hv1; cases hw1; cases hx1
    exact ⟨_, _, _, _, rfl, RgC.neg z.1.1 z.1.2 z.2.1 z.2.2, q _ G1 H1 s1 k1 walks_drange⟩
/-! ### sum of a tuple -/
def rSumT (K : PySem.W.Frag) : List V → Hp → VK → Prop := fun vs H Q => ∃ (a : Addr) (ns : List Int), vs = [V.ref a] ∧ SqT K H a (ns.map V.int) ∧ Q (.int ns.sum) H
theorem sumT_raw {prog : Program} {w : World} {A : Around} {E : Value → Shared → Prop} {s : Shared} {l : Addr} {its : List Value} {ns : List Int} {Q : Value → Shared → Prop} (hh : A.handled = none) (hl : s.heap.IsTuple l its.toArray) (hi : PyProof.Rows.IntsAre its ns)
    (h : ∀ h' tk t', (∀ b o, s.heap.get? b = some o → h'.get? b = some o) → Q (.int ns.sum t') { s with heap := h', toks := tk }) : wpAny (model prog w) A (call (.builtin "sum") [.ref l]) Q E s := by
  obtain ⟨xs, e⟩ := hi.allInts.items
  have hn : numsOf (intItems xs).toList = ns := by rw [← e]; exact hi.numsOf
  rw [nums_intItems] at hn
  rw [e] at hl
  refine PySem.W.ktm_sumG hh hl fun h' tk t' hk => ?_
  have := h h' tk t' hk
  rw [preSum_eq, List.take_of_length_le (by simp), hn]; exact this
theorem cr_sumTK {X : Cx} (hc : X.calm = true) (h : X.K = K := by rfl) : CallR X (.builtin "sum") (rSumT K) := by
  subst h
  intro pins s σ H vs us Q I r h
  obtain ⟨a, ns, rfl, hs, q⟩ := h
  obtain ⟨its, rv, hl, _⟩ := I.tuple hs
  rw [Vals.ref1 r]
  exact sumT_raw (I.ok.hd hc) hl rv.ints fun h' tk t' hk => ⟨.int _, H, I.kept hk, ⟨_, rfl⟩, q⟩
theorem ev_sumT {ns : List Int} (ha : EvA (tCons ta tNil) σ G M M1 (conP (DD K (.tuple (ns.map Dat.int))) nilP)) : Ev (tCB (rSumT K) (tCons ta tNil)) σ G M M1 (DD K (.int ns.sum)) := ev_cb ha fun xs G0 H s k hx Q q => by
  obtain ⟨v, rfl, hv⟩ := one_of (R := nilP) hx
  obtain ⟨a, vs, rfl, ha, hb⟩ := dp_tuple hv
  rw [dpAll_ints hb] at ha
  exact ⟨a, ns, rfl, sqT_up k.g ha, q _ G0 H (Same.refl _) k (.int _)⟩
end
end Kx

end

section
set_option maxHeartbeats 2000000
namespace Kx
open PySem L2
section
variable {K : PySem.W.Frag} {σ σ' : St} {G G' M M1 M2 M3 : Hp} {ta tb te tc : TE} {P P1 P2 : VP} {d e : Dat} {ds es : List Dat} {D : Ends} {H : Hp} {u : TS}
/-! ### several targets at once -/
def EvX (ta : TA) (σ : St) (G M : Hp) (F : List V → Hp → Hp → Prop) : Prop :=
  ∀ G0 H, Same G G0 → Ok G0 M H → ∀ Q : List V → Hp → Prop, (∀ vs G' M' H', Same G0 G' → Ok G' M' H' → F vs G' M' → Q vs H') → ta σ H Q
theorem ex_nil : EvX tNil σ G M fun vs _ M' => vs = [] ∧ M' = M := fun G0 H _ k Q q => q [] G0 M H (Same.refl _) k ⟨rfl, rfl⟩
theorem ex_D {tr : TA} {R : List V → Hp → Hp → Prop} (m : Mo P) (ha : Ev ta σ G M M1 P) (hr : EvX tr σ G M1 R) : EvX (tCons ta tr) σ G M fun vs G' M' => ∃ v r, vs = v :: r ∧ P v G' ∧ R r G' M' := fun G0 H s k Q q =>
  ha G0 H s k _ fun x G1 H1 s1 k1 hx => hr G1 H1 (s.trans s1) k1 _ fun xs G2 M2 H2 s2 k2 hy => q (x :: xs) G2 M2 H2 (s1.trans s2) k2 ⟨x, xs, rfl, m x G1 G2 s2 hx, hy⟩
theorem ex_L {tr : TA} {R : Addr → List V → List V → Hp → Hp → Prop} (ha : EvL K ta σ G M M1 ds) (hr : ∀ p ws, M1 p = none → EvX tr σ G (upd M1 p (.lst ws)) (R p ws)) :
    EvX (tCons ta tr) σ G M fun vs G' M' => ∃ p ws r, vs = .ref p :: r ∧ M1 p = none ∧ DqAll K G' ws ds ∧ R p ws r G' M' := fun G0 H s k Q q =>
  ha G0 H s k _ fun p ws G1 H1 s1 k1 hp hd => hr p ws hp G1 H1 (s.trans s1) k1 _ fun xs G2 M2 H2 s2 k2 hy => q (.ref p :: xs) G2 M2 H2 (s1.trans s2) k2 ⟨p, ws, xs, rfl, hp, dpAll_up s2 _ hd, hy⟩
theorem q_parX {i j : Nat} {ta : TA} {F : List V → Hp → Hp → Prop} (he : EvX ta σ G M F) (ok : Ok G M H) (k : ∀ vs G' M' H', Same G G' → Ok G' M' H' → F vs G' M' → ∃ v w, vs = [v, w] ∧ u D ((σ.set i (some v)).set j (some w)) H') : tSeq (tPar i j ta) u D σ H :=
  he G H (Same.refl _) ok _ fun vs G1 M1 H1 s1 k1 hv => k vs G1 M1 H1 s1 k1 hv
theorem q_par3X {i j l : Nat} {ta : TA} {F : List V → Hp → Hp → Prop} (he : EvX ta σ G M F) (ok : Ok G M H) (k : ∀ vs G' M' H', Same G G' → Ok G' M' H' → F vs G' M' → ∃ v w x, vs = [v, w, x] ∧ u D (((σ.set i (some v)).set j (some w)).set l (some x)) H') : tSeq (tPar3 i j l ta) u D σ H :=
  he G H (Same.refl _) ok _ fun vs G1 M1 H1 s1 k1 hv => k vs G1 M1 H1 s1 k1 hv
/-! the same where a tuple is made on the way -/
theorem q_tupX {n : Nat} {g : TGs} {ta : TA} {F : List V → Hp → Hp → Prop} (he : EvX ta σ G M F) (ok : Ok G M H) (k : ∀ vs G' M' H', Same G G' → Ok G' M' H' → F vs G' M' → vs.length ≤ sizeLine ∧ ∀ p, H' p = none → gTup K n g (.ref p) σ (upd H' p (.tup vs)) (u D)) : tSeq (tAsg (tTup ta) (gTup K n g)) u D σ H :=
  he G H (Same.refl _) ok _ fun vs G1 M1 H1 s1 k1 hv => k vs G1 M1 H1 s1 k1 hv
theorem tup_go2 {i j : Nat} {v w : V} (k : Ok G M H) (h : ∀ G' H', Same G G' → Ok G' M H' → u D ((σ.set i (some v)).set j (some w)) H') : [v, w].length ≤ sizeLine ∧ ∀ p, H p = none → gTup K 2 (gCons (gName i) (gCons (gName j) gNil)) (.ref p) σ (upd H p (.tup [v, w])) (u D) := by
  refine ⟨by show 2 ≤ sizeLine; decide, fun p hp => ?_⟩
  have sp : Same G (upd G p (.tup [v, w])) := Same.new (Same.none k.g hp)
  exact ⟨p, [v, w], rfl, .inl (.inl upd_same), rfl, v, [w], rfl, w, [], rfl, rfl, h _ _ sp (k.newG _ hp)⟩
theorem tup_go3 {i j l : Nat} {v w x : V} (k : Ok G M H) (h : ∀ G' H', Same G G' → Ok G' M H' → u D (((σ.set i (some v)).set j (some w)).set l (some x)) H') : [v, w, x].length ≤ sizeLine ∧ ∀ p, H p = none → gTup K 3 (gCons (gName i) (gCons (gName j) (gCons (gName l) gNil))) (.ref p) σ (upd H p (.tup [v, w, x])) (u D) := by
  refine ⟨by show 3 ≤ sizeLine; decide, fun p hp => ?_⟩
  have sp : Same G (upd G p (.tup [v, w, x])) := Same.new (Same.none k.g hp)
  exact ⟨p, [v, w, x], rfl, .inl (.inl upd_same), rfl, v, [w, x], rfl, w, [x], rfl, x, [], rfl, rfl, h _ _ sp (k.newG _ hp)⟩

/-! ### things of any kind -/
def isT : Dat → Bool
  | .tuple _ => true
  | _ => false
def isI : Dat → Bool
  | .int _ => true
  | .bool _ => true
  | _ => false
def isB : Dat → Bool
  | .bool _ => true
  | _ => false
def isS : Dat → Bool
  | .str _ => true
  | _ => false
def isL : Dat → Bool
  | .list _ => true
  | _ => false
/-- isinstance of a thing that is no instance of an own class -/
def isO (f : Dat → Bool) (d : Dat) : Option Bool := cond (isIns d) none (some (f d))
theorem isO_of {f : Dat → Bool} {b : Bool} (h : isO f d = some b) : isIns d = false ∧ f d = b := by
  unfold isO at h
  cases e : isIns d with
  | true => rw [e] at h; cases h
  | false => rw [e] at h; exact ⟨rfl, Option.some.inj h⟩
def IsC (n : String) (f : Dat → Bool) : Prop := ∀ d : Dat, isIns d = false → kitB (tyD d) n = some (f d)
theorem isc_T : IsC "tuple" isT := fun d h => by
  cases d with
  | none => exact (show kitB "NoneType" "tuple" = some false by decide +kernel)
  | bool _ => exact (show kitB "bool" "tuple" = some false by decide +kernel)
  | int _ => exact (show kitB "int" "tuple" = some false by decide +kernel)
  | str _ => exact (show kitB "str" "tuple" = some false by decide +kernel)
  | list _ => exact (show kitB "list" "tuple" = some false by decide +kernel)
  | tuple _ => exact (show kitB "tuple" "tuple" = some true by decide +kernel)
  | dK _ _ => exact (show kitB "dict" "tuple" = some false by decide +kernel)
  | dT _ _ => exact (show kitB "dict" "tuple" = some false by decide +kernel)
  | ins _ _ _ => cases h
theorem isc_I : IsC "int" isI := fun d h => by
  cases d with
  | none => exact (show kitB "NoneType" "int" = some false by decide +kernel)
  | bool _ => exact (show kitB "bool" "int" = some true by decide +kernel)
  | int _ => exact (show kitB "int" "int" = some true by decide +kernel)
  | str _ => exact (show kitB "str" "int" = some false by decide +kernel)
  | list _ => exact (show kitB "list" "int" = some false by decide +kernel)
  | tuple _ => exact (show kitB "tuple" "int" = some false by decide +kernel)
  | dK _ _ => exact (show kitB "dict" "int" = some false by decide +kernel)
  | dT _ _ => exact (show kitB "dict" "int" = some false by decide +kernel)
  | ins _ _ _ => cases h
theorem isc_B : IsC "bool" isB := fun d h => by
  cases d with
  | none => exact (show kitB "NoneType" "bool" = some false by decide +kernel)
  | bool _ => exact (show kitB "bool" "bool" = some true by decide +kernel)
  | int _ => exact (show kitB "int" "bool" = some false by decide +kernel)
  | str _ => exact (show kitB "str" "bool" = some false by decide +kernel)
  | list _ => exact (show kitB "list" "bool" = some false by decide +kernel)
  | tuple _ => exact (show kitB "tuple" "bool" = some false by decide +kernel)
  | dK _ _ => exact (show kitB "dict" "bool" = some false by decide +kernel)
  | dT _ _ => exact (show kitB "dict" "bool" = some false by decide +kernel)
  | ins _ _ _ => cases h
theorem isc_S : IsC "str" isS := fun d h => by
  cases d with
  | none => exact (show kitB "NoneType" "str" = some false by decide +kernel)
  | bool _ => exact (show kitB "bool" "str" = some false by decide +kernel)
  | int _ => exact (show kitB "int" "str" = some false by decide +kernel)
  | str _ => exact (show kitB "str" "str" = some true by decide +kernel)
  | list _ => exact (show kitB "list" "str" = some false by decide +kernel)
  | tuple _ => exact (show kitB "tuple" "str" = some false by decide +kernel)
  | dK _ _ => exact (show kitB "dict" "str" = some false by decide +kernel)
  | dT _ _ => exact (show kitB "dict" "str" = some false by decide +kernel)
  | ins _ _ _ => cases h
theorem isc_L : IsC "list" isL := fun d h => by
  cases d with
  | none => exact (show kitB "NoneType" "list" = some false by decide +kernel)
  | bool _ => exact (show kitB "bool" "list" = some false by decide +kernel)
  | int _ => exact (show kitB "int" "list" = some false by decide +kernel)
  | str _ => exact (show kitB "str" "list" = some false by decide +kernel)
  | list _ => exact (show kitB "list" "list" = some true by decide +kernel)
  | tuple _ => exact (show kitB "tuple" "list" = some false by decide +kernel)
  | dK _ _ => exact (show kitB "dict" "list" = some false by decide +kernel)
  | dT _ _ => exact (show kitB "dict" "list" = some false by decide +kernel)
  | ins _ _ _ => cases h
theorem ev_isiD {n : String} {f : Dat → Bool} {b : Bool} (hc : IsC n f) (h : isO f d = some b) (ha : EvA (tCons ta (tCons tb tNil)) σ G M M1 (conP (DD K d) (conP (CLS n) nilP))) : Ev (tCB (rIsi K) (tCons ta (tCons tb tNil))) σ G M M1 (DD K (.bool b)) := by
  obtain ⟨h1, h2⟩ := isO_of h
  exact ev_isi h1 (h2 ▸ hc d h1) ha
def lenD : Dat → Option Int
  | .tuple xs => some (xs.length : Int)
  | .list xs => some (xs.length : Int)
  | _ => none
theorem ev_lenD {n : Int} (h : lenD d = some n) (ha : EvA (tCons ta tNil) σ G M M1 (conP (DD K d) nilP)) : Ev (tCB (rLen K) (tCons ta tNil)) σ G M M1 (DD K (.int n)) := by
  cases d with
  | tuple xs => cases h; exact ev_lenT ha
  | list xs => cases h; exact ev_lenL ha
  | _ => cases h
def atD : Dat → Int → Option Dat
  | .tuple xs, i => atI xs i
  | .list xs, i => atI xs i
  | _, _ => none
theorem ev_ixD {i : Int} {x : Dat} (h : atD d i = some x) (ha : Ev ta σ G M M1 (DD K d)) (hb : Ev tb σ G M1 M2 (DD K (.int i))) : Ev (tOp (rIx K) ta tb) σ G M M2 (DD K x) := ev_op mo_dd ha hb fun v w G0 H s k hx hy Q q => by
  cases d with
  | tuple xs =>
    obtain ⟨a, vs, rfl, h1, h2⟩ := dp_tuple hx
    cases hy
    obtain ⟨v, h3, h4⟩ := atI_of h2 h
    exact .inr (.inl ⟨a, vs, i, v, rfl, rfl, sqT_up k.g h1, h3, q v G0 H (Same.refl _) k h4⟩)
  | list xs =>
    obtain ⟨a, vs, rfl, h1, h2⟩ := dp_list hx
    cases hy
    obtain ⟨v, h3, h4⟩ := atI_of h2 h
    exact .inl ⟨a, vs, i, v, rfl, rfl, .inl (.inl (k.g _ _ h1)), h3, q v G0 H (Same.refl _) k h4⟩
  | _ => cases h
def eqDO (d e : Dat) : Option Bool := (grd ((pur d = true ∧ pur e = true) ∧ (toPy d).depth ≤ 64 ∧ (toPy e).depth ≤ 64)).bind fun _ => some (PyData.eqv (toPy d) (toPy e))
theorem ev_eqDO {b : Bool} (h : eqDO d e = some b) (ha : Ev ta σ G M M1 (DD K d)) (hb : Ev tb σ G M1 M2 (DD K e)) : Ev (tOp (rEqD K) ta tb) σ G M M2 (DD K (.bool b)) := by
  obtain ⟨_, h1, h2⟩ := bs h
  cases h2
  have z := grd_of h1
  exact ev_eqD z.1.1 z.1.2 z.2.1 z.2.2 ha hb
theorem ev_neDO {b : Bool} (h : eqDO d e = some b) (ha : Ev ta σ G M M1 (DD K d)) (hb : Ev tb σ G M1 M2 (DD K e)) : Ev (tOp (rNeD K) ta tb) σ G M M2 (DD K (.bool (!b))) := by
  obtain ⟨_, h1, h2⟩ := bs h
  cases h2
  have z := grd_of h1
  exact ev_neD z.1.1 z.1.2 z.2.1 z.2.2 ha hb
def intD : Dat → Option Int
  | .int i => some i
  | _ => none
def strD : Dat → Option Str
  | .str x => some x
  | _ => none
def boolD : Dat → Option Bool
  | .bool x => some x
  | _ => none
def tupD : Dat → Option (List Dat)
  | .tuple x => some x
  | _ => none
def lstD : Dat → Option (List Dat)
  | .list x => some x
  | _ => none
theorem ev_intD {i : Int} (h : intD d = some i) (ha : Ev ta σ G M M1 (DD K d)) : Ev ta σ G M M1 (DD K (.int i)) := by
  cases d with
  | int j => cases h; exact ha
  | _ => cases h
theorem ev_strD {i : Str} (h : strD d = some i) (ha : Ev ta σ G M M1 (DD K d)) : Ev ta σ G M M1 (DD K (.str i)) := by
  cases d with
  | str j => cases h; exact ha
  | _ => cases h
theorem ev_boolD {i : Bool} (h : boolD d = some i) (ha : Ev ta σ G M M1 (DD K d)) : Ev ta σ G M M1 (DD K (.bool i)) := by
  cases d with
  | bool j => cases h; exact ha
  | _ => cases h
theorem ev_tupD {i : List Dat} (h : tupD d = some i) (ha : Ev ta σ G M M1 (DD K d)) : Ev ta σ G M M1 (DD K (.tuple (i.map id))) := by
  rw [List.map_id]
  cases d with
  | tuple j => cases h; exact ha
  | _ => cases h
theorem ev_lstD {i : List Dat} (h : lstD d = some i) (ha : Ev ta σ G M M1 (DD K d)) : Ev ta σ G M M1 (DD K (.list (i.map id))) := by
  rw [List.map_id]
  cases d with
  | list j => cases h; exact ha
  | _ => cases h
/-! ### least and greatest of a list of ints -/
def minL : List Int → Option Int
  | [] => none
  | x :: xs => some (xs.foldl (fun a b => if b < a then b else a) x)
def maxL : List Int → Option Int
  | [] => none
  | x :: xs => some (xs.foldl (fun a b => if a < b then b else a) x)
theorem foldl_min (xs : List Int) : ∀ x : Int, (xs.foldl (fun a b => if b < a then b else a) x ∈ x :: xs) ∧ ∀ y ∈ x :: xs, xs.foldl (fun a b => if b < a then b else a) x ≤ y := by
  induction xs with
  | nil =>
    intro x
    refine ⟨by simp, fun y hy => ?_⟩
    have e : y = x := by simpa using hy
    rw [e]
    exact Int.le_refl _
  | cons z zs ih =>
    intro x
    obtain ⟨h1, h2⟩ := ih (if z < x then z else x)
    rw [List.foldl_cons]
    refine ⟨?_, fun y hy => ?_⟩
    · rcases List.mem_cons.mp h1 with h | h
      · rw [h]
        split
        · exact List.mem_cons_of_mem _ List.mem_cons_self
        · exact List.mem_cons_self
      · exact List.mem_cons_of_mem _ (List.mem_cons_of_mem _ h)
    · have h3 := h2 (if z < x then z else x) List.mem_cons_self
      generalize List.foldl (fun a b => if b < a then b else a) (if z < x then z else x) zs = w at *
      rcases List.mem_cons.mp hy with h | h
      · subst h
        split at h3 <;> omega
      · rcases List.mem_cons.mp h with h | h
        · subst h
          split at h3 <;> omega
        · exact h2 y (List.mem_cons_of_mem _ h)
theorem foldl_max (xs : List Int) : ∀ x : Int, (xs.foldl (fun a b => if a < b then b else a) x ∈ x :: xs) ∧ ∀ y ∈ x :: xs, y ≤ xs.foldl (fun a b => if a < b then b else a) x := by
  induction xs with
  | nil =>
    intro x
    refine ⟨by simp, fun y hy => ?_⟩
    have e : y = x := by simpa using hy
    rw [e]
    exact Int.le_refl _
  | cons z zs ih =>
    intro x
    obtain ⟨h1, h2⟩ := ih (if x < z then z else x)
    rw [List.foldl_cons]
    refine ⟨?_, fun y hy => ?_⟩
    · rcases List.mem_cons.mp h1 with h | h
      · rw [h]
        split
        · exact List.mem_cons_of_mem _ List.mem_cons_self
        · exact List.mem_cons_self
      · exact List.mem_cons_of_mem _ (List.mem_cons_of_mem _ h)
    · have h3 := h2 (if x < z then z else x) List.mem_cons_self
      generalize List.foldl (fun a b => if a < b then b else a) (if x < z then z else x) zs = w at *
      rcases List.mem_cons.mp hy with h | h
      · subst h
        split at h3 <;> omega
      · rcases List.mem_cons.mp h with h | h
        · subst h
          split at h3 <;> omega
        · exact h2 y (List.mem_cons_of_mem _ h)
theorem minL_of {xs : List Int} {m : Int} (h : minL xs = some m) : m ∈ xs ∧ ∀ y ∈ xs, m ≤ y := by
  cases xs with
  | nil => cases h
  | cons x xs => cases h; exact foldl_min xs x
theorem maxL_of {xs : List Int} {m : Int} (h : maxL xs = some m) : m ∈ xs ∧ ∀ y ∈ xs, y ≤ m := by
  cases xs with
  | nil => cases h
  | cons x xs => cases h; exact foldl_max xs x
theorem cr_minK {X : Cx} (hc : X.calm = true) (h : X.K = K := by rfl) : CallR X (.builtin "min") (rMin K) := h ▸ cr_min hc
theorem cr_maxK {X : Cx} (hc : X.calm = true) (h : X.K = K := by rfl) : CallR X (.builtin "max") (rMax K) := h ▸ cr_max hc
theorem ev_minL {ns : List Int} {m : Int} (h : minL ns = some m) (ha : EvA (tCons ta tNil) σ G M M1 (conP (DD K (.list (ns.map Dat.int))) nilP)) : Ev (tCB (rMin K) (tCons ta tNil)) σ G M M1 (DD K (.int m)) := ev_cb ha fun xs G0 H s k hx Q q => by
  obtain ⟨v, rfl, hv⟩ := one_of (R := nilP) hx
  obtain ⟨a, vs, rfl, ha, hb⟩ := dp_list hv
  rw [dpAll_ints hb] at ha
  obtain ⟨m1, m2⟩ := minL_of h
  refine ⟨a, ns, rfl, .inl (.inl (k.g _ _ ha)), List.length_pos_of_mem m1, fun m' h1 h2 => ?_⟩
  have : m' = m := Int.le_antisymm (h2 m m1) (m2 m' h1)
  subst this
  exact q _ G0 H (Same.refl _) k (.int _)
theorem ev_maxL {ns : List Int} {m : Int} (h : maxL ns = some m) (ha : EvA (tCons ta tNil) σ G M M1 (conP (DD K (.list (ns.map Dat.int))) nilP)) : Ev (tCB (rMax K) (tCons ta tNil)) σ G M M1 (DD K (.int m)) := ev_cb ha fun xs G0 H s k hx Q q => by
  obtain ⟨v, rfl, hv⟩ := one_of (R := nilP) hx
  obtain ⟨a, vs, rfl, ha, hb⟩ := dp_list hv
  rw [dpAll_ints hb] at ha
  obtain ⟨m1, m2⟩ := maxL_of h
  refine ⟨a, ns, rfl, .inl (.inl (k.g _ _ ha)), List.length_pos_of_mem m1, fun m' h1 h2 => ?_⟩
  have : m' = m := Int.le_antisymm (m2 m' h1) (h2 m m1)
  subst this
  exact q _ G0 H (Same.refl _) k (.int _)
end
end Kx
namespace Kx
open PySem L2
section
variable {K : PySem.W.Frag} {σ σ' : St} {G G' M M1 M2 M3 : Hp} {ta tb te tc : TE} {P P1 P2 : VP} {d e : Dat} {ds es : List Dat} {D : Ends} {H : Hp} {u : TS}
theorem ip_mulO {X : Cx} : PIp X .Mult (rI CMulO fun i j => .int (i * j)) := opI fun _ _ _ _ _ _ _ hc q => PyProof.Rows.imul_int q (hc.elim (fun h => h.ok) (fun h => h.ok))
theorem q_augG {i : Nat} {x : V} {ti : TIp} {σ' : V → St} (hx : σ[i]? = some (some x)) (px : P1 x G) (m : Mo P1) (he : Ev te σ G M M1 P2) (hr : RV2 ti G M1 M2 P1 P2 P) (ok : Ok G M H) (hσ : ∀ v, σ.set i (some v) = σ' v) (k : ∀ v G' H', Same G G' → Ok G' M2 H' → P v G' → u D (σ' v) H') : tSeq (tAug i te ti) u D σ H :=
  ⟨x, hx, he G H (Same.refl _) ok _ fun y G1 H1 s1 k1 hy => hr x y G1 H1 s1 k1 (m x G G1 s1 px) hy _ fun v G2 H2 s2 k2 hv => by
    show u D (σ.set i (some v)) H2
    rw [hσ]
    exact k v G2 H2 (s1.trans s2) k2 hv⟩
theorem rv_mulO {i j r : Int} (h : mulO i j = some r) : RV2 (rI CMulO fun i j => .int (i * j)) G M M (DD K (.int i)) (DD K (.int j)) (DD K (.int r)) := by
  obtain ⟨hc, rfl⟩ := mulO_of h
  exact rv_I (f := fun i j => .int (i * j)) (fun i j _ => .int _) hc
end
end Kx

end

section
set_option maxHeartbeats 2000000
namespace Kx
open PySem L2
/-! ### min(rows): a walk whose comparison reads the heap -/
section
variable {prog : Program} {w : World} {A : Around} {R : Result → Shared → Prop} {it : Addr} {fp wr : List Addr} {n : Nat} {Pv : Nat → Value → Prop} {Sx : Nat → Heap → Prop} {ls : Addr} {Gd : Heap → Prop} {bt : Nat → Nat → Bool}
def CmpH (prog : Program) (w : World) (A : Around) (Gd : Heap → Prop) (Pv : Nat → Value → Prop) (bt : Nat → Nat → Bool) : Prop :=
  ∀ i j x y (s : Shared) (Q E : Value → Shared → Prop), Gd s.heap → Pv i x → Pv j y → Q (.bool (bt i j)) s → wpAny (model prog w) A (richCompare .Lt x y) Q E s
theorem minH_loop (W : PySem.Walks prog w A.in1 it fp wr n Pv Sx) (hG : ∀ g g', Gd g → (∀ b o, b ∉ wr → b ≠ ls → g.get? b = some o → g'.get? b = some o) → Gd g') (hc : CmpH prog w A.in1 Gd Pv bt) (nf : ls ∉ fp) :
    ∀ (k j : Nat) (s : Shared) (best : Value) (c : Nat), n - (j + 1) = k → j + 1 ≤ n → Sx (j + 1) s.heap → Gd s.heap → Pv (argBest bt j) best →
    s.heap.get? ls = some { cls := .type "list", dict := none, data := .seq #[best, best] c, slots := #[] } →
    (∀ v g' tk, Pv (argBest bt (n - 1)) v → (∀ b o, b ∉ wr → b ≠ ls → s.heap.get? b = some o → g'.get? b = some o) → R (.ok (.ret v)) { s with heap := g', toks := tk }) →
    codeAny (model prog w) A (.builtin "min.loop" ⟨[.ref it, .none, .ref ls], []⟩) R s := by
  have nw : ls ∉ wr := fun z => nf (W.sub _ z)
  have nm : (toString "min" ++ toString ".loop" : String) = "min.loop" := by decide
  intro k
  induction k with
  | zero =>
    intro j s best c ek ej ex eg eb el eR
    have last : j + 1 = n := by omega
    refine codeAny_builtin F.entry_min_loop ?_
    rw [Around.under_plainId F.plain_min_loop _]; refine wpAny_bind (wpAny_seqItems el rfl ?_)
    refine wpAny_bind (wpAny_tryCatch (W.done s _ _ (last ▸ ex) fun g1 tk kept => ?_))
    have el1 := kept ls _ nw el
    refine wpAny_bind (wpAny_updateSeq el1 rfl (wpAny_bind (wpAny_letGo (wpAny_pure ?_))))
    exact eR best _ tk (by rw [← last]; exact eb) fun b o n1 n2 e => (Heap.get?_update_other _ _ (Ne.symm n2)).trans (kept b o n1 e)
  | succ k ih =>
    intro j s best c ek ej ex eg eb el eR
    have more : j + 1 < n := by omega
    refine codeAny_builtin F.entry_min_loop ?_
    rw [Around.under_plainId F.plain_min_loop _]; refine wpAny_bind (wpAny_seqItems el rfl ?_)
    refine wpAny_bind (wpAny_tryCatch (W.item (j + 1) s _ _ more ex fun x g1 tk px ex1 kept => ?_))
    have el1 := kept ls _ nw el
    have eg1 : Gd g1 := hG _ _ eg fun b o n1 _ e => kept b o n1 e
    show wpAny _ A.in1 (tryCatch (holding [x, x] (richCompare .Lt x best >>= _)) _ >>= _) _ _ _
    refine wpAny_bind (wpAny_tryCatch (wpAny_holding (wpAny_bind (hc (j + 1) (argBest bt j) x best _ _ _ eg1 px eb ?_))))
    refine wpAny_bind (wpAny_holding (wpAny_truthy_bool ?_))
    refine wpAny_bind (wpAny_letGo (wpAny_pure ?_))
    cases ebt : bt (j + 1) (argBest bt j) with
    | true =>
      simp only [if_true]
      refine wpAny_bind (wpAny_updateSeq el1 rfl (wpAny_bind (wpAny_letGo ?_)))
      rw [nm]
      have keep2 : ∀ (u : Obj → Obj) b o, b ≠ ls → g1.get? b = some o → ((g1.update ls u).get? b) = some o := fun u b o n2 e => (Heap.get?_update_other _ _ (Ne.symm n2)).trans e
      refine wpAny_pure ⟨plainId_quiet F.plain_min_loop _, ih (j + 1) _ x _ (by omega) more (W.frame _ _ _ ex1 fun b hb o e => ?_) (hG _ _ eg1 fun b o _ n2 e => keep2 _ b o n2 e) (by simp only [argBest, ebt, if_true]; exact px) (Heap.get?_update_self _ el1 rfl) fun v g2 tk2 pv kept2 => ?_⟩
      · exact keep2 _ b o (fun z => nf (by rw [← z]; exact hb)) e
      · exact eR v g2 tk2 pv fun b o n1 n2 e => kept2 b o n1 n2 (keep2 _ b o n2 (kept b o n1 e))
    | false =>
      simp only [Bool.false_eq_true, if_false]
      refine wpAny_bind (wpAny_letGo ?_)
      rw [nm]
      refine wpAny_pure ⟨plainId_quiet F.plain_min_loop _, ih (j + 1) _ best c (by omega) more ex1 eg1 (by simp only [argBest, ebt, Bool.false_eq_true, if_false]; exact eb) el1 fun v g2 tk2 pv kept2 => ?_⟩
      exact eR v g2 tk2 pv fun b o n1 n2 e => kept2 b o n1 n2 (kept b o n1 e)
theorem call_minH {E : Value → Shared → Prop} {s : Shared} {x : Value} {Q : Value → Shared → Prop}
    (h : wpAny (model prog w) A.in1 (pyIter x) (fun iv s2 => ∃ it fp wr n Pv Sx bt, iv = .ref it ∧ PySem.Walks prog w A.in1 it fp wr n Pv Sx ∧ Sx 0 s2.heap ∧ (∀ b ∈ fp, b < s2.heap.objs.size) ∧ 0 < n ∧
      CmpH prog w A.in1 (fun g => ∀ b o, b ∉ wr → s2.heap.get? b = some o → g.get? b = some o) Pv bt ∧
      ∀ v g' tk, Pv (argBest bt (n - 1)) v → (∀ b o, b ∉ wr → s2.heap.get? b = some o → g'.get? b = some o) → Q v { s2 with heap := g', toks := tk }) E s) :
    wpAny (model prog w) A (call (.builtin "min") [x]) Q E s := by
  have nm : (toString "min" ++ toString ".loop" : String) = "min.loop" := by decide
  refine call_function_tree F.kind_min F.plain_min F.entry_min (F.args_min1 _) ?_
  refine wpAny_bind (wpAny_of_eq (show Builtin.Builtins.bindParams "min" ["key", "default"] 0 ⟨[], []⟩ = pure [none, none] from rfl) (wpAny_bind (wpAny_pure ?_)))
  refine wpAny_bind (wpAny_mono h (fun iv s2 z => ?_) fun _ _ e => e)
  obtain ⟨it, fp, wr, n, Pv, Sx, bt, rfl, W, ex, efp, pos, hc, hQ⟩ := z
  refine wpAny_bind (wpAny_newObj_type ?_)
  have nf : s2.heap.objs.size ∉ fp := fun z => Nat.lt_irrefl _ (efp _ z)
  have nw : s2.heap.objs.size ∉ wr := fun z => nf (W.sub _ z)
  rw [nm]
  refine wpAny_pure ⟨plainId_quiet F.plain_min_loop _, ?_⟩
  refine codeAny_builtin F.entry_min_loop ?_
  rw [Around.under_plainId F.plain_min_loop _]; refine wpAny_bind (wpAny_seqItems (Heap.get?_push_size _ rfl) rfl ?_)
  refine wpAny_bind (wpAny_tryCatch (W.item 0 _ _ _ pos (W.frame _ _ _ ex fun b _ o e => Heap.get?_push_of_some _ e) fun x g1 tk px ex1 kept => ?_))
  have el1 := kept _ _ nw (Heap.get?_push_size _ rfl)
  show wpAny _ A.in1 (updateSeq s2.heap.objs.size (fun _ => #[x, x]) >>= _) _ _ _
  refine wpAny_bind ?_
  refine wpAny_updateSeq el1 rfl ?_
  rw [nm]
  refine wpAny_pure ⟨plainId_quiet F.plain_min_loop _, minH_loop (Gd := fun g => ∀ b o, b ∉ wr → s2.heap.get? b = some o → g.get? b = some o) (bt := bt) W (fun g g' z keep b o n1 e => keep b o n1 (Nat.ne_of_lt (Heap.lt_size e)) (z b o n1 e)) hc nf _ 0 _ x _ rfl pos (W.frame _ _ _ ex1 fun b hb o e => ?_) (fun b o n1 e => ?_) px (Heap.get?_update_self _ el1 rfl) fun v g2 tk2 pv kept2 => ?_⟩
  · exact (Heap.get?_update_other _ _ (fun z => nf (by rw [z]; exact hb))).trans e
  · exact (Heap.get?_update_other _ _ (Ne.symm (Nat.ne_of_lt (Heap.lt_size e)))).trans (kept b o n1 (Heap.get?_push_of_some _ e))
  · exact hQ v g2 tk2 pv fun b o n1 e => kept2 b o n1 (Nat.ne_of_lt (Heap.lt_size e)) ((Heap.get?_update_other _ _ (Ne.symm (Nat.ne_of_lt (Heap.lt_size e)))).trans (kept b o n1 (Heap.get?_push_of_some _ e)))
end
end Kx
namespace Kx
open PySem L2
theorem lex_irr : ∀ a : List Int, HT.lexLt a a = false
  | [] => rfl
  | x :: xs => by rw [HT.lexLt_cons, if_pos rfl]; exact lex_irr xs
theorem lex_trans : ∀ {a b c : List Int}, HT.lexLt a b = true → HT.lexLt b c = true → HT.lexLt a c = true
  | [], [], _, h, _ => by cases h
  | [], _ :: _, [], _, h => by cases h
  | [], _ :: _, _ :: _, _, _ => rfl
  | _ :: _, [], _, h, _ => by cases h
  | _ :: _, _ :: _, [], _, h => by cases h
  | x :: xs, y :: ys, z :: zs, h1, h2 => by
    rw [HT.lexLt_cons] at h1 h2 ⊢
    by_cases e1 : x = y
    · by_cases e2 : y = z
      · rw [if_pos e1] at h1
        rw [if_pos e2] at h2
        rw [if_pos (e1.trans e2)]
        exact lex_trans h1 h2
      · rw [if_neg e2] at h2
        rw [if_neg (by rw [e1]; exact e2), e1]
        exact h2
    · rw [if_neg e1] at h1
      have l1 : x < y := of_decide_eq_true h1
      by_cases e2 : y = z
      · rw [← e2, if_neg e1]
        exact h1
      · rw [if_neg e2] at h2
        have l2 : y < z := of_decide_eq_true h2
        rw [if_neg (by omega)]
        exact decide_eq_true (by omega)
theorem argBest_le (bt : Nat → Nat → Bool) : ∀ k, argBest bt k ≤ k
  | 0 => Nat.le_refl _
  | k + 1 => by
    unfold argBest
    split
    · exact Nat.le_refl _
    · exact Nat.le_succ_of_le (argBest_le bt k)
theorem argBest_least (bt : Nat → Nat → Bool) (irr : ∀ i, bt i i = false) (tr : ∀ i j k, bt i j = true → bt j k = true → bt i k = true) : ∀ k i, i ≤ k → bt i (argBest bt k) = false
  | 0, i, h => by
    have : i = 0 := by omega
    subst this
    exact irr 0
  | k + 1, i, h => by
    unfold argBest
    cases e : bt (k + 1) (argBest bt k) with
    | true =>
      rw [if_pos rfl]
      by_cases hi : i = k + 1
      · rw [hi]; exact irr _
      · cases e2 : bt i (k + 1) with
        | false => rfl
        | true =>
          have := tr _ _ _ e2 e
          rw [argBest_least bt irr tr k i (by omega)] at this
          cases this
    | false =>
      rw [if_neg (by decide)]
      by_cases hi : i = k + 1
      · rw [hi]; exact e
      · exact argBest_least bt irr tr k i (by omega)
/-- min(rows) of a list of rows of ints -/
def rMinT (K : PySem.W.Frag) : List V → Hp → VK → Prop := fun vs H Q => ∃ (a : Addr) (xs : List V) (rows : List (List Int)), vs = [V.ref a] ∧ SqL K H a xs ∧ xs.length = rows.length ∧ 0 < rows.length ∧
  (∀ (i : Nat) (x : V) (r : List Int), xs[i]? = some x → rows[i]? = some r → ∃ t, x = .ref t ∧ SqT K H t (r.map V.int)) ∧
  ∀ (i : Nat) (x : V) (r : List Int), xs[i]? = some x → rows[i]? = some r → (∀ r' ∈ rows, HT.lexLt r' r = false) → Q x H
theorem vals_get : ∀ {xs : List V} {us : List Value} {i : Nat} {u : Value}, Vals xs us → us[i]? = some u → ∃ x, xs[i]? = some x ∧ RelV x u
  | _, _, _, _, .nil, h => by simp at h
  | _, _, 0, _, .cons r _, h => by simp at h; subst h; exact ⟨_, rfl, r⟩
  | _, _, i + 1, u, .cons _ t, h => by
    obtain ⟨x, h1, h2⟩ := vals_get (i := i) (u := u) t (by simpa using h)
    exact ⟨x, by simpa using h1, h2⟩
theorem vals_len : ∀ {xs : List V} {us : List Value}, Vals xs us → xs.length = us.length
  | _, _, .nil => rfl
  | _, _, .cons _ t => congrArg (· + 1) (vals_len t)
theorem cr_minTK {X : Cx} {K : PySem.W.Frag} (hc : X.calm = true) (hu : X.A.units + 64 < cLine) (h : X.K = K := by rfl) : CallR X (.builtin "min") (rMinT K) := by
  subst h
  intro pins s σ H vs us Q I r h
  obtain ⟨a, xs, rows, rfl, hs, hl, hpos, ht, q⟩ := h
  obtain ⟨its, rv, hp, _⟩ := I.list hs
  rw [Vals.ref1 r]
  have ln := vals_len rv
  have hlt : a < s.heap.objs.size := by obtain ⟨_, _, e, _⟩ := hp; exact Heap.lt_size e
  obtain ⟨bt, hbt⟩ : ∃ bt : Nat → Nat → Bool, ∀ i j, bt i j = HT.lexLt (rows.getD i []) (rows.getD j []) := ⟨_, fun _ _ => rfl⟩
  refine call_minH (wpAny_pyIter_list hp.isList ?_)
  refine ⟨s.heap.objs.size, [s.heap.objs.size, a], [s.heap.objs.size], its.toArray.size, _, _, bt, rfl, PySem.Walks.list (A := X.A.in1) (I.ok.hd hc) _ a (Nat.ne_of_lt hlt) its.toArray, ⟨⟨_, Heap.get?_push_size _ rfl, rfl, rfl⟩, hp.isList.push _⟩, fun b hb => ?_, ?_, ?_, fun v g' tk pv kept => ?_⟩
  · show b < (s.heap.push _).objs.size
    rw [Heap.size_push]
    have : b = s.heap.objs.size ∨ b = a := by simpa using hb
    rcases this with e | e
    · rw [e]; exact Nat.lt_succ_self _
    · rw [e]; exact Nat.lt_succ_of_lt hlt
  · rw [List.size_toArray]; omega
  · intro i j x y s1 Q1 E1 hG px py q1
    have keep : ∀ b o, s.heap.get? b = some o → s1.heap.get? b = some o := fun b o e => hG b o (fun z => by
      have : b = s.heap.objs.size := by simpa using z
      exact absurd (this ▸ Heap.lt_size e) (Nat.lt_irrefl _)) (Heap.get?_push_of_some _ e)
    have tup : ∀ {i : Nat} {x : Value}, its.toArray[i]? = some x → ∃ t us, x = .ref t ∧ PyProof.Rows.IsTup s1.heap t us ∧ PyProof.Rows.IntsAre us.toList (rows.getD i []) := fun {i x} px => by
      obtain ⟨xv, e1, rx⟩ := vals_get rv (by simpa using px)
      have hi := (List.getElem?_eq_some_iff.mp e1).1
      have e2 : rows[i]? = some (rows.getD i []) := by
        rw [List.getElem?_eq_getElem (by omega)]
        simp [List.getD, List.getElem?_eq_getElem (show i < rows.length by omega)]
      obtain ⟨t, rfl, st⟩ := ht i xv _ e1 e2
      cases rx
      obtain ⟨us, r2, p2, _⟩ := I.tuple st
      refine ⟨t, us.toArray, rfl, ?_, intsAre_of r2⟩
      obtain ⟨o, ho, hc, n, hd⟩ := p2
      exact ⟨o, keep _ _ ho, hc, n, hd⟩
    obtain ⟨t1, u1, rfl, p1, i1⟩ := tup px
    obtain ⟨t2, u2, rfl, p2, i2⟩ := tup py
    exact HT.lt_tupInts p1 p2 i1 i2 (by have : X.A.in1.units ≤ X.A.units + 1 := by first | exact Nat.le_refl _ | exact Nat.le_succ _
                                        omega) (by rw [← hbt]; exact q1)
  · have hbl := argBest_le bt (its.length - 1)
    rw [List.size_toArray] at pv
    generalize hj : argBest bt (its.length - 1) = j at pv hbl
    obtain ⟨xv, e1, rx⟩ := vals_get rv (by simpa using pv)
    have hi := (List.getElem?_eq_some_iff.mp e1).1
    have e2 : rows[j]? = some (rows.getD j []) := by
      rw [List.getElem?_eq_getElem (by omega)]
      simp [List.getD, List.getElem?_eq_getElem (show j < rows.length by omega)]
    refine ⟨xv, H, I.kept fun b o e => kept b o (fun z => ?_) (Heap.get?_push_of_some _ e), rx, q _ _ _ e1 e2 fun r' hr' => ?_⟩
    · have : b = s.heap.objs.size := by simpa using z
      exact absurd (this ▸ Heap.lt_size e) (Nat.lt_irrefl _)
    · obtain ⟨k, hk⟩ := List.mem_iff_getElem?.mp hr'
      have hkl := (List.getElem?_eq_some_iff.mp hk).1
      have := argBest_least bt (fun i => by rw [hbt]; exact lex_irr _) (fun i j k => by rw [hbt, hbt, hbt]; exact lex_trans) (its.length - 1) k (by omega)
      rw [hj, hbt] at this
      have ek : rows.getD k [] = r' := by simp [List.getD, hk]
      rw [ek] at this
      exact this
end Kx
namespace Kx
open PySem L2
theorem lex_tri : ∀ {a b : List Int}, HT.lexLt a b = false → HT.lexLt b a = false → a = b
  | [], [], _, _ => rfl
  | [], _ :: _, h, _ => by cases h
  | _ :: _, [], _, h => by cases h
  | x :: xs, y :: ys, h1, h2 => by
    rw [HT.lexLt_cons] at h1 h2
    by_cases e : x = y
    · subst e
      rw [if_pos rfl] at h1 h2
      rw [lex_tri h1 h2]
    · rw [if_neg e] at h1
      rw [if_neg (Ne.symm e)] at h2
      have l1 : ¬ x < y := of_decide_eq_false h1
      have l2 : ¬ y < x := of_decide_eq_false h2
      omega
def minR : List (List Int) → Option (List Int)
  | [] => none
  | x :: xs => some (xs.foldl (fun a b => if HT.lexLt b a = true then b else a) x)
theorem foldl_minR (xs : List (List Int)) : ∀ x : List Int, (xs.foldl (fun a b => if HT.lexLt b a = true then b else a) x ∈ x :: xs) ∧ ∀ y ∈ x :: xs, HT.lexLt y (xs.foldl (fun a b => if HT.lexLt b a = true then b else a) x) = false := by
  induction xs with
  | nil =>
    intro x
    refine ⟨by simp, fun y hy => ?_⟩
    have e : y = x := by simpa using hy
    rw [e]
    exact lex_irr _
  | cons z zs ih =>
    intro x
    obtain ⟨h1, h2⟩ := ih (if HT.lexLt z x = true then z else x)
    rw [List.foldl_cons]
    generalize List.foldl (fun a b => if HT.lexLt b a = true then b else a) (if HT.lexLt z x = true then z else x) zs = w at *
    refine ⟨?_, fun y hy => ?_⟩
    · rcases List.mem_cons.mp h1 with h | h
      · rw [h]
        split
        · exact List.mem_cons_of_mem _ List.mem_cons_self
        · exact List.mem_cons_self
      · exact List.mem_cons_of_mem _ (List.mem_cons_of_mem _ h)
    · have h3 := h2 (if HT.lexLt z x = true then z else x) List.mem_cons_self
      have key : ∀ u, HT.lexLt u (if HT.lexLt z x = true then z else x) = false → HT.lexLt u w = false := fun u hu => by
        cases e : HT.lexLt u w with
        | false => rfl
        | true =>
          -- w is not above the first, so u lies below it
          cases e2 : HT.lexLt w (if HT.lexLt z x = true then z else x) with
          | true => rw [lex_trans e e2] at hu; cases hu
          | false => rw [lex_tri e2 h3, hu] at e; cases e
      rcases List.mem_cons.mp hy with h | h
      · subst h
        refine key _ ?_
        split
        · next e =>
          cases e2 : HT.lexLt y z with
          | false => rfl
          | true => have := lex_trans e2 e; rw [lex_irr] at this; cases this
        · exact lex_irr _
      · rcases List.mem_cons.mp h with h | h
        · subst h
          refine key _ ?_
          split
          · exact lex_irr _
          · next e => simpa using e
        · exact h2 y (List.mem_cons_of_mem _ h)
theorem minR_of {xs : List (List Int)} {m : List Int} (h : minR xs = some m) : m ∈ xs ∧ ∀ y ∈ xs, HT.lexLt y m = false := by
  cases xs with
  | nil => cases h
  | cons x xs => cases h; exact foldl_minR xs x
section
variable {K : PySem.W.Frag} {σ σ' : St} {G G' M M1 M2 M3 : Hp} {ta tb te tc : TE}
theorem ev_minT {rows : List (List Int)} {m : List Int} (h : minR rows = some m) (ha : EvA (tCons ta tNil) σ G M M1 (conP (DD K (.list (rows.map (eT Dat.int)))) nilP)) : Ev (tCB (rMinT K) (tCons ta tNil)) σ G M M1 (DD K (eT Dat.int m)) := ev_cb ha fun xs G0 H s k hx Q q => by
  obtain ⟨v, rfl, hv⟩ := one_of (R := nilP) hx
  obtain ⟨a, vs, rfl, h1, h2⟩ := dp_list hv
  obtain ⟨m1, m2⟩ := minR_of h
  have ln : vs.length = rows.length := by rw [dpAll_len h2, List.length_map]
  have each : ∀ (i : Nat) (x : V) (r : List Int), vs[i]? = some x → rows[i]? = some r → Dq K G0 x (eT Dat.int r) := fun i x r hx hr => dqAll_at h2 hx (by rw [List.getElem?_map, hr]; rfl)
  refine ⟨a, vs, rows, rfl, .inl (.inl (k.g _ _ h1)), ln, List.length_pos_of_mem m1, fun i x r hx hr => ?_, fun i x r hx hr least => ?_⟩
  · obtain ⟨t, ws, rfl, h3, h4⟩ := dp_tuple (each i x r hx hr)
    rw [dpAll_ints h4] at h3
    exact ⟨t, rfl, sqT_up k.g h3⟩
  · have e : r = m := lex_tri (m2 r (List.mem_of_getElem? hr)) (least m m1)
    subst e
    exact q _ G0 H (Same.refl _) k (each i x r hx hr)
end
end Kx

end

section
set_option maxHeartbeats 4000000
namespace K32
open PySem L2 Kx
def topS (i : Nat) : Stmt := PySem.Challenge.pw_sincerung_k32_spanned_and_least.main.body.getD i (.Pass ⟨0, 0, 0, 0⟩)
abbrev s_is_whole : Stmt := topS 9
abbrev s_is_within : Stmt := topS 10
abbrev s_check_moduli : Stmt := topS 12
abbrev s_is_vector : Stmt := topS 13
abbrev s_check_vectors : Stmt := topS 14
abbrev s_check_vector : Stmt := topS 15
abbrev s_less : Stmt := topS 16
abbrev s_by_rests : Stmt := topS 17
abbrev s_met : Stmt := topS 18
abbrev s_laid : Stmt := topS 19
abbrev s_steps_of : Stmt := topS 20
abbrev s_gone_down : Stmt := topS 21
abbrev s_product : Stmt := topS 22
abbrev s_spanned : Stmt := topS 23
abbrev s_least : Stmt := topS 24
abbrev s__law_opened : Stmt := topS 26
abbrev s__law_pull : Stmt := topS 27
abbrev s__law_same : Stmt := topS 28
abbrev s__law_sizes : Stmt := topS 29
abbrev s__law_arrow : Stmt := topS 30
abbrev s__law_arrows : Stmt := topS 31
abbrev s__law_summed : Stmt := topS 32
abbrev s__law_span : Stmt := topS 33
abbrev s__law_shared : Stmt := topS 34
abbrev s__law_great_right : Stmt := topS 35
abbrev s__law_small_right : Stmt := topS 36
abbrev s__law_right : Stmt := topS 37
abbrev s_law : Stmt := topS 38
def kw_spanned_vectors_moduli {α : Type} : List α → List α
  | [x0, x1] => [x1, x0]
  | _ => []
def kw_least_vector_moduli_vectors {α : Type} : List α → List α
  | [x0, x1, x2] => [x1, x2, x0]
  | _ => []
structure Txt (K : PySem.W.Frag) (mg : Str → Option Value) where
  a_is_whole : Addr
  d_is_whole : FuncData
  F_is_whole : Fun K "is_whole" "is_whole" s_is_whole a_is_whole d_is_whole
  b_is_whole : Binds K d_is_whole ["thing"] []
  g_is_whole : mg "is_whole" = some (.ref a_is_whole)
  a_is_within : Addr
  d_is_within : FuncData
  F_is_within : Fun K "is_within" "is_within" s_is_within a_is_within d_is_within
  b_is_within : Binds K d_is_within ["thing", "low", "high"] []
  g_is_within : mg "is_within" = some (.ref a_is_within)
  a_check_moduli : Addr
  d_check_moduli : FuncData
  F_check_moduli : Fun K "check_moduli" "check_moduli" s_check_moduli a_check_moduli d_check_moduli
  b_check_moduli : Binds K d_check_moduli ["moduli"] []
  g_check_moduli : mg "check_moduli" = some (.ref a_check_moduli)
  a_is_vector : Addr
  d_is_vector : FuncData
  F_is_vector : Fun K "is_vector" "is_vector" s_is_vector a_is_vector d_is_vector
  b_is_vector : Binds K d_is_vector ["moduli", "thing"] []
  g_is_vector : mg "is_vector" = some (.ref a_is_vector)
  a_check_vectors : Addr
  d_check_vectors : FuncData
  F_check_vectors : Fun K "check_vectors" "check_vectors" s_check_vectors a_check_vectors d_check_vectors
  b_check_vectors : Binds K d_check_vectors ["moduli", "vectors"] []
  g_check_vectors : mg "check_vectors" = some (.ref a_check_vectors)
  a_check_vector : Addr
  d_check_vector : FuncData
  F_check_vector : Fun K "check_vector" "check_vector" s_check_vector a_check_vector d_check_vector
  b_check_vector : Binds K d_check_vector ["moduli", "vectors", "vector"] []
  g_check_vector : mg "check_vector" = some (.ref a_check_vector)
  a_less : Addr
  d_less : FuncData
  F_less : Fun K "less" "less" s_less a_less d_less
  b_less : Binds K d_less ["one", "other", "times"] []
  g_less : mg "less" = some (.ref a_less)
  a_by_rests : Addr
  d_by_rests : FuncData
  F_by_rests : Fun K "by_rests" "by_rests" s_by_rests a_by_rests d_by_rests
  b_by_rests : Binds K d_by_rests ["row", "moduli", "place"] []
  g_by_rests : mg "by_rests" = some (.ref a_by_rests)
  a_met : Addr
  d_met : FuncData
  F_met : Fun K "met" "met" s_met a_met d_met
  b_met : Binds K d_met ["rung", "row", "moduli", "place"] []
  g_met : mg "met" = some (.ref a_met)
  a_laid : Addr
  d_laid : FuncData
  F_laid : Fun K "laid" "laid" s_laid a_laid d_laid
  b_laid : Binds K d_laid ["moduli", "vectors"] []
  g_laid : mg "laid" = some (.ref a_laid)
  a_steps_of : Addr
  d_steps_of : FuncData
  F_steps_of : Fun K "steps_of" "steps_of" s_steps_of a_steps_of d_steps_of
  b_steps_of : Binds K d_steps_of ["rungs"] []
  g_steps_of : mg "steps_of" = some (.ref a_steps_of)
  a_gone_down : Addr
  d_gone_down : FuncData
  F_gone_down : Fun K "gone_down" "gone_down" s_gone_down a_gone_down d_gone_down
  b_gone_down : Binds K d_gone_down ["rungs", "vector"] []
  g_gone_down : mg "gone_down" = some (.ref a_gone_down)
  a_product : Addr
  d_product : FuncData
  F_product : Fun K "product" "product" s_product a_product d_product
  b_product : Binds K d_product ["numbers"] []
  g_product : mg "product" = some (.ref a_product)
  a_spanned : Addr
  d_spanned : FuncData
  F_spanned : Fun K "spanned" "spanned" s_spanned a_spanned d_spanned
  b_spanned : Binds K d_spanned ["moduli", "vectors"] []
  g_spanned : mg "spanned" = some (.ref a_spanned)
  a_least : Addr
  d_least : FuncData
  F_least : Fun K "least" "least" s_least a_least d_least
  b_least : Binds K d_least ["moduli", "vectors", "vector"] []
  g_least : mg "least" = some (.ref a_least)
  a__law_opened : Addr
  d__law_opened : FuncData
  F__law_opened : Fun K "_law_opened" "_law_opened" s__law_opened a__law_opened d__law_opened
  b__law_opened : Binds K d__law_opened ["_law_script", "_law_k"] []
  g__law_opened : mg "_law_opened" = some (.ref a__law_opened)
  a__law_pull : Addr
  d__law_pull : FuncData
  F__law_pull : Fun K "_law_pull" "_law_pull" s__law_pull a__law_pull d__law_pull
  b__law_pull : Binds K d__law_pull ["_law_store", "_law_many"] []
  g__law_pull : mg "_law_pull" = some (.ref a__law_pull)
  a__law_same : Addr
  d__law_same : FuncData
  F__law_same : Fun K "_law_same" "_law_same" s__law_same a__law_same d__law_same
  b__law_same : Binds K d__law_same ["_law_found", "_law_due"] []
  g__law_same : mg "_law_same" = some (.ref a__law_same)
  a__law_sizes : Addr
  d__law_sizes : FuncData
  F__law_sizes : Fun K "_law_sizes" "_law_sizes" s__law_sizes a__law_sizes d__law_sizes
  b__law_sizes : Binds K d__law_sizes ["_law_store", "_law_many", "_law_most", "_law_bulk"] []
  g__law_sizes : mg "_law_sizes" = some (.ref a__law_sizes)
  a__law_arrow : Addr
  d__law_arrow : FuncData
  F__law_arrow : Fun K "_law_arrow" "_law_arrow" s__law_arrow a__law_arrow d__law_arrow
  b__law_arrow : Binds K d__law_arrow ["_law_store", "_law_sizes_here"] []
  g__law_arrow : mg "_law_arrow" = some (.ref a__law_arrow)
  a__law_arrows : Addr
  d__law_arrows : FuncData
  F__law_arrows : Fun K "_law_arrows" "_law_arrows" s__law_arrows a__law_arrows d__law_arrows
  b__law_arrows : Binds K d__law_arrows ["_law_store", "_law_sizes_here", "_law_most"] []
  g__law_arrows : mg "_law_arrows" = some (.ref a__law_arrows)
  a__law_summed : Addr
  d__law_summed : FuncData
  F__law_summed : Fun K "_law_summed" "_law_summed" s__law_summed a__law_summed d__law_summed
  b__law_summed : Binds K d__law_summed ["_law_sizes_here", "_law_arrows_here", "_law_often"] []
  g__law_summed : mg "_law_summed" = some (.ref a__law_summed)
  a__law_span : Addr
  d__law_span : FuncData
  F__law_span : Fun K "_law_span" "_law_span" s__law_span a__law_span d__law_span
  b__law_span : Binds K d__law_span ["_law_sizes_here", "_law_arrows_here"] []
  g__law_span : mg "_law_span" = some (.ref a__law_span)
  a__law_shared : Addr
  d__law_shared : FuncData
  F__law_shared : Fun K "_law_shared" "_law_shared" s__law_shared a__law_shared d__law_shared
  b__law_shared : Binds K d__law_shared ["_law_figure", "_law_size"] []
  g__law_shared : mg "_law_shared" = some (.ref a__law_shared)
  a__law_great_right : Addr
  d__law_great_right : FuncData
  F__law_great_right : Fun K "_law_great_right" "_law_great_right" s__law_great_right a__law_great_right d__law_great_right
  b__law_great_right : Binds K d__law_great_right ["_law_store"] []
  g__law_great_right : mg "_law_great_right" = some (.ref a__law_great_right)
  a__law_small_right : Addr
  d__law_small_right : FuncData
  F__law_small_right : Fun K "_law_small_right" "_law_small_right" s__law_small_right a__law_small_right d__law_small_right
  b__law_small_right : Binds K d__law_small_right ["_law_sizes_here", "_law_arrows_here", "_law_some"] []
  g__law_small_right : mg "_law_small_right" = some (.ref a__law_small_right)
  a__law_right : Addr
  d__law_right : FuncData
  F__law_right : Fun K "_law_right" "_law_right" s__law_right a__law_right d__law_right
  b__law_right : Binds K d__law_right ["_law_store"] []
  g__law_right : mg "_law_right" = some (.ref a__law_right)
  a_law : Addr
  d_law : FuncData
  F_law : Fun K "law" "law" s_law a_law d_law
  b_law : Binds K d_law ["_law_script"] []
  g_law : mg "law" = some (.ref a_law)
  kb_spanned_vectors_moduli : KBw K d_spanned ["moduli", "vectors"] ["vectors", "moduli"] @kw_spanned_vectors_moduli
  kb_least_vector_moduli_vectors : KBw K d_least ["moduli", "vectors", "vector"] ["vector", "moduli", "vectors"] @kw_least_vector_moduli_vectors
  n_int : mg "int" = none
  n_isinstance : mg "isinstance" = none
  n_bool : mg "bool" = none
  n_tuple : mg "tuple" = none
  n_len : mg "len" = none
  n_all : mg "all" = none
  n_enumerate : mg "enumerate" = none
  n_zip : mg "zip" = none
  n_range : mg "range" = none
  n_list : mg "list" = none
  n_abs : mg "abs" = none
  n_divmod : mg "divmod" = none
  n_str : mg "str" = none
  n_sum : mg "sum" = none
  n_min : mg "min" = none
  n_max : mg "max" = none
  t_MOST_MODULI : Tok
  c_MOST_MODULI : mg "MOST_MODULI" = some (.int 12 t_MOST_MODULI)
  t_MOST_MODULUS : Tok
  c_MOST_MODULUS : mg "MOST_MODULUS" = some (.int 99 t_MOST_MODULUS)
  t_MOST_VECTORS : Tok
  c_MOST_VECTORS : mg "MOST_VECTORS" = some (.int 40 t_MOST_VECTORS)
/-! ### is_whole -/
theorem sc_is_whole : FnScope ["thing"] ["thing"] (defScope s_is_whole) := ⟨rfl, rfl, rfl, by decide +kernel, rfl, by decide +kernel, by decide +kernel⟩
def a_is_whole (K : PySem.W.Frag) (a : Int) : List V → Hp → Prop := conP (DD K (Dat.int a)) (nilP)
def m_is_whole (a : Int) : Option Bool :=
  some (true && (!false))
abbrev sp_is_whole (K : PySem.W.Frag) : Sp := spP (a_is_whole K) (m_is_whole) fun r => DD K (Dat.bool r)
theorem ok_is_whole {P : Program} {w : World} {K : PySem.W.Frag} {mg : Str → Option Value} {base : Heap} (T : Txt K mg) : FnOk P w K mg base CX0 (1) T.a_is_whole T.d_is_whole ["thing"] (sp_is_whole K) := by
  refine T.F_is_whole.ok sc_is_whole (fun vs H Q E h => ?_) (fun cdv A outer s0 H vs Q E hr h => ?_)
  · obtain ⟨G, M0, a, r, ok, ⟨v_thing, _, rfl, h_thing, rfl⟩, hm, q⟩ := h
    rfl
  · obtain ⟨G, M0, a, r, ok, ⟨v_thing, _, rfl, h_thing, rfl⟩, hm, q⟩ := h
    unfold m_is_whole at hm
    have sg := Same.refl G
    have hB := Same.refl M0
    refine ⟨_, (pss_cons (ps_ret (pe_and (pe_callB (call_isiKK (K := K)) (by rfl) T.n_isinstance (by decide +kernel) (pa_cons (pv 0) (pa_cons (pe_bltn (v := .ty "int") (by rfl) T.n_int (by decide +kernel) rfl) pa_nil))) (pe_one (pe_not (pe_callB (call_isiKK (K := K)) (by rfl) T.n_isinstance (by decide +kernel) (pa_cons (pv 0) (pa_cons (pe_bltn (v := .ty "bool") (by rfl) T.n_bool (by decide +kernel) rfl) pa_nil))))))) pss_nil), ?_⟩
    cases h_thing
    refine nrm (σ' := [some (.int a)]) rfl ?_
    refine q_ret (ev_and (ev_isi (d := Dat.int a) (n := "int") (b := true) rfl (show kitB "int" "int" = some true by decide +kernel) (ea_d (ev_d (K := K) rfl (.int _)) (ea_cons mo_cls ev_cls ea_nil))) fun _ => (ev_not (ev_isi (d := Dat.int a) (n := "bool") (b := false) rfl (show kitB "int" "bool" = some false by decide +kernel) (ea_d (ev_d (K := K) rfl (.int _)) (ea_cons mo_cls ev_cls ea_nil))))) ok (fun v G H s1 ok hv => ?_)
    have sg := sg.trans s1
    cases hm
    exact q v G H sg (ok.less hB) hv
/-! ### is_within -/
theorem sc_is_within : FnScope ["thing", "low", "high"] ["thing", "low", "high"] (defScope s_is_within) := ⟨rfl, rfl, rfl, by decide +kernel, rfl, by decide +kernel, by decide +kernel⟩
def a_is_within (K : PySem.W.Frag) (a : Int × Int × Int) : List V → Hp → Prop := conP (DD K (Dat.int a.1)) (conP (DD K (Dat.int a.2.1)) (conP (DD K (Dat.int a.2.2)) (nilP)))
def m_is_within (a : Int × Int × Int) : Option Bool :=
  (m_is_whole a.1).bind fun t1 => some (t1 && ((decide (a.2.1 ≤ a.1)) && (decide (a.1 ≤ a.2.2))))
abbrev sp_is_within (K : PySem.W.Frag) : Sp := spP (a_is_within K) (m_is_within) fun r => DD K (Dat.bool r)
theorem ok_is_within {P : Program} {w : World} {K : PySem.W.Frag} {mg : Str → Option Value} {base : Heap} (T : Txt K mg) (O_is_whole : FnOk P w K mg base CX0 1 T.a_is_whole T.d_is_whole ["thing"] (sp_is_whole K)) : FnOk P w K mg base CX0 (2) T.a_is_within T.d_is_within ["thing", "low", "high"] (sp_is_within K) := by
  refine T.F_is_within.ok sc_is_within (fun vs H Q E h => ?_) (fun cdv A outer s0 H vs Q E hr h => ?_)
  · obtain ⟨G, M0, a, r, ok, ⟨v_thing, _, rfl, h_thing, v_low, _, rfl, h_low, v_high, _, rfl, h_high, rfl⟩, hm, q⟩ := h
    rfl
  · obtain ⟨G, M0, a, r, ok, ⟨v_thing, _, rfl, h_thing, v_low, _, rfl, h_low, v_high, _, rfl, h_high, rfl⟩, hm, q⟩ := h
    unfold m_is_within at hm
    have sg := Same.refl G
    have hB := Same.refl M0
    refine ⟨_, (pss_cons (ps_ret (pe_and (pe_call O_is_whole (hr.mono (by decide)) (by rfl) T.g_is_whole T.F_is_whole.kp T.b_is_whole .nil pass0 (pa_cons (pv 0) pa_nil)) (pe_one (pe_chain op_le op_le (pv 1) (pv 0) (pv 2))))) pss_nil), ?_⟩
    cases h_thing
    cases h_low
    cases h_high
    refine nrm (σ' := [some (.int a.1), some (.int a.2.1), some (.int a.2.2)]) rfl ?_
    obtain ⟨t1, e_t1, hm⟩ := bs hm
    refine q_ret (ev_and (ev_callP (a := a.1) e_t1 (ea_d (ev_d (K := K) rfl (.int _)) ea_nil)) fun _ => (ev_chainI (ev_d (K := K) rfl (.int _)) (ev_d (K := K) rfl (.int _)) (ev_d (K := K) rfl (.int _)))) ok (fun v G H s1 ok hv => ?_)
    have sg := sg.trans s1
    cases hm
    exact q v G H sg (ok.less hB) hv
/-! ### check_moduli -/
theorem sc_check_moduli : FnScope ["moduli", "modulus"] ["moduli"] (defScope s_check_moduli) := ⟨rfl, rfl, rfl, by decide +kernel, rfl, by decide +kernel, by decide +kernel⟩
def a_check_moduli (K : PySem.W.Frag) (a : (List Int)) : List V → Hp → Prop := conP (DD K ((eT Dat.int) a)) (nilP)
def m_check_moduli (a : (List Int)) : Option Unit :=
  cond ((!true) || (!((decide ((1 : Int) ≤ (a.length : Int))) && (decide ((a.length : Int) ≤ (12 : Int)))))) (none) ((lcO (fun x1 : Int => (m_is_within (x1, (1 : Int), (99 : Int))).bind fun t7 => some t7) a).bind fun t8 => cond (!(t8.all id)) (none) (some ()))
abbrev sp_check_moduli (K : PySem.W.Frag) : Sp := spP (a_check_moduli K) (m_check_moduli) fun r => DD K (eN r)
theorem ok_check_moduli {P : Program} {w : World} {K : PySem.W.Frag} {mg : Str → Option Value} {base : Heap} (T : Txt K mg) (O_is_within : FnOk P w K mg base CX0 2 T.a_is_within T.d_is_within ["thing", "low", "high"] (sp_is_within K)) : FnOk P w K mg base CX0 (3) T.a_check_moduli T.d_check_moduli ["moduli"] (sp_check_moduli K) := by
  refine T.F_check_moduli.ok sc_check_moduli (fun vs H Q E h => ?_) (fun cdv A outer s0 H vs Q E hr h => ?_)
  · obtain ⟨G, M0, a, r, ok, ⟨v_moduli, _, rfl, h_moduli, rfl⟩, hm, q⟩ := h
    rfl
  · obtain ⟨G, M0, a, r, ok, ⟨v_moduli, _, rfl, h_moduli, rfl⟩, hm, q⟩ := h
    unfold m_check_moduli at hm
    have sg := Same.refl G
    have hB := Same.refl M0
    refine ⟨_, (pss_cons (ps_if (PW.pt (pw_or (pt_not (pt_val (pe_callB (call_isiKK (K := K)) (by rfl) T.n_isinstance (by decide +kernel) (pa_cons (pv 0) (pa_cons (pe_bltn (v := .ty "tuple") (by rfl) T.n_tuple (by decide +kernel) rfl) pa_nil))))) (pw_or1 (pt_not (pt_chain op_le op_le pe_int (pe_callB (cl_lenK (K := K)) (by rfl) T.n_len (by decide +kernel) (pa_cons (pv 0) pa_nil)) (pe_glob (v := .int 12) (by rfl) T.c_MOST_MODULI ⟨_, rfl⟩)))))) (pss_cons ps_never pss_nil) pss_nil) (pss_cons (ps_if (pt_not (pt_val (pe_callB (cr_allK (K := K) rfl) (by rfl) T.n_all (by decide +kernel) (pa_cons (pe_lc (own := [("modulus", 1)]) (g := (gName 1)) (tt := tYes) rfl sc_check_moduli.nd (pi_tupK (K := K) (pv 0)) (blkOk_by (own := [("modulus", 1)]) (N := ["moduli", "modulus"]) (sc := defScope s_check_moduli) (by decide +kernel)) (fun _ _ _ _ _ => (pg_name (i := 1) sc_check_moduli.nd rfl (by first | exact .inl rfl | exact .inr rfl))) (fun _ _ _ _ _ => pts_nil) (fun _ _ _ _ _ => (pe_call O_is_within (hr.mono (by decide)) (by rfl) T.g_is_within T.F_is_within.kp T.b_is_within .nil pass0 (pa_cons (pv 1) (pa_cons pe_int (pa_cons (pe_glob (v := .int 99) (by rfl) T.c_MOST_MODULUS ⟨_, rfl⟩) pa_nil)))))) pa_nil)))) (pss_cons ps_never pss_nil) pss_nil) pss_nil)), ?_⟩
    refine nrm (σ' := [some v_moduli, none]) rfl ?_
    refine q_if (et_or (et_not (et_B (ev_isi (d := (eT Dat.int) a) (n := "tuple") (b := true) rfl (show kitB "tuple" "tuple" = some true by decide +kernel) (ea_d (ev_d (K := K) rfl h_moduli) (ea_cons mo_cls ev_cls ea_nil))))) fun _ => (et_not (et_test (ev_chainI (ev_int (K := K)) (ev_lenTM (e := Dat.int) (ea_d (ev_d (K := K) rfl h_moduli) ea_nil)) (ev_int (K := K)))))) ok (fun hb G H s1 ok => ?_) (fun hb G H s1 ok => ?_)
    · have hm := cond_t hb hm
      have h_moduli := dp_up s1 _ h_moduli
      have sg := sg.trans s1
      cases hm
    · have hm := cond_f hb hm
      have h_moduli := dp_up s1 _ h_moduli
      have sg := sg.trans s1
      refine q_nilU ?_
      obtain ⟨t8, e_t8, hm⟩ := bs hm
      refine q_if (et_not (et_B (ev_allL (ea_d (EvL.ev (el_lcM (ea := Dat.int) (eb := Dat.bool) (xs := a) (ys := t8) (hf := e_t8) (src_tup (ev_d (K := K) rfl h_moduli)) (fun x1 _ Mx5 _ _ he6 sM4 sG3 hv2 => by (obtain ⟨t7, e_t7, he6⟩ := bs he6); cases he6; exact (tg_name ⟨rfl, (ev_callP (a := (x1, (1 : Int), (99 : Int))) e_t7 (ea_d (ev_d (K := K) rfl hv2) (ea_d (ev_int (K := K)) (ea_d (ev_int (K := K)) ea_nil))))⟩)))) ea_nil)))) ok (fun hb G H s1 ok => ?_) (fun hb G H s1 ok => ?_)
      · have hm := cond_t hb hm
        have h_moduli := dp_up s1 _ h_moduli
        have sg := sg.trans s1
        cases hm
      · have hm := cond_f hb hm
        have h_moduli := dp_up s1 _ h_moduli
        have sg := sg.trans s1
        refine q_nilU ?_
        refine q_nil ?_
        cases hm
        exact q _ _ _ sg (ok.less hB) .non
/-! ### is_vector -/
theorem sc_is_vector : FnScope ["moduli", "thing", "part"] ["moduli", "thing"] (defScope s_is_vector) := ⟨rfl, rfl, rfl, by decide +kernel, rfl, by decide +kernel, by decide +kernel⟩
def a_is_vector (K : PySem.W.Frag) (a : (List Int) × (List Int)) : List V → Hp → Prop := conP (DD K ((eT Dat.int) a.1)) (conP (DD K ((eT Dat.int) a.2)) (nilP))
def m_is_vector (a : (List Int) × (List Int)) : Option Bool :=
  (cond true ((cond (decide ((a.2.length : Int) = (a.1.length : Int))) ((lcO (fun x1 : Int => (m_is_whole x1).bind fun t7 => some t7) a.2).bind fun t8 => some (t8.all id)) (some false)).bind fun t9 => some t9) (some false)).bind fun t10 => some t10
abbrev sp_is_vector (K : PySem.W.Frag) : Sp := spP (a_is_vector K) (m_is_vector) fun r => DD K (Dat.bool r)
theorem ok_is_vector {P : Program} {w : World} {K : PySem.W.Frag} {mg : Str → Option Value} {base : Heap} (T : Txt K mg) (O_is_whole : FnOk P w K mg base CX0 1 T.a_is_whole T.d_is_whole ["thing"] (sp_is_whole K)) : FnOk P w K mg base CX0 (2) T.a_is_vector T.d_is_vector ["moduli", "thing"] (sp_is_vector K) := by
  refine T.F_is_vector.ok sc_is_vector (fun vs H Q E h => ?_) (fun cdv A outer s0 H vs Q E hr h => ?_)
  · obtain ⟨G, M0, a, r, ok, ⟨v_moduli, _, rfl, h_moduli, v_thing, _, rfl, h_thing, rfl⟩, hm, q⟩ := h
    rfl
  · obtain ⟨G, M0, a, r, ok, ⟨v_moduli, _, rfl, h_moduli, v_thing, _, rfl, h_thing, rfl⟩, hm, q⟩ := h
    unfold m_is_vector at hm
    have sg := Same.refl G
    have hB := Same.refl M0
    refine ⟨_, (pss_cons (ps_ret (pe_and (pe_callB (call_isiKK (K := K)) (by rfl) T.n_isinstance (by decide +kernel) (pa_cons (pv 1) (pa_cons (pe_bltn (v := .ty "tuple") (by rfl) T.n_tuple (by decide +kernel) rfl) pa_nil))) (pe_and (pe_cmpR op_eq (pe_callB (cl_lenK (K := K)) (by rfl) T.n_len (by decide +kernel) (pa_cons (pv 1) pa_nil)) (pe_callB (cl_lenK (K := K)) (by rfl) T.n_len (by decide +kernel) (pa_cons (pv 0) pa_nil)) (nomark _)) (pe_one (pe_callB (cr_allK (K := K) rfl) (by rfl) T.n_all (by decide +kernel) (pa_cons (pe_lc (own := [("part", 2)]) (g := (gName 2)) (tt := tYes) rfl sc_is_vector.nd (pi_tupK (K := K) (pv 1)) (blkOk_by (own := [("part", 2)]) (N := ["moduli", "thing", "part"]) (sc := defScope s_is_vector) (by decide +kernel)) (fun _ _ _ _ _ => (pg_name (i := 2) sc_is_vector.nd rfl (by first | exact .inl rfl | exact .inr rfl))) (fun _ _ _ _ _ => pts_nil) (fun _ _ _ _ _ => (pe_call O_is_whole (hr.mono (by decide)) (by rfl) T.g_is_whole T.F_is_whole.kp T.b_is_whole .nil pass0 (pa_cons (pv 2) pa_nil)))) pa_nil)))))) pss_nil), ?_⟩
    refine nrm (σ' := [some v_moduli, some v_thing, none]) rfl ?_
    obtain ⟨t10, e_t10, hm⟩ := bs hm
    refine q_ret (ev_andG (c := t10) (ev_isi (d := (eT Dat.int) a.2) (n := "tuple") (b := true) rfl (show kitB "tuple" "tuple" = some true by decide +kernel) (ea_d (ev_d (K := K) rfl h_thing) (ea_cons mo_cls ev_cls ea_nil))) (fun eb => by have e1 := cond_t eb e_t10; (obtain ⟨t9, e_t9, e1⟩ := bs e1); (have e1 := Option.some.inj e1); subst e1; exact (ev_andG (c := t9) (ev_eqI (ev_lenTM (e := Dat.int) (ea_d (ev_d (K := K) rfl h_thing) ea_nil)) (ev_lenTM (e := Dat.int) (ea_d (ev_d (K := K) rfl h_moduli) ea_nil))) (fun eb => by have e1 := cond_t eb e_t9; (obtain ⟨t8, e_t8, e1⟩ := bs e1); (have e1 := Option.some.inj e1); subst e1; exact (ev_allL (ea_d (EvL.ev (el_lcM (ea := Dat.int) (eb := Dat.bool) (xs := a.2) (ys := t8) (hf := e_t8) (src_tup (ev_d (K := K) rfl h_thing)) (fun x1 _ Mx5 _ _ he6 sM4 sG3 hv2 => by (obtain ⟨t7, e_t7, he6⟩ := bs he6); cases he6; exact (tg_name ⟨rfl, (ev_callP (a := x1) e_t7 (ea_d (ev_d (K := K) rfl hv2) ea_nil))⟩)))) ea_nil))) (fun eb => by have e1 := cond_f eb e_t9; cases e1; exact ⟨rfl, rfl⟩))) (fun eb => by have e1 := cond_f eb e_t10; cases e1; exact ⟨rfl, rfl⟩)) ok (fun v G H s1 ok hv => ?_)
    have sg := sg.trans s1
    cases hm
    exact q v G H sg (ok.less hB) hv
/-! ### check_vectors -/
theorem sc_check_vectors : FnScope ["moduli", "vectors", "place", "vector"] ["moduli", "vectors"] (defScope s_check_vectors) := ⟨rfl, rfl, rfl, by decide +kernel, rfl, by decide +kernel, by decide +kernel⟩
def a_check_vectors (K : PySem.W.Frag) (a : (List Int) × (List (List Int))) : List V → Hp → Prop := conP (DD K ((eT Dat.int) a.1)) (conP (DD K ((eT (eT Dat.int)) a.2)) (nilP))
def m_check_vectors (a : (List Int) × (List (List Int))) : Option Unit :=
  (m_check_moduli a.1).bind fun t1 => cond ((!true) || (decide ((40 : Int) < (a.2.length : Int)))) (none) ((forO (fun (st3 : Unit) (x4 : (Int × (List Int))) => (m_is_vector (a.1, x4.2)).bind fun t13 => cond (!t13) (none) (some ())) (enum a.2) ()).bind fun fin2 => some ())
abbrev sp_check_vectors (K : PySem.W.Frag) : Sp := spP (a_check_vectors K) (m_check_vectors) fun r => DD K (eN r)
theorem ok_check_vectors {P : Program} {w : World} {K : PySem.W.Frag} {mg : Str → Option Value} {base : Heap} (T : Txt K mg) (O_check_moduli : FnOk P w K mg base CX0 3 T.a_check_moduli T.d_check_moduli ["moduli"] (sp_check_moduli K)) (O_is_vector : FnOk P w K mg base CX0 2 T.a_is_vector T.d_is_vector ["moduli", "thing"] (sp_is_vector K)) : FnOk P w K mg base CX0 (4) T.a_check_vectors T.d_check_vectors ["moduli", "vectors"] (sp_check_vectors K) := by
  refine T.F_check_vectors.ok sc_check_vectors (fun vs H Q E h => ?_) (fun cdv A outer s0 H vs Q E hr h => ?_)
  · obtain ⟨G, M0, a, r, ok, ⟨v_moduli, _, rfl, h_moduli, v_vectors, _, rfl, h_vectors, rfl⟩, hm, q⟩ := h
    rfl
  · obtain ⟨G, M0, a, r, ok, ⟨v_moduli, _, rfl, h_moduli, v_vectors, _, rfl, h_vectors, rfl⟩, hm, q⟩ := h
    unfold m_check_vectors at hm
    have sg := Same.refl G
    have hB := Same.refl M0
    refine ⟨_, (pss_cons (ps_expr (pe_call O_check_moduli (hr.mono (by decide)) (by rfl) T.g_check_moduli T.F_check_moduli.kp T.b_check_moduli .nil pass0 (pa_cons (pv 0) pa_nil))) (pss_cons (ps_if (PW.pt (pw_or (pt_not (pt_val (pe_callB (call_isiKK (K := K)) (by rfl) T.n_isinstance (by decide +kernel) (pa_cons (pv 1) (pa_cons (pe_bltn (v := .ty "tuple") (by rfl) T.n_tuple (by decide +kernel) rfl) pa_nil))))) (pw_or1 (pt_cmpR op_gt (pe_callB (cl_lenK (K := K)) (by rfl) T.n_len (by decide +kernel) (pa_cons (pv 1) pa_nil)) (pe_glob (v := .int 40) (by rfl) T.c_MOST_VECTORS ⟨_, rfl⟩) (nomark _))))) (pss_cons ps_never pss_nil) pss_nil) (pss_cons (ps_for PassesOwn.never rfl (pi_enumTK (K := K) (by rfl) T.n_enumerate (pa_cons (pv 1) pa_nil)) (pg_tup rfl (pgs_cons (pg_name (i := 2) sc_check_vectors.nd rfl (.inl rfl)) (pgs_cons (pg_name (i := 3) sc_check_vectors.nd rfl (.inl rfl)) pgs_nil))) (pss_cons (ps_if (pt_not (pt_val (pe_call O_is_vector (hr.mono (by decide)) (by rfl) T.g_is_vector T.F_is_vector.kp T.b_is_vector .nil pass0 (pa_cons (pv 0) (pa_cons (pv 3) pa_nil))))) (pss_cons ps_never pss_nil) pss_nil) pss_nil)) pss_nil))), ?_⟩
    refine nrm (σ' := [some v_moduli, some v_vectors, none, none]) rfl ?_
    obtain ⟨t1, e_t1, hm⟩ := bs hm
    refine q_expr (ev_callP (a := a.1) e_t1 (ea_d (ev_d (K := K) rfl h_moduli) ea_nil)) ok (fun G H s1 ok => ?_)
    have h_moduli := dp_up s1 _ h_moduli
    have h_vectors := dp_up s1 _ h_vectors
    have sg := sg.trans s1
    refine q_if (et_or (et_not (et_B (ev_isi (d := (eT (eT Dat.int)) a.2) (n := "tuple") (b := true) rfl (show kitB "tuple" "tuple" = some true by decide +kernel) (ea_d (ev_d (K := K) rfl h_vectors) (ea_cons mo_cls ev_cls ea_nil))))) fun _ => (et_test (ev_gt (ev_lenTM (e := (eT Dat.int)) (ea_d (ev_d (K := K) rfl h_vectors) ea_nil)) (ev_int (K := K))))) ok (fun hb G H s1 ok => ?_) (fun hb G H s1 ok => ?_)
    · have hm := cond_t hb hm
      have h_moduli := dp_up s1 _ h_moduli
      have h_vectors := dp_up s1 _ h_vectors
      have sg := sg.trans s1
      cases hm
    · have hm := cond_f hb hm
      have h_moduli := dp_up s1 _ h_moduli
      have h_vectors := dp_up s1 _ h_vectors
      have sg := sg.trans s1
      refine q_nilU ?_
      obtain ⟨fin2, e_fin2, hm⟩ := bs hm
      have hmo5 := hm
      refine q_forO (ea := (eP2 Dat.int (eT Dat.int))) (Src.is (src_enumT (ea_d (ev_d (K := K) rfl h_vectors) ea_nil)) enumD_map) ok (fun (st3 : Unit) σ1 G1 M1 => ∃ (y_place : Option V) (y_vector : Option V), σ1 = [some v_moduli, some v_vectors, y_place, y_vector] ∧ (Same M0 M1)) e_fin2 (fun G1 s1 => ⟨_, _, rfl, hB⟩) (by rintro _ _ _ _ _ ⟨y_place, y_vector, rfl, hB⟩ s2; exact ⟨_, _, rfl, hB⟩) (fun x4 xv7 st3 st' σ1 G M H N hm hj s1 ok hv hN => ?_) (fun σ1 G M H s1 ok hj => ?_)
      · obtain ⟨y_place, y_vector, rfl, hB⟩ := hj
        have h_moduli := dp_up s1 _ h_moduli
        have h_vectors := dp_up s1 _ h_vectors
        have sg := sg.trans s1
        have sl8 := Same.refl G
        refine gt2 hv ok.g (fun w9 w10 hw11 hw12 => ?_)
        refine gn ?_
        have h_place := hw11
        cases h_place
        refine gn ?_
        have h_vector := hw12
        refine nrm (σ' := [some v_moduli, some v_vectors, some (.int x4.1), some w10]) rfl ?_
        obtain ⟨t13, e_t13, hm⟩ := bs hm
        refine q_if (et_not (et_B (ev_callP (a := (a.1, x4.2)) e_t13 (ea_d (ev_d (K := K) rfl h_moduli) (ea_d (ev_d (K := K) rfl h_vector) ea_nil))))) ok (fun hb G H s1 ok => ?_) (fun hb G H s1 ok => ?_)
        · have hm := cond_t hb hm
          have h_moduli := dp_up s1 _ h_moduli
          have h_vectors := dp_up s1 _ h_vectors
          have h_vector := dp_up s1 _ h_vector
          have sg := sg.trans s1
          have sl8 := sl8.trans s1
          cases hm
        · have hm := cond_f hb hm
          have h_moduli := dp_up s1 _ h_moduli
          have h_vectors := dp_up s1 _ h_vectors
          have h_vector := dp_up s1 _ h_vector
          have sg := sg.trans s1
          have sl8 := sl8.trans s1
          refine q_nilU ?_
          refine q_nil ?_
          cases hm
          exact hN _ _ _ _ sl8 ok ⟨_, _, rfl, hB⟩
      · obtain ⟨y_place, y_vector, rfl, hB⟩ := hj
        have h_moduli := dp_up s1 _ h_moduli
        have h_vectors := dp_up s1 _ h_vectors
        have sg := sg.trans s1
        refine q_nil ?_
        cases hm
        exact q _ _ _ sg (ok.less hB) .non
/-! ### check_vector -/
theorem sc_check_vector : FnScope ["moduli", "vectors", "vector"] ["moduli", "vectors", "vector"] (defScope s_check_vector) := ⟨rfl, rfl, rfl, by decide +kernel, rfl, by decide +kernel, by decide +kernel⟩
def a_check_vector (K : PySem.W.Frag) (a : (List Int) × (List (List Int)) × (List Int)) : List V → Hp → Prop := conP (DD K ((eT Dat.int) a.1)) (conP (DD K ((eT (eT Dat.int)) a.2.1)) (conP (DD K ((eT Dat.int) a.2.2)) (nilP)))
def m_check_vector (a : (List Int) × (List (List Int)) × (List Int)) : Option Unit :=
  (m_check_vectors (a.1, a.2.1)).bind fun t1 => (m_is_vector (a.1, a.2.2)).bind fun t2 => cond (!t2) (none) (some ())
abbrev sp_check_vector (K : PySem.W.Frag) : Sp := spP (a_check_vector K) (m_check_vector) fun r => DD K (eN r)
theorem ok_check_vector {P : Program} {w : World} {K : PySem.W.Frag} {mg : Str → Option Value} {base : Heap} (T : Txt K mg) (O_check_vectors : FnOk P w K mg base CX0 4 T.a_check_vectors T.d_check_vectors ["moduli", "vectors"] (sp_check_vectors K)) (O_is_vector : FnOk P w K mg base CX0 2 T.a_is_vector T.d_is_vector ["moduli", "thing"] (sp_is_vector K)) : FnOk P w K mg base CX0 (5) T.a_check_vector T.d_check_vector ["moduli", "vectors", "vector"] (sp_check_vector K) := by
  refine T.F_check_vector.ok sc_check_vector (fun vs H Q E h => ?_) (fun cdv A outer s0 H vs Q E hr h => ?_)
  · obtain ⟨G, M0, a, r, ok, ⟨v_moduli, _, rfl, h_moduli, v_vectors, _, rfl, h_vectors, v_vector, _, rfl, h_vector, rfl⟩, hm, q⟩ := h
    rfl
  · obtain ⟨G, M0, a, r, ok, ⟨v_moduli, _, rfl, h_moduli, v_vectors, _, rfl, h_vectors, v_vector, _, rfl, h_vector, rfl⟩, hm, q⟩ := h
    unfold m_check_vector at hm
    have sg := Same.refl G
    have hB := Same.refl M0
    refine ⟨_, (pss_cons (ps_expr (pe_call O_check_vectors (hr.mono (by decide)) (by rfl) T.g_check_vectors T.F_check_vectors.kp T.b_check_vectors .nil pass0 (pa_cons (pv 0) (pa_cons (pv 1) pa_nil)))) (pss_cons (ps_if (pt_not (pt_val (pe_call O_is_vector (hr.mono (by decide)) (by rfl) T.g_is_vector T.F_is_vector.kp T.b_is_vector .nil pass0 (pa_cons (pv 0) (pa_cons (pv 2) pa_nil))))) (pss_cons ps_never pss_nil) pss_nil) pss_nil)), ?_⟩
    refine nrm (σ' := [some v_moduli, some v_vectors, some v_vector]) rfl ?_
    obtain ⟨t1, e_t1, hm⟩ := bs hm
    refine q_expr (ev_callP (a := (a.1, a.2.1)) e_t1 (ea_d (ev_d (K := K) rfl h_moduli) (ea_d (ev_d (K := K) rfl h_vectors) ea_nil))) ok (fun G H s1 ok => ?_)
    have h_moduli := dp_up s1 _ h_moduli
    have h_vectors := dp_up s1 _ h_vectors
    have h_vector := dp_up s1 _ h_vector
    have sg := sg.trans s1
    obtain ⟨t2, e_t2, hm⟩ := bs hm
    refine q_if (et_not (et_B (ev_callP (a := (a.1, a.2.2)) e_t2 (ea_d (ev_d (K := K) rfl h_moduli) (ea_d (ev_d (K := K) rfl h_vector) ea_nil))))) ok (fun hb G H s1 ok => ?_) (fun hb G H s1 ok => ?_)
    · have hm := cond_t hb hm
      have h_moduli := dp_up s1 _ h_moduli
      have h_vectors := dp_up s1 _ h_vectors
      have h_vector := dp_up s1 _ h_vector
      have sg := sg.trans s1
      cases hm
    · have hm := cond_f hb hm
      have h_moduli := dp_up s1 _ h_moduli
      have h_vectors := dp_up s1 _ h_vectors
      have h_vector := dp_up s1 _ h_vector
      have sg := sg.trans s1
      refine q_nilU ?_
      refine q_nil ?_
      cases hm
      exact q _ _ _ sg (ok.less hB) .non
/-! ### less -/
theorem sc_less : FnScope ["one", "other", "times", "mine", "yours"] ["one", "other", "times"] (defScope s_less) := ⟨rfl, rfl, rfl, by decide +kernel, rfl, by decide +kernel, by decide +kernel⟩
def a_less (K : PySem.W.Frag) (a : (List Int) × (List Int) × Int) : List V → Hp → Prop := conP (DD K ((eL Dat.int) a.1)) (conP (DD K ((eL Dat.int) a.2.1)) (conP (DD K (Dat.int a.2.2)) (nilP)))
def m_less (a : (List Int) × (List Int) × Int) : Option (List Int) :=
  (lcO (fun x1 : (Int × Int) => (mulO a.2.2 x1.2).bind fun t9 => some (x1.1 - t9)) (a.1.zip a.2.1)).bind fun t10 => some t10
abbrev sp_less (K : PySem.W.Frag) : Sp := spP (a_less K) (m_less) fun r => DD K ((eL Dat.int) r)
theorem ok_less {P : Program} {w : World} {K : PySem.W.Frag} {mg : Str → Option Value} {base : Heap} (T : Txt K mg) : FnOk P w K mg base CX0 (1) T.a_less T.d_less ["one", "other", "times"] (sp_less K) := by
  refine T.F_less.ok sc_less (fun vs H Q E h => ?_) (fun cdv A outer s0 H vs Q E hr h => ?_)
  · obtain ⟨G, M0, a, r, ok, ⟨v_one, _, rfl, h_one, v_other, _, rfl, h_other, v_times, _, rfl, h_times, rfl⟩, hm, q⟩ := h
    rfl
  · obtain ⟨G, M0, a, r, ok, ⟨v_one, _, rfl, h_one, v_other, _, rfl, h_other, v_times, _, rfl, h_times, rfl⟩, hm, q⟩ := h
    unfold m_less at hm
    have sg := Same.refl G
    have hB := Same.refl M0
    refine ⟨_, (pss_cons (ps_ret (pe_lc (own := [("mine", 3), ("yours", 4)]) (g := (gTup K 2 (gCons (gName 3) (gCons (gName 4) gNil)))) (tt := tYes) rfl sc_less.nd (pi_zipK (K := K) (by rfl) T.n_zip (pa_cons (pv 0) (pa_cons (pv 1) pa_nil))) (blkOk_by (own := [("mine", 3), ("yours", 4)]) (N := ["one", "other", "times", "mine", "yours"]) (sc := defScope s_less) (by decide +kernel)) (fun _ _ _ _ _ => (pg_tup rfl (pgs_cons (pg_name (i := 3) sc_less.nd rfl (by first | exact .inl rfl | exact .inr rfl)) (pgs_cons (pg_name (i := 4) sc_less.nd rfl (by first | exact .inl rfl | exact .inr rfl)) pgs_nil)))) (fun _ _ _ _ _ => pts_nil) (fun _ _ _ _ _ => (pe_op op_sub (pv 3) (pe_op op_mulO (pv 2) (pv 4)))))) pss_nil), ?_⟩
    cases h_times
    refine nrm (σ' := [some v_one, some v_other, some (.int a.2.2), none, none]) rfl ?_
    obtain ⟨t10, e_t10, hm⟩ := bs hm
    refine q_ret (EvL.ev (el_lcM (ea := (eP2 Dat.int Dat.int)) (eb := Dat.int) (xs := (a.1.zip a.2.1)) (ys := t10) (hf := e_t10) (Src.is (src_zipL (ea_d (ev_d (K := K) rfl h_one) (ea_d (ev_d (K := K) rfl h_other) ea_nil))) zipD_map) (fun x1 _ Mx5 _ _ he6 sM4 sG3 hv2 => by (obtain ⟨t9, e_t9, he6⟩ := bs he6); cases he6; exact (tg_t2 hv2 fun _ _ h7 h8 => (tg_name (tg_name ⟨rfl, (ev_sub (ev_d (K := K) rfl h7) (ev_mulO e_t9 (ev_d (K := K) rfl (.int _)) (ev_d (K := K) rfl h8)))⟩)))))) ok (fun v G H s1 ok hv => ?_)
    have sg := sg.trans s1
    cases hm
    exact q v G H sg (ok.less hB) hv
/-! ### by_rests -/
theorem sc_by_rests : FnScope ["row", "moduli", "place", "part", "modulus"] ["row", "moduli", "place"] (defScope s_by_rests) := ⟨rfl, rfl, rfl, by decide +kernel, rfl, by decide +kernel, by decide +kernel⟩
def a_by_rests (K : PySem.W.Frag) (a : (List Int) × (List Int) × Int) : List V → Hp → Prop := conP (DD K ((eL Dat.int) a.1)) (conP (DD K ((eT Dat.int) a.2.1)) (conP (DD K (Dat.int a.2.2)) (nilP)))
def m_by_rests (a : (List Int) × (List Int) × Int) : Option (List Int) :=
  (lcO (fun x1 : (Int × Int) => (modO x1.1 x1.2).bind fun t9 => some t9) ((cut a.1 (some (a.2.2 + (1 : Int))) none).zip (cut a.2.1 (some (a.2.2 + (1 : Int))) none))).bind fun t10 => (catO (cut a.1 none (some (a.2.2 + (1 : Int)))) t10).bind fun t11 => some t11
abbrev sp_by_rests (K : PySem.W.Frag) : Sp := spP (a_by_rests K) (m_by_rests) fun r => DD K ((eL Dat.int) r)
theorem ok_by_rests {P : Program} {w : World} {K : PySem.W.Frag} {mg : Str → Option Value} {base : Heap} (T : Txt K mg) : FnOk P w K mg base CX0 (1) T.a_by_rests T.d_by_rests ["row", "moduli", "place"] (sp_by_rests K) := by
  refine T.F_by_rests.ok sc_by_rests (fun vs H Q E h => ?_) (fun cdv A outer s0 H vs Q E hr h => ?_)
  · obtain ⟨G, M0, a, r, ok, ⟨v_row, _, rfl, h_row, v_moduli, _, rfl, h_moduli, v_place, _, rfl, h_place, rfl⟩, hm, q⟩ := h
    rfl
  · obtain ⟨G, M0, a, r, ok, ⟨v_row, _, rfl, h_row, v_moduli, _, rfl, h_moduli, v_place, _, rfl, h_place, rfl⟩, hm, q⟩ := h
    unfold m_by_rests at hm
    have sg := Same.refl G
    have hB := Same.refl M0
    refine ⟨_, (pss_cons (ps_ret (pe_op op_cat (pe_slice (sl_listK (K := K)) (pv 0) po_none (po_some (pe_op op_add (pv 2) pe_int))) (pe_lc (own := [("part", 3), ("modulus", 4)]) (g := (gTup K 2 (gCons (gName 3) (gCons (gName 4) gNil)))) (tt := tYes) rfl sc_by_rests.nd (pi_zipBK (K := K) false true (by rfl) T.n_zip (pa_cons (pe_slice (sl_listK (K := K)) (pv 0) (po_some (pe_op op_add (pv 2) pe_int)) po_none) (pa_cons (pe_slice (sl_tupK (K := K)) (pv 1) (po_some (pe_op op_add (pv 2) pe_int)) po_none) pa_nil))) (blkOk_by (own := [("part", 3), ("modulus", 4)]) (N := ["row", "moduli", "place", "part", "modulus"]) (sc := defScope s_by_rests) (by decide +kernel)) (fun _ _ _ _ _ => (pg_tup rfl (pgs_cons (pg_name (i := 3) sc_by_rests.nd rfl (by first | exact .inl rfl | exact .inr rfl)) (pgs_cons (pg_name (i := 4) sc_by_rests.nd rfl (by first | exact .inl rfl | exact .inr rfl)) pgs_nil)))) (fun _ _ _ _ _ => pts_nil) (fun _ _ _ _ _ => (pe_op op_modN (pv 3) (pv 4)))))) pss_nil), ?_⟩
    cases h_place
    refine nrm (σ' := [some v_row, some v_moduli, some (.int a.2.2), none, none]) rfl ?_
    obtain ⟨t10, e_t10, hm⟩ := bs hm
    obtain ⟨t11, e_t11, hm⟩ := bs hm
    refine q_ret (EvL.ev (el_catO (e := Dat.int) e_t11 (EvL.ev (el_slLM (e := Dat.int) (ev_d (K := K) rfl h_row) eo_none (eo_some (ev_add (ev_d (K := K) rfl (.int _)) (ev_int (K := K)))))) (EvL.ev (el_lcM (ea := (eP2 Dat.int Dat.int)) (eb := Dat.int) (xs := ((cut a.1 (some (a.2.2 + (1 : Int))) none).zip (cut a.2.1 (some (a.2.2 + (1 : Int))) none))) (ys := t10) (hf := e_t10) (Src.is (src_zipB (ka := false) (kb := true) (ea_d (EvL.ev (el_slLM (e := Dat.int) (ev_d (K := K) rfl h_row) (eo_some (ev_add (ev_d (K := K) rfl (.int _)) (ev_int (K := K)))) eo_none)) (ea_d (ev_slTM (e := Dat.int) (ev_d (K := K) rfl h_moduli) (eo_some (ev_add (ev_d (K := K) rfl (.int _)) (ev_int (K := K)))) eo_none) ea_nil))) zipD_map) (fun x1 _ Mx5 _ _ he6 sM4 sG3 hv2 => by (obtain ⟨t9, e_t9, he6⟩ := bs he6); cases he6; exact (tg_t2 hv2 fun _ _ h7 h8 => (tg_name (tg_name ⟨rfl, (ev_modO e_t9 (ev_d (K := K) rfl h7) (ev_d (K := K) rfl h8))⟩)))))))) ok (fun v G H s1 ok hv => ?_)
    have sg := sg.trans s1
    cases hm
    exact q v G H sg (ok.less hB) hv
/-! ### met -/
theorem sc_met : FnScope ["rung", "row", "moduli", "place", "one", "mine", "other", "yours", "times"] ["rung", "row", "moduli", "place"] (defScope s_met) := ⟨rfl, rfl, rfl, by decide +kernel, rfl, by decide +kernel, by decide +kernel⟩
def a_met (K : PySem.W.Frag) (a : ((List Int) × (List Int)) × ((List Int) × (List Int)) × (List Int) × Int) : List V → Hp → Prop := conP (DD K ((eP2 (eL Dat.int) (eL Dat.int)) a.1)) (conP (DD K ((eP2 (eL Dat.int) (eL Dat.int)) a.2.1)) (conP (DD K ((eT Dat.int) a.2.2.1)) (conP (DD K (Dat.int a.2.2.2)) (nilP))))
def m_met (a : ((List Int) × (List Int)) × ((List Int) × (List Int)) × (List Int) × Int) : Option (((List Int) × (List Int)) × ((List Int) × (List Int))) :=
  (whileO (fun (st14 : (List Int) × (List Int) × (List Int) × (List Int)) => (atI st14.2.1 a.2.2.2).bind fun t15 => some (!decide (t15 = (0 : Int)))) (fun (st14 : (List Int) × (List Int) × (List Int) × (List Int)) => (atI st14.1 a.2.2.2).bind fun t17 => (atI st14.2.1 a.2.2.2).bind fun t18 => (fdivO t17 t18).bind fun t19 => (m_less (st14.1, st14.2.1, t19)).bind fun t20 => (m_by_rests (t20, a.2.2.1, a.2.2.2)).bind fun t21 => (m_less (st14.2.2.1, st14.2.2.2, t19)).bind fun t22 => some (st14.2.1, t21, st14.2.2.2, t22)) (1000) ((a.1, a.2.1).1.1, (a.1, a.2.1).2.1, (a.1, a.2.1).1.2, (a.1, a.2.1).2.2)).bind fun fin13 => some ((fin13.1, fin13.2.2.1), (fin13.2.1, fin13.2.2.2))
abbrev sp_met (K : PySem.W.Frag) : Sp := spP (a_met K) (m_met) fun r => DD K ((eP2 (eP2 (eL Dat.int) (eL Dat.int)) (eP2 (eL Dat.int) (eL Dat.int))) r)
theorem ok_met {P : Program} {w : World} {K : PySem.W.Frag} {mg : Str → Option Value} {base : Heap} (T : Txt K mg) (O_by_rests : FnOk P w K mg base CX0 1 T.a_by_rests T.d_by_rests ["row", "moduli", "place"] (sp_by_rests K)) (O_less : FnOk P w K mg base CX0 1 T.a_less T.d_less ["one", "other", "times"] (sp_less K)) : FnOk P w K mg base CX0 (2) T.a_met T.d_met ["rung", "row", "moduli", "place"] (sp_met K) := by
  refine T.F_met.ok sc_met (fun vs H Q E h => ?_) (fun cdv A outer s0 H vs Q E hr h => ?_)
  · obtain ⟨G, M0, a, r, ok, ⟨v_rung, _, rfl, h_rung, v_row, _, rfl, h_row, v_moduli, _, rfl, h_moduli, v_place, _, rfl, h_place, rfl⟩, hm, q⟩ := h
    rfl
  · obtain ⟨G, M0, a, r, ok, ⟨v_rung, _, rfl, h_rung, v_row, _, rfl, h_row, v_moduli, _, rfl, h_moduli, v_place, _, rfl, h_place, rfl⟩, hm, q⟩ := h
    unfold m_met at hm
    have sg := Same.refl G
    have hB := Same.refl M0
    refine ⟨_, (pss_cons (ps_asg (pe_tup (pa_cons (pv 0) (pa_cons (pv 1) pa_nil))) (pg_tup rfl (pgs_cons (pg_tup rfl (pgs_cons (pg_name (i := 4) sc_met.nd rfl (.inl rfl)) (pgs_cons (pg_name (i := 5) sc_met.nd rfl (.inl rfl)) pgs_nil))) (pgs_cons (pg_tup rfl (pgs_cons (pg_name (i := 6) sc_met.nd rfl (.inl rfl)) (pgs_cons (pg_name (i := 7) sc_met.nd rfl (.inl rfl)) pgs_nil))) pgs_nil)))) (pss_cons (ps_while PassesOwn.never (pt_cmpR op_ne (pe_ix (ix_listK (K := K)) (pv 6) (pv 3) (fun _ _ => rfl)) pe_int (nomark _)) (pss_cons (ps_set (i := 8) sc_met.nd rfl (.inl rfl) (pe_op op_fdivO (pe_ix (ix_listK (K := K)) (pv 4) (pv 3) (fun _ _ => rfl)) (pe_ix (ix_listK (K := K)) (pv 6) (pv 3) (fun _ _ => rfl)))) (pss_cons (ps_par (i := 4) (j := 6) rfl sc_met.nd rfl rfl (by decide) rfl rfl (pa_cons (pv 6) (pa_cons (pe_call O_by_rests (hr.mono (by decide)) (by rfl) T.g_by_rests T.F_by_rests.kp T.b_by_rests .nil pass0 (pa_cons (pe_call O_less (hr.mono (by decide)) (by rfl) T.g_less T.F_less.kp T.b_less .nil pass0 (pa_cons (pv 4) (pa_cons (pv 6) (pa_cons (pv 8) pa_nil)))) (pa_cons (pv 2) (pa_cons (pv 3) pa_nil)))) pa_nil)) (by rfl)) (pss_cons (ps_par (i := 5) (j := 7) rfl sc_met.nd rfl rfl (by decide) rfl rfl (pa_cons (pv 7) (pa_cons (pe_call O_less (hr.mono (by decide)) (by rfl) T.g_less T.F_less.kp T.b_less .nil pass0 (pa_cons (pv 5) (pa_cons (pv 7) (pa_cons (pv 8) pa_nil)))) pa_nil)) (by rfl)) pss_nil)))) (pss_cons (ps_ret (pe_tup (pa_cons (pe_tup (pa_cons (pv 4) (pa_cons (pv 5) pa_nil))) (pa_cons (pe_tup (pa_cons (pv 6) (pa_cons (pv 7) pa_nil))) pa_nil)))) pss_nil))), ?_⟩
    cases h_place
    refine nrm (σ' := [some v_rung, some v_row, some v_moduli, some (.int a.2.2.2), none, none, none, none, none]) rfl ?_
    refine q_asgG (ev_tup (ea_consD (ev_d (K := K) rfl h_rung) (ea_consD (ev_d (K := K) rfl h_row) (ea_nilD (K := K))))) ok (fun v G H s1 ok hv => ?_)
    have h_rung := dp_up s1 _ h_rung
    have h_row := dp_up s1 _ h_row
    have h_moduli := dp_up s1 _ h_moduli
    have sg := sg.trans s1
    refine gt2 hv ok.g (fun w1 w2 hw3 hw4 => ?_)
    refine gt2 hw3 ok.g (fun w5 w6 hw7 hw8 => ?_)
    refine gn ?_
    have h_one := hw7
    refine gn ?_
    have h_mine := hw8
    refine gt2 hw4 ok.g (fun w9 w10 hw11 hw12 => ?_)
    refine gn ?_
    have h_other := hw11
    refine gn ?_
    have h_yours := hw12
    refine nrm (σ' := [some v_rung, some v_row, some v_moduli, some (.int a.2.2.2), some w5, some w6, some w9, some w10, none]) rfl ?_
    obtain ⟨fin13, e_fin13, hm⟩ := bs hm
    refine q_whileO ok (fun (st14 : (List Int) × (List Int) × (List Int) × (List Int)) σ1 G1 M1 => ∃ (y_times : Option V) (v_one : V) (v_other : V) (v_mine : V) (v_yours : V), σ1 = [some v_rung, some v_row, some v_moduli, some (.int a.2.2.2), some v_one, some v_mine, some v_other, some v_yours, y_times] ∧ (Dq K G1 v_one ((eL Dat.int) st14.1)) ∧ (Dq K G1 v_other ((eL Dat.int) st14.2.1)) ∧ (Dq K G1 v_mine ((eL Dat.int) st14.2.2.1)) ∧ (Dq K G1 v_yours ((eL Dat.int) st14.2.2.2)) ∧ (Same M0 M1)) e_fin13 ⟨_, _, _, _, _, rfl, h_one, h_other, h_mine, h_yours, hB⟩ (fun st14 b σ1 G M H hm hj s1 ok => ?_) (by rintro _ _ _ _ _ ⟨y_times, v_one, v_other, v_mine, v_yours, rfl, h_one, h_other, h_mine, h_yours, hB⟩ s2; exact ⟨_, _, _, _, _, rfl, dp_up s2 _ h_one, dp_up s2 _ h_other, dp_up s2 _ h_mine, dp_up s2 _ h_yours, hB⟩) (fun st14 st' σ1 G M H N hc hm hj s1 ok hN => ?_) (fun σ1 G M H hc s1 ok hj => ?_)
    · obtain ⟨y_times, v_one, v_other, v_mine, v_yours, rfl, h_one, h_other, h_mine, h_yours, hB⟩ := hj
      have h_rung := dp_up s1 _ h_rung
      have h_row := dp_up s1 _ h_row
      have h_moduli := dp_up s1 _ h_moduli
      have sg := sg.trans s1
      obtain ⟨t15, e_t15, hm⟩ := bs hm
      cases hm
      exact (et_test (ev_neI (ev_ixLM (e := Dat.int) e_t15 (ev_d (K := K) rfl h_other) (ev_d (K := K) rfl (.int _))) (ev_int (K := K))))
    · obtain ⟨y_times, v_one, v_other, v_mine, v_yours, rfl, h_one, h_other, h_mine, h_yours, hB⟩ := hj
      have h_rung := dp_up s1 _ h_rung
      have h_row := dp_up s1 _ h_row
      have h_moduli := dp_up s1 _ h_moduli
      have sg := sg.trans s1
      have sl16 := Same.refl G
      obtain ⟨t17, e_t17, hm⟩ := bs hm
      obtain ⟨t18, e_t18, hm⟩ := bs hm
      obtain ⟨t19, e_t19, hm⟩ := bs hm
      refine q_set (σ' := fun v => [some v_rung, some v_row, some v_moduli, some (.int a.2.2.2), some v_one, some v_mine, some v_other, some v_yours, some v]) (ev_fdivO e_t19 (ev_ixLM (e := Dat.int) e_t17 (ev_d (K := K) rfl h_one) (ev_d (K := K) rfl (.int _))) (ev_ixLM (e := Dat.int) e_t18 (ev_d (K := K) rfl h_other) (ev_d (K := K) rfl (.int _)))) ok (fun _ => rfl) (fun v_times G H s1 ok h_times => ?_)
      have h_rung := dp_up s1 _ h_rung
      have h_row := dp_up s1 _ h_row
      have h_moduli := dp_up s1 _ h_moduli
      have h_one := dp_up s1 _ h_one
      have h_mine := dp_up s1 _ h_mine
      have h_other := dp_up s1 _ h_other
      have h_yours := dp_up s1 _ h_yours
      have sg := sg.trans s1
      have sl16 := sl16.trans s1
      cases h_times
      obtain ⟨t20, e_t20, hm⟩ := bs hm
      obtain ⟨t21, e_t21, hm⟩ := bs hm
      refine q_par (σ' := fun v w => [some v_rung, some v_row, some v_moduli, some (.int a.2.2.2), some v, some v_mine, some w, some v_yours, some (.int t19)]) (ea_d (ev_d (K := K) rfl h_other) (ea_d (ev_callP (a := (t20, a.2.2.1, a.2.2.2)) e_t21 (ea_d (ev_callP (a := (st14.1, st14.2.1, t19)) e_t20 (ea_d (ev_d (K := K) rfl h_one) (ea_d (ev_d (K := K) rfl h_other) (ea_d (ev_d (K := K) rfl (.int _)) ea_nil)))) (ea_d (ev_d (K := K) rfl h_moduli) (ea_d (ev_d (K := K) rfl (.int _)) ea_nil)))) ea_nil)) ok (fun _ _ => rfl) (fun v_one v_other G H s1 ok h_one h_other => ?_)
      have h_rung := dp_up s1 _ h_rung
      have h_row := dp_up s1 _ h_row
      have h_moduli := dp_up s1 _ h_moduli
      have h_mine := dp_up s1 _ h_mine
      have h_yours := dp_up s1 _ h_yours
      have sg := sg.trans s1
      have sl16 := sl16.trans s1
      obtain ⟨t22, e_t22, hm⟩ := bs hm
      refine q_par (σ' := fun v w => [some v_rung, some v_row, some v_moduli, some (.int a.2.2.2), some v_one, some v, some v_other, some w, some (.int t19)]) (ea_d (ev_d (K := K) rfl h_yours) (ea_d (ev_callP (a := (st14.2.2.1, st14.2.2.2, t19)) e_t22 (ea_d (ev_d (K := K) rfl h_mine) (ea_d (ev_d (K := K) rfl h_yours) (ea_d (ev_d (K := K) rfl (.int _)) ea_nil)))) ea_nil)) ok (fun _ _ => rfl) (fun v_mine v_yours G H s1 ok h_mine h_yours => ?_)
      have h_rung := dp_up s1 _ h_rung
      have h_row := dp_up s1 _ h_row
      have h_moduli := dp_up s1 _ h_moduli
      have h_one := dp_up s1 _ h_one
      have h_other := dp_up s1 _ h_other
      have sg := sg.trans s1
      have sl16 := sl16.trans s1
      refine q_nil ?_
      cases hm
      exact hN _ _ _ _ sl16 ok ⟨_, _, _, _, _, rfl, h_one, h_other, h_mine, h_yours, hB⟩
    · obtain ⟨y_times, v_one, v_other, v_mine, v_yours, rfl, h_one, h_other, h_mine, h_yours, hB⟩ := hj
      have h_rung := dp_up s1 _ h_rung
      have h_row := dp_up s1 _ h_row
      have h_moduli := dp_up s1 _ h_moduli
      have sg := sg.trans s1
      refine q_ret (ev_tup (ea_consD (ev_tup (ea_consD (ev_d (K := K) rfl h_one) (ea_consD (ev_d (K := K) rfl h_mine) (ea_nilD (K := K))))) (ea_consD (ev_tup (ea_consD (ev_d (K := K) rfl h_other) (ea_consD (ev_d (K := K) rfl h_yours) (ea_nilD (K := K))))) (ea_nilD (K := K))))) ok (fun v G H s1 ok hv => ?_)
      have sg := sg.trans s1
      cases hm
      exact q v G H sg (ok.less hB) hv
/-! ### laid -/
theorem sc_laid : FnScope ["moduli", "vectors", "size", "many", "rungs", "number", "vector", "row", "place", "later", "counts", "times", "at", "part", "modulus"] ["moduli", "vectors"] (defScope s_laid) := ⟨rfl, rfl, rfl, by decide +kernel, rfl, by decide +kernel, by decide +kernel⟩
def a_laid (K : PySem.W.Frag) (a : (List Int) × (List (List Int))) : List V → Hp → Prop := conP (DD K ((eT Dat.int) a.1)) (conP (DD K ((eT (eT Dat.int)) a.2)) (nilP))
def m_laid (a : (List Int) × (List (List Int))) : Option (List ((List Int) × (List Int))) :=
  (rngO (a.1.length : Int)).bind fun t1 => (lcO (fun x2 : Int => (rngO (a.1.length : Int)).bind fun t8 => (lcO (fun x9 : Int => (atI a.1 x9).bind fun t15 => (mulO t15 (if (decide (x9 = x2)) then 1 else 0 : Int)).bind fun t16 => some t16) t8).bind fun t17 => (repO (0 : Int) (a.2.length : Int)).bind fun t18 => some (t17, t18)) t1).bind fun t19 => (forO (fun (st21 : (List ((List Int) × (List Int)))) (x22 : (Int × (List Int))) => (lcO (fun x31 : (Int × Int) => (modO x31.1 x31.2).bind fun t39 => some t39) (x22.2.zip a.1)).bind fun t40 => (rngO (a.2.length : Int)).bind fun t41 => (lcO (fun x42 : Int => some (if (decide (x42 = x22.1)) then 1 else 0 : Int)) t41).bind fun t48 => (rngO (a.1.length : Int)).bind fun t49 => (forO (fun (st51 : ((List Int) × (List Int)) × (List ((List Int) × (List Int)))) (x52 : Int) => (atI st51.2 x52).bind fun t57 => (m_met (t57, st51.1, a.1, x52)).bind fun t58 => (setO st51.2 x52 t58.1).bind fun t63 => some (t58.2, t63)) t49 ((t40, t48), st21)).bind fun fin50 => some fin50.2) (enum a.2) t19).bind fun fin20 => (rngO (a.1.length : Int)).bind fun t65 => (forO (fun (st67 : (List ((List Int) × (List Int)))) (x68 : Int) => (rng2O (x68 + (1 : Int)) (a.1.length : Int)).bind fun t73 => (forO (fun (st75 : (List ((List Int) × (List Int)))) (x76 : Int) => (atI st75 x68).bind fun t81 => (atI t81.1 x76).bind fun t86 => (atI st75 x76).bind fun t87 => (atI t87.1 x76).bind fun t88 => (fdivO t86 t88).bind fun t89 => (atI st75 x76).bind fun t90 => (m_less (t81.1, t90.1, t89)).bind fun t91 => (atI st75 x76).bind fun t92 => (m_less (t81.2, t92.2, t89)).bind fun t93 => (setO st75 x68 (t91, t93)).bind fun t94 => some t94) t73 st67).bind fun fin74 => some fin74) t65 fin20).bind fun fin66 => some fin66
abbrev sp_laid (K : PySem.W.Frag) : Sp := spP (a_laid K) (m_laid) fun r => DD K ((eL (eP2 (eL Dat.int) (eL Dat.int))) r)
theorem ok_laid {P : Program} {w : World} {K : PySem.W.Frag} {mg : Str → Option Value} {base : Heap} (T : Txt K mg) (O_met : FnOk P w K mg base CX0 2 T.a_met T.d_met ["rung", "row", "moduli", "place"] (sp_met K)) (O_less : FnOk P w K mg base CX0 1 T.a_less T.d_less ["one", "other", "times"] (sp_less K)) : FnOk P w K mg base CX0 (3) T.a_laid T.d_laid ["moduli", "vectors"] (sp_laid K) := by
  refine T.F_laid.ok sc_laid (fun vs H Q E h => ?_) (fun cdv A outer s0 H vs Q E hr h => ?_)
  · obtain ⟨G, M0, a, r, ok, ⟨v_moduli, _, rfl, h_moduli, v_vectors, _, rfl, h_vectors, rfl⟩, hm, q⟩ := h
    rfl
  · obtain ⟨G, M0, a, r, ok, ⟨v_moduli, _, rfl, h_moduli, v_vectors, _, rfl, h_vectors, rfl⟩, hm, q⟩ := h
    unfold m_laid at hm
    have sg := Same.refl G
    have hB := Same.refl M0
    refine ⟨_, (pss_cons (ps_asg (pe_tup (pa_cons (pe_callB (cl_lenK (K := K)) (by rfl) T.n_len (by decide +kernel) (pa_cons (pv 0) pa_nil)) (pa_cons (pe_callB (cl_lenK (K := K)) (by rfl) T.n_len (by decide +kernel) (pa_cons (pv 1) pa_nil)) pa_nil))) (pg_tup rfl (pgs_cons (pg_name (i := 2) sc_laid.nd rfl (.inr rfl)) (pgs_cons (pg_name (i := 3) sc_laid.nd rfl (.inr rfl)) pgs_nil)))) (pss_cons (ps_setLc (i := 4) (own := [("place", 8)]) (g := (gName 8)) (tt := tYes) rfl sc_laid.nd rfl rfl (sw_true rfl rfl rfl (by decide +kernel)) (pi_range1 (by rfl) T.n_range (pa_cons (pv 2) pa_nil)) (blkOk_by (own := [("place", 8)]) (N := ["moduli", "vectors", "size", "many", "rungs", "number", "vector", "row", "place", "later", "counts", "times", "at", "part", "modulus"]) (sc := defScope s_laid) (by decide +kernel)) (fun _ _ _ _ _ => (pg_name (i := 8) sc_laid.nd rfl (by first | exact .inl rfl | exact .inr rfl))) (fun _ _ _ _ _ => pts_nil) (fun _ _ _ _ _ => (pe_tup (pa_cons (pe_lc (own := [("at", 12)]) (g := (gName 12)) (tt := tYes) rfl sc_laid.nd (pi_range1 (by rfl) T.n_range (pa_cons (pv 2) pa_nil)) (blkOk_by (own := [("at", 12)]) (N := ["moduli", "vectors", "size", "many", "rungs", "number", "vector", "row", "place", "later", "counts", "times", "at", "part", "modulus"]) (by first | decide +kernel | kernel_rfl)) (fun _ _ _ _ _ => (pg_name (i := 12) sc_laid.nd rfl (by first | exact .inl rfl | exact .inr rfl))) (fun _ _ _ _ _ => pts_nil) (fun _ _ _ _ _ => (pe_op op_mulO (pe_ix (ix_tupK (K := K)) (pv 0) (pv 12) (fun _ _ => rfl)) (pe_callTy cl_int (by rfl) T.n_int (by decide +kernel) (pa_cons (pe_cmpR op_eq (pv 12) (pv 8) (nomark _)) pa_nil))))) (pa_cons (pe_op op_rep (pe_lst (pa_cons pe_int pa_nil)) (pv 3)) pa_nil))))) (pss_cons (ps_for PassesOwn.never rfl (pi_enumTK (K := K) (by rfl) T.n_enumerate (pa_cons (pv 1) pa_nil)) (pg_tup rfl (pgs_cons (pg_name (i := 5) sc_laid.nd rfl (.inr rfl)) (pgs_cons (pg_name (i := 6) sc_laid.nd rfl (.inl rfl)) pgs_nil))) (pss_cons (ps_set (i := 7) sc_laid.nd rfl (.inl rfl) (pe_tup (pa_cons (pe_lc (own := [("part", 13), ("modulus", 14)]) (g := (gTup K 2 (gCons (gName 13) (gCons (gName 14) gNil)))) (tt := tYes) rfl sc_laid.nd (pi_zipBK (K := K) true true (by rfl) T.n_zip (pa_cons (pv 6) (pa_cons (pv 0) pa_nil))) (blkOk_by (own := [("part", 13), ("modulus", 14)]) (N := ["moduli", "vectors", "size", "many", "rungs", "number", "vector", "row", "place", "later", "counts", "times", "at", "part", "modulus"]) (sc := defScope s_laid) (by decide +kernel)) (fun _ _ _ _ _ => (pg_tup rfl (pgs_cons (pg_name (i := 13) sc_laid.nd rfl (by first | exact .inl rfl | exact .inr rfl)) (pgs_cons (pg_name (i := 14) sc_laid.nd rfl (by first | exact .inl rfl | exact .inr rfl)) pgs_nil)))) (fun _ _ _ _ _ => pts_nil) (fun _ _ _ _ _ => (pe_op op_modN (pv 13) (pv 14)))) (pa_cons (pe_lc (own := [("at", 12)]) (g := (gName 12)) (tt := tYes) rfl sc_laid.nd (pi_range1 (by rfl) T.n_range (pa_cons (pv 3) pa_nil)) (blkOk_by (own := [("at", 12)]) (N := ["moduli", "vectors", "size", "many", "rungs", "number", "vector", "row", "place", "later", "counts", "times", "at", "part", "modulus"]) (sc := defScope s_laid) (by decide +kernel)) (fun _ _ _ _ _ => (pg_name (i := 12) sc_laid.nd rfl (by first | exact .inl rfl | exact .inr rfl))) (fun _ _ _ _ _ => pts_nil) (fun _ _ _ _ _ => (pe_callTy cl_int (by rfl) T.n_int (by decide +kernel) (pa_cons (pe_cmpR op_eq (pv 12) (pv 5) (nomark _)) pa_nil)))) pa_nil)))) (pss_cons (ps_for PassesOwn.never rfl (pi_range1 (by rfl) T.n_range (pa_cons (pv 2) pa_nil)) (pg_name (i := 8) sc_laid.nd rfl (.inl rfl)) (pss_cons (ps_asg (pe_call O_met (hr.mono (by decide)) (by rfl) T.g_met T.F_met.kp T.b_met .nil pass0 (pa_cons (pe_ix (ix_listK (K := K)) (pv 4) (pv 8) (fun _ _ => rfl)) (pa_cons (pv 7) (pa_cons (pv 0) (pa_cons (pv 8) pa_nil))))) (pg_tup rfl (pgs_cons (pg_sub (pv 4) (pv 8) set_list) (pgs_cons (pg_name (i := 7) sc_laid.nd rfl (.inl rfl)) pgs_nil)))) pss_nil)) pss_nil))) (pss_cons (ps_for PassesOwn.never rfl (pi_range1 (by rfl) T.n_range (pa_cons (pv 2) pa_nil)) (pg_name (i := 8) sc_laid.nd rfl (.inl rfl)) (pss_cons (ps_for PassesOwn.never rfl (pi_range2 (by rfl) T.n_range (pa_cons (pe_op op_add (pv 8) pe_int) (pa_cons (pv 2) pa_nil))) (pg_name (i := 9) sc_laid.nd rfl (.inl rfl)) (pss_cons (ps_asg (pe_ix (ix_listK (K := K)) (pv 4) (pv 8) (fun _ _ => rfl)) (pg_tup rfl (pgs_cons (pg_name (i := 7) sc_laid.nd rfl (.inl rfl)) (pgs_cons (pg_name (i := 10) sc_laid.nd rfl (.inl rfl)) pgs_nil)))) (pss_cons (ps_set (i := 11) sc_laid.nd rfl (.inl rfl) (pe_op op_fdivO (pe_ix (ix_listK (K := K)) (pv 7) (pv 9) (fun _ _ => rfl)) (pe_ix (ix_listK (K := K)) (pe_ix (ix_tupK (K := K)) (pe_ix (ix_listK (K := K)) (pv 4) (pv 9) (fun _ _ => rfl)) pe_int (fun _ _ => rfl)) (pv 9) (fun _ _ => rfl)))) (pss_cons (ps_asg (pe_tup (pa_cons (pe_call O_less (hr.mono (by decide)) (by rfl) T.g_less T.F_less.kp T.b_less .nil pass0 (pa_cons (pv 7) (pa_cons (pe_ix (ix_tupK (K := K)) (pe_ix (ix_listK (K := K)) (pv 4) (pv 9) (fun _ _ => rfl)) pe_int (fun _ _ => rfl)) (pa_cons (pv 11) pa_nil)))) (pa_cons (pe_call O_less (hr.mono (by decide)) (by rfl) T.g_less T.F_less.kp T.b_less .nil pass0 (pa_cons (pv 10) (pa_cons (pe_ix (ix_tupK (K := K)) (pe_ix (ix_listK (K := K)) (pv 4) (pv 9) (fun _ _ => rfl)) pe_int (fun _ _ => rfl)) (pa_cons (pv 11) pa_nil)))) pa_nil))) (pg_sub (pv 4) (pv 8) set_list)) pss_nil)))) pss_nil)) (pss_cons (ps_ret (pv 4)) pss_nil))))), ?_⟩
    refine nrm (σ' := [some v_moduli, some v_vectors, none, none, none, none, none, none, none, none, none, none, none, none, none]) rfl ?_
    refine q_tupDD (σ' := fun v w => [some v_moduli, some v_vectors, some v, some w, none, none, none, none, none, none, none, none, none, none, none]) (ev_lenTM (e := Dat.int) (ea_d (ev_d (K := K) rfl h_moduli) ea_nil)) mo_dd (ev_lenTM (e := (eT Dat.int)) (ea_d (ev_d (K := K) rfl h_vectors) ea_nil)) mo_dd ok (fun _ _ => rfl) (fun v_size v_many G H s1 ok h_size h_many => ?_)
    have h_moduli := dp_up s1 _ h_moduli
    have h_vectors := dp_up s1 _ h_vectors
    have sg := sg.trans s1
    cases h_size
    cases h_many
    obtain ⟨t1, e_t1, hm⟩ := bs hm
    obtain ⟨t19, e_t19, hm⟩ := bs hm
    refine q_setL (σ' := fun v => [some v_moduli, some v_vectors, some (.int (a.1.length : Int)), some (.int (a.2.length : Int)), some v, none, none, none, none, none, none, none, none, none, none]) (el_lcM (ea := Dat.int) (eb := (eP2 (eL Dat.int) (eL Dat.int))) (xs := t1) (ys := t19) (hf := e_t19) (src_rngO e_t1 (ea_d (ev_d (K := K) rfl (.int _)) ea_nil)) (fun x2 _ Mx6 _ _ he7 sM5 sG4 hv3 => by (obtain ⟨t8, e_t8, he7⟩ := bs he7); (obtain ⟨t17, e_t17, he7⟩ := bs he7); (obtain ⟨t18, e_t18, he7⟩ := bs he7); cases he7; exact (tg_name ⟨rfl, (ev_tup (ea_consD (EvL.ev (el_lcM (ea := Dat.int) (eb := Dat.int) (xs := t8) (ys := t17) (hf := e_t17) (src_rngO e_t8 (ea_d (ev_d (K := K) rfl (.int _)) ea_nil)) (fun x9 _ Mx13 _ _ he14 sM12 sG11 hv10 => by (obtain ⟨t15, e_t15, he14⟩ := bs he14); (obtain ⟨t16, e_t16, he14⟩ := bs he14); cases he14; exact (tg_name ⟨rfl, (ev_mulO e_t16 (ev_ixTM (e := Dat.int) e_t15 (ev_d (K := K) rfl (dp_up sG11 _ (dp_up sG4 _ h_moduli))) (ev_d (K := K) rfl hv10)) (ev_intB (ea_d (ev_eqI (ev_d (K := K) rfl hv10) (ev_d (K := K) rfl (dp_up sG11 _ hv3))) ea_nil)))⟩)))) (ea_consD (EvL.ev (el_repO (e := Dat.int) e_t18 (EvL.ev (el_lst (ea_consD (ev_int (K := K)) ea_nilD))) (ev_d (K := K) rfl (.int _)))) (ea_nilD (K := K)))))⟩))) ok (fun _ => rfl) (fun p_rungs vs_rungs G H s1 ok hn hd_rungs => ?_)
    have h_moduli := dp_up s1 _ h_moduli
    have h_vectors := dp_up s1 _ h_vectors
    have sg := sg.trans s1
    have h0_rungs : M0 p_rungs = none := sB_none (M := M0) hB hn
    have hd_rungs : DqAll K G vs_rungs (t19.map (eP2 (eL Dat.int) (eL Dat.int))) := hd_rungs
    have ok : Ok _ (upd M0 p_rungs (.lst vs_rungs)) _ := ok
    have hB : Same M0 (upd M0 p_rungs (.lst vs_rungs)) := (sB_own hB h0_rungs)
    have hp_rungs : (upd M0 p_rungs (.lst vs_rungs)) p_rungs = some (.lst vs_rungs) := upd_same
    obtain ⟨M, eM⟩ : ∃ m, m = (upd M0 p_rungs (.lst vs_rungs)) := ⟨_, rfl⟩
    rw [← eM] at ok hB hp_rungs
    clear eM
    obtain ⟨fin20, e_fin20, hm⟩ := bs hm
    have hmo23 := hm
    refine q_forO (ea := (eP2 Dat.int (eT Dat.int))) (Src.is (src_enumT (ea_d (ev_d (K := K) rfl h_vectors) ea_nil)) enumD_map) ok (fun (st21 : (List ((List Int) × (List Int)))) σ1 G1 M1 => ∃ (y_row : Option V) (y_place : Option V) (y_number : Option V) (y_vector : Option V) (vs_rungs : List V), σ1 = [some v_moduli, some v_vectors, some (.int (a.1.length : Int)), some (.int (a.2.length : Int)), some (.ref p_rungs), y_number, y_vector, y_row, y_place, none, none, none, none, none, none] ∧ (DqAll K G1 vs_rungs (st21.map (eP2 (eL Dat.int) (eL Dat.int)))) ∧ (M1 p_rungs = some (.lst vs_rungs)) ∧ (Same M0 M1)) e_fin20 (fun G1 s1 => ⟨_, _, _, _, _, rfl, dpAll_up s1 _ hd_rungs, hp_rungs, hB⟩) (by rintro _ _ _ _ _ ⟨y_row, y_place, y_number, y_vector, vs_rungs, rfl, hd_rungs, hp_rungs, hB⟩ s2; exact ⟨_, _, _, _, _, rfl, dpAll_up s2 _ hd_rungs, hp_rungs, hB⟩) (fun x22 xv25 st21 st' σ1 G M H N hm hj s1 ok hv hN => ?_) (fun σ1 G M H s1 ok hj => ?_)
    · obtain ⟨y_row, y_place, y_number, y_vector, vs_rungs, rfl, hd_rungs, hp_rungs, hB⟩ := hj
      have h_moduli := dp_up s1 _ h_moduli
      have h_vectors := dp_up s1 _ h_vectors
      have sg := sg.trans s1
      have sl26 := Same.refl G
      refine gt2 hv ok.g (fun w27 w28 hw29 hw30 => ?_)
      refine gn ?_
      have h_number := hw29
      cases h_number
      refine gn ?_
      have h_vector := hw30
      refine nrm (σ' := [some v_moduli, some v_vectors, some (.int (a.1.length : Int)), some (.int (a.2.length : Int)), some (.ref p_rungs), some (.int x22.1), some w28, y_row, y_place, none, none, none, none, none, none]) rfl ?_
      obtain ⟨t40, e_t40, hm⟩ := bs hm
      obtain ⟨t41, e_t41, hm⟩ := bs hm
      obtain ⟨t48, e_t48, hm⟩ := bs hm
      refine q_set (σ' := fun v => [some v_moduli, some v_vectors, some (.int (a.1.length : Int)), some (.int (a.2.length : Int)), some (.ref p_rungs), some (.int x22.1), some w28, some v, y_place, none, none, none, none, none, none]) (ev_tup (ea_consD (EvL.ev (el_lcM (ea := (eP2 Dat.int Dat.int)) (eb := Dat.int) (xs := (x22.2.zip a.1)) (ys := t40) (hf := e_t40) (Src.is (src_zipB (ka := true) (kb := true) (ea_d (ev_d (K := K) rfl h_vector) (ea_d (ev_d (K := K) rfl h_moduli) ea_nil))) zipD_map) (fun x31 _ Mx35 _ _ he36 sM34 sG33 hv32 => by (obtain ⟨t39, e_t39, he36⟩ := bs he36); cases he36; exact (tg_t2 hv32 fun _ _ h37 h38 => (tg_name (tg_name ⟨rfl, (ev_modO e_t39 (ev_d (K := K) rfl h37) (ev_d (K := K) rfl h38))⟩)))))) (ea_consD (EvL.ev (el_lcM (ea := Dat.int) (eb := Dat.int) (xs := t41) (ys := t48) (hf := e_t48) (src_rngO e_t41 (ea_d (ev_d (K := K) rfl (.int _)) ea_nil)) (fun x42 _ Mx46 _ _ he47 sM45 sG44 hv43 => by cases he47; exact (tg_name ⟨rfl, (ev_intB (ea_d (ev_eqI (ev_d (K := K) rfl hv43) (ev_d (K := K) rfl (.int _))) ea_nil))⟩)))) (ea_nilD (K := K))))) ok (fun _ => rfl) (fun v_row G H s1 ok h_row => ?_)
      have h_moduli := dp_up s1 _ h_moduli
      have h_vectors := dp_up s1 _ h_vectors
      have hd_rungs := dpAll_up s1 _ hd_rungs
      have h_vector := dp_up s1 _ h_vector
      have sg := sg.trans s1
      have sl26 := sl26.trans s1
      obtain ⟨t49, e_t49, hm⟩ := bs hm
      obtain ⟨fin50, e_fin50, hm⟩ := bs hm
      have hmo53 := hm
      refine q_forO (ea := Dat.int) (src_rngO e_t49 (ea_d (ev_d (K := K) rfl (.int _)) ea_nil)) ok (fun (st51 : ((List Int) × (List Int)) × (List ((List Int) × (List Int)))) σ1 G1 M1 => ∃ (y_place : Option V) (v_row : V) (vs_rungs : List V), σ1 = [some v_moduli, some v_vectors, some (.int (a.1.length : Int)), some (.int (a.2.length : Int)), some (.ref p_rungs), some (.int x22.1), some w28, some v_row, y_place, none, none, none, none, none, none] ∧ (Dq K G1 v_row ((eP2 (eL Dat.int) (eL Dat.int)) st51.1)) ∧ (DqAll K G1 vs_rungs (st51.2.map (eP2 (eL Dat.int) (eL Dat.int)))) ∧ (M1 p_rungs = some (.lst vs_rungs)) ∧ (Same M0 M1)) e_fin50 (fun G1 s1 => ⟨_, _, _, rfl, dp_up s1 _ h_row, dpAll_up s1 _ hd_rungs, hp_rungs, hB⟩) (by rintro _ _ _ _ _ ⟨y_place, v_row, vs_rungs, rfl, h_row, hd_rungs, hp_rungs, hB⟩ s2; exact ⟨_, _, _, rfl, dp_up s2 _ h_row, dpAll_up s2 _ hd_rungs, hp_rungs, hB⟩) (fun x52 xv55 st51 st' σ1 G M H N hm hj s1 ok hv hN => ?_) (fun σ1 G M H s1 ok hj => ?_)
      · obtain ⟨y_place, v_row, vs_rungs, rfl, h_row, hd_rungs, hp_rungs, hB⟩ := hj
        have h_moduli := dp_up s1 _ h_moduli
        have h_vectors := dp_up s1 _ h_vectors
        have h_vector := dp_up s1 _ h_vector
        have sg := sg.trans s1
        have sl26 := sl26.trans s1
        have sl56 := Same.refl G
        refine gn ?_
        have h_place := hv
        cases h_place
        refine nrm (σ' := [some v_moduli, some v_vectors, some (.int (a.1.length : Int)), some (.int (a.2.length : Int)), some (.ref p_rungs), some (.int x22.1), some w28, some v_row, some (.int x52), none, none, none, none, none, none]) rfl ?_
        obtain ⟨t57, e_t57, hm⟩ := bs hm
        obtain ⟨t58, e_t58, hm⟩ := bs hm
        refine q_asgG (ev_callP (a := (t57, st51.1, a.1, x52)) e_t58 (ea_d (ev_ixOM (e := (eP2 (eL Dat.int) (eL Dat.int))) e_t57 hp_rungs hd_rungs (ev_own rfl) (ev_d (K := K) rfl (.int _))) (ea_d (ev_d (K := K) rfl h_row) (ea_d (ev_d (K := K) rfl h_moduli) (ea_d (ev_d (K := K) rfl (.int _)) ea_nil))))) ok (fun v G H s1 ok hv => ?_)
        have h_moduli := dp_up s1 _ h_moduli
        have h_vectors := dp_up s1 _ h_vectors
        have hd_rungs := dpAll_up s1 _ hd_rungs
        have h_vector := dp_up s1 _ h_vector
        have h_row := dp_up s1 _ h_row
        have sg := sg.trans s1
        have sl56 := sl56.trans s1
        have sl26 := sl26.trans s1
        refine gt2 hv ok.g (fun w59 w60 hw61 hw62 => ?_)
        obtain ⟨t63, e_t63, hm⟩ := bs hm
        obtain ⟨j64, hj_j64, ej_j64⟩ := setO_of e_t63
        have hj_j64 : ixN vs_rungs.length x52 = some j64 := by rw [dpAll_len hd_rungs, List.length_map]; exact hj_j64
        refine gs_list (ev_own rfl) (ev_d (K := K) rfl (.int _)) hp_rungs hj_j64 ok (fun G H s1 ok => ?_)
        have h_moduli := dp_up s1 _ h_moduli
        have h_vectors := dp_up s1 _ h_vectors
        have hd_rungs := dpAll_up s1 _ hd_rungs
        have h_vector := dp_up s1 _ h_vector
        have h_row := dp_up s1 _ h_row
        have sg := sg.trans s1
        have sl56 := sl56.trans s1
        have sl26 := sl26.trans s1
        have hw62 := dp_up s1 _ hw62
        have hw61 := dp_up s1 _ hw61
        have hd_rungs : DqAll K G (vs_rungs.set j64 w59) (t63.map (eP2 (eL Dat.int) (eL Dat.int))) := by rw [ej_j64, List.map_set]; exact dpAll_set _ hw61 hd_rungs
        refine gn ?_
        have h_row := hw62
        refine nrm (σ' := [some v_moduli, some v_vectors, some (.int (a.1.length : Int)), some (.int (a.2.length : Int)), some (.ref p_rungs), some (.int x22.1), some w28, some w60, some (.int x52), none, none, none, none, none, none]) rfl ?_
        have ok : Ok _ (upd M p_rungs (.lst (vs_rungs.set j64 w59))) _ := ok
        have hB : Same M0 (upd M p_rungs (.lst (vs_rungs.set j64 w59))) := (sB_own hB h0_rungs)
        have hp_rungs : (upd M p_rungs (.lst (vs_rungs.set j64 w59))) p_rungs = some (.lst (vs_rungs.set j64 w59)) := upd_same
        obtain ⟨M, eM⟩ : ∃ m, m = (upd M p_rungs (.lst (vs_rungs.set j64 w59))) := ⟨_, rfl⟩
        rw [← eM] at ok hB hp_rungs
        clear eM
        refine q_nil ?_
        cases hm
        exact hN _ _ _ _ sl56 ok ⟨_, _, _, rfl, h_row, hd_rungs, hp_rungs, hB⟩
      · obtain ⟨y_place, v_row, vs_rungs, rfl, h_row, hd_rungs, hp_rungs, hB⟩ := hj
        have h_moduli := dp_up s1 _ h_moduli
        have h_vectors := dp_up s1 _ h_vectors
        have h_vector := dp_up s1 _ h_vector
        have sg := sg.trans s1
        have sl26 := sl26.trans s1
        refine q_nil ?_
        cases hm
        exact hN _ _ _ _ sl26 ok ⟨_, _, _, _, _, rfl, hd_rungs, hp_rungs, hB⟩
    · obtain ⟨y_row, y_place, y_number, y_vector, vs_rungs, rfl, hd_rungs, hp_rungs, hB⟩ := hj
      have h_moduli := dp_up s1 _ h_moduli
      have h_vectors := dp_up s1 _ h_vectors
      have sg := sg.trans s1
      obtain ⟨t65, e_t65, hm⟩ := bs hm
      obtain ⟨fin66, e_fin66, hm⟩ := bs hm
      have hmo69 := hm
      refine q_forO (ea := Dat.int) (src_rngO e_t65 (ea_d (ev_d (K := K) rfl (.int _)) ea_nil)) ok (fun (st67 : (List ((List Int) × (List Int)))) σ1 G1 M1 => ∃ (y_later : Option V) (y_row : Option V) (y_counts : Option V) (y_times : Option V) (y_place : Option V) (vs_rungs : List V), σ1 = [some v_moduli, some v_vectors, some (.int (a.1.length : Int)), some (.int (a.2.length : Int)), some (.ref p_rungs), y_number, y_vector, y_row, y_place, y_later, y_counts, y_times, none, none, none] ∧ (DqAll K G1 vs_rungs (st67.map (eP2 (eL Dat.int) (eL Dat.int)))) ∧ (M1 p_rungs = some (.lst vs_rungs)) ∧ (Same M0 M1)) e_fin66 (fun G1 s1 => ⟨_, _, _, _, _, _, rfl, dpAll_up s1 _ hd_rungs, hp_rungs, hB⟩) (by rintro _ _ _ _ _ ⟨y_later, y_row, y_counts, y_times, y_place, vs_rungs, rfl, hd_rungs, hp_rungs, hB⟩ s2; exact ⟨_, _, _, _, _, _, rfl, dpAll_up s2 _ hd_rungs, hp_rungs, hB⟩) (fun x68 xv71 st67 st' σ1 G M H N hm hj s1 ok hv hN => ?_) (fun σ1 G M H s1 ok hj => ?_)
      · obtain ⟨y_later, y_row, y_counts, y_times, y_place, vs_rungs, rfl, hd_rungs, hp_rungs, hB⟩ := hj
        have h_moduli := dp_up s1 _ h_moduli
        have h_vectors := dp_up s1 _ h_vectors
        have sg := sg.trans s1
        have sl72 := Same.refl G
        refine gn ?_
        have h_place := hv
        cases h_place
        refine nrm (σ' := [some v_moduli, some v_vectors, some (.int (a.1.length : Int)), some (.int (a.2.length : Int)), some (.ref p_rungs), y_number, y_vector, y_row, some (.int x68), y_later, y_counts, y_times, none, none, none]) rfl ?_
        obtain ⟨t73, e_t73, hm⟩ := bs hm
        obtain ⟨fin74, e_fin74, hm⟩ := bs hm
        have hmo77 := hm
        refine q_forO (ea := Dat.int) (src_rng2O e_t73 (ea_d (ev_add (ev_d (K := K) rfl (.int _)) (ev_int (K := K))) (ea_d (ev_d (K := K) rfl (.int _)) ea_nil))) ok (fun (st75 : (List ((List Int) × (List Int)))) σ1 G1 M1 => ∃ (y_row : Option V) (y_counts : Option V) (y_times : Option V) (y_later : Option V) (vs_rungs : List V), σ1 = [some v_moduli, some v_vectors, some (.int (a.1.length : Int)), some (.int (a.2.length : Int)), some (.ref p_rungs), y_number, y_vector, y_row, some (.int x68), y_later, y_counts, y_times, none, none, none] ∧ (DqAll K G1 vs_rungs (st75.map (eP2 (eL Dat.int) (eL Dat.int)))) ∧ (M1 p_rungs = some (.lst vs_rungs)) ∧ (Same M0 M1)) e_fin74 (fun G1 s1 => ⟨_, _, _, _, _, rfl, dpAll_up s1 _ hd_rungs, hp_rungs, hB⟩) (by rintro _ _ _ _ _ ⟨y_row, y_counts, y_times, y_later, vs_rungs, rfl, hd_rungs, hp_rungs, hB⟩ s2; exact ⟨_, _, _, _, _, rfl, dpAll_up s2 _ hd_rungs, hp_rungs, hB⟩) (fun x76 xv79 st75 st' σ1 G M H N hm hj s1 ok hv hN => ?_) (fun σ1 G M H s1 ok hj => ?_)
        · obtain ⟨y_row, y_counts, y_times, y_later, vs_rungs, rfl, hd_rungs, hp_rungs, hB⟩ := hj
          have h_moduli := dp_up s1 _ h_moduli
          have h_vectors := dp_up s1 _ h_vectors
          have sg := sg.trans s1
          have sl72 := sl72.trans s1
          have sl80 := Same.refl G
          refine gn ?_
          have h_later := hv
          cases h_later
          refine nrm (σ' := [some v_moduli, some v_vectors, some (.int (a.1.length : Int)), some (.int (a.2.length : Int)), some (.ref p_rungs), y_number, y_vector, y_row, some (.int x68), some (.int x76), y_counts, y_times, none, none, none]) rfl ?_
          obtain ⟨t81, e_t81, hm⟩ := bs hm
          refine q_asgG (ev_ixOM (e := (eP2 (eL Dat.int) (eL Dat.int))) e_t81 hp_rungs hd_rungs (ev_own rfl) (ev_d (K := K) rfl (.int _))) ok (fun v G H s1 ok hv => ?_)
          have h_moduli := dp_up s1 _ h_moduli
          have h_vectors := dp_up s1 _ h_vectors
          have hd_rungs := dpAll_up s1 _ hd_rungs
          have sg := sg.trans s1
          have sl80 := sl80.trans s1
          have sl72 := sl72.trans s1
          refine gt2 hv ok.g (fun w82 w83 hw84 hw85 => ?_)
          refine gn ?_
          have h_row := hw84
          refine gn ?_
          have h_counts := hw85
          refine nrm (σ' := [some v_moduli, some v_vectors, some (.int (a.1.length : Int)), some (.int (a.2.length : Int)), some (.ref p_rungs), y_number, y_vector, some w82, some (.int x68), some (.int x76), some w83, y_times, none, none, none]) rfl ?_
          obtain ⟨t86, e_t86, hm⟩ := bs hm
          obtain ⟨t87, e_t87, hm⟩ := bs hm
          obtain ⟨t88, e_t88, hm⟩ := bs hm
          obtain ⟨t89, e_t89, hm⟩ := bs hm
          refine q_set (σ' := fun v => [some v_moduli, some v_vectors, some (.int (a.1.length : Int)), some (.int (a.2.length : Int)), some (.ref p_rungs), y_number, y_vector, some w82, some (.int x68), some (.int x76), some w83, some v, none, none, none]) (ev_fdivO e_t89 (ev_ixLM (e := Dat.int) e_t86 (ev_d (K := K) rfl h_row) (ev_d (K := K) rfl (.int _))) (ev_ixLM (e := Dat.int) e_t88 (ev_ixT (d := (eL Dat.int) t87.1) rfl (ev_ixOM (e := (eP2 (eL Dat.int) (eL Dat.int))) e_t87 hp_rungs hd_rungs (ev_own rfl) (ev_d (K := K) rfl (.int _))) ev_int) (ev_d (K := K) rfl (.int _)))) ok (fun _ => rfl) (fun v_times G H s1 ok h_times => ?_)
          have h_moduli := dp_up s1 _ h_moduli
          have h_vectors := dp_up s1 _ h_vectors
          have hd_rungs := dpAll_up s1 _ hd_rungs
          have h_row := dp_up s1 _ h_row
          have h_counts := dp_up s1 _ h_counts
          have sg := sg.trans s1
          have sl80 := sl80.trans s1
          have sl72 := sl72.trans s1
          cases h_times
          obtain ⟨t90, e_t90, hm⟩ := bs hm
          obtain ⟨t91, e_t91, hm⟩ := bs hm
          obtain ⟨t92, e_t92, hm⟩ := bs hm
          obtain ⟨t93, e_t93, hm⟩ := bs hm
          obtain ⟨t94, e_t94, hm⟩ := bs hm
          obtain ⟨j95, hj_j95, ej_j95⟩ := setO_of e_t94
          have hj_j95 : ixN vs_rungs.length x68 = some j95 := by rw [dpAll_len hd_rungs, List.length_map]; exact hj_j95
          refine q_setItem (ev_tup (ea_consD (ev_callP (a := (t81.1, t90.1, t89)) e_t91 (ea_d (ev_d (K := K) rfl h_row) (ea_d (ev_ixT (d := (eL Dat.int) t90.1) rfl (ev_ixOM (e := (eP2 (eL Dat.int) (eL Dat.int))) e_t90 hp_rungs hd_rungs (ev_own rfl) (ev_d (K := K) rfl (.int _))) ev_int) (ea_d (ev_d (K := K) rfl (.int _)) ea_nil)))) (ea_consD (ev_callP (a := (t81.2, t92.2, t89)) e_t93 (ea_d (ev_d (K := K) rfl h_counts) (ea_d (ev_ixT (d := (eL Dat.int) t92.2) rfl (ev_ixOM (e := (eP2 (eL Dat.int) (eL Dat.int))) e_t92 hp_rungs hd_rungs (ev_own rfl) (ev_d (K := K) rfl (.int _))) ev_int) (ea_d (ev_d (K := K) rfl (.int _)) ea_nil)))) (ea_nilD (K := K))))) (ev_own rfl) (ev_d (K := K) rfl (.int _)) hp_rungs hj_j95 ok (fun v G H s1 ok hv => ?_)
          have h_moduli := dp_up s1 _ h_moduli
          have h_vectors := dp_up s1 _ h_vectors
          have hd_rungs := dpAll_up s1 _ hd_rungs
          have h_row := dp_up s1 _ h_row
          have h_counts := dp_up s1 _ h_counts
          have sg := sg.trans s1
          have sl80 := sl80.trans s1
          have sl72 := sl72.trans s1
          have hd_rungs : DqAll K G (vs_rungs.set j95 v) (t94.map (eP2 (eL Dat.int) (eL Dat.int))) := by rw [ej_j95, List.map_set]; exact dpAll_set _ hv hd_rungs
          have ok : Ok _ (upd M p_rungs (.lst (vs_rungs.set j95 v))) _ := ok
          have hB : Same M0 (upd M p_rungs (.lst (vs_rungs.set j95 v))) := (sB_own hB h0_rungs)
          have hp_rungs : (upd M p_rungs (.lst (vs_rungs.set j95 v))) p_rungs = some (.lst (vs_rungs.set j95 v)) := upd_same
          obtain ⟨M, eM⟩ : ∃ m, m = (upd M p_rungs (.lst (vs_rungs.set j95 v))) := ⟨_, rfl⟩
          rw [← eM] at ok hB hp_rungs
          clear eM
          obtain ⟨vs_rungs, e_vs⟩ : ∃ m, m = (vs_rungs.set j95 v) := ⟨_, rfl⟩
          rw [← e_vs] at hp_rungs hd_rungs
          clear e_vs
          refine q_nil ?_
          cases hm
          exact hN _ _ _ _ sl80 ok ⟨_, _, _, _, _, rfl, hd_rungs, hp_rungs, hB⟩
        · obtain ⟨y_row, y_counts, y_times, y_later, vs_rungs, rfl, hd_rungs, hp_rungs, hB⟩ := hj
          have h_moduli := dp_up s1 _ h_moduli
          have h_vectors := dp_up s1 _ h_vectors
          have sg := sg.trans s1
          have sl72 := sl72.trans s1
          refine q_nil ?_
          cases hm
          exact hN _ _ _ _ sl72 ok ⟨_, _, _, _, _, _, rfl, hd_rungs, hp_rungs, hB⟩
      · obtain ⟨y_later, y_row, y_counts, y_times, y_place, vs_rungs, rfl, hd_rungs, hp_rungs, hB⟩ := hj
        have h_moduli := dp_up s1 _ h_moduli
        have h_vectors := dp_up s1 _ h_vectors
        have sg := sg.trans s1
        refine q_ret (ev_own rfl) ok (fun v G H s1 ok hv => ?_)
        have sg := sg.trans s1
        have hd_rungs := dpAll_up s1 _ hd_rungs
        cases hv
        have gp : G p_rungs = none := ok.d _ _ hp_rungs
        cases hm
        exact q _ (upd G p_rungs (.lst vs_rungs)) H (sg.trans (Same.new gp)) (ok.giveL hp_rungs h0_rungs hB) (.lst upd_same (dpAll_up (Same.new gp) _ hd_rungs))
/-! ### steps_of -/
theorem sc_steps_of : FnScope ["rungs", "place", "row", "counts"] ["rungs"] (defScope s_steps_of) := ⟨rfl, rfl, rfl, by decide +kernel, rfl, by decide +kernel, by decide +kernel⟩
def a_steps_of (K : PySem.W.Frag) (a : (List ((List Int) × (List Int)))) : List V → Hp → Prop := conP (DD K ((eL (eP2 (eL Dat.int) (eL Dat.int))) a)) (nilP)
def m_steps_of (a : (List ((List Int) × (List Int)))) : Option (List Int) :=
  (lcO (fun x1 : (Int × ((List Int) × (List Int))) => (atI x1.2.1 x1.1).bind fun t11 => some t11) (enum a)).bind fun t12 => some t12
abbrev sp_steps_of (K : PySem.W.Frag) : Sp := spP (a_steps_of K) (m_steps_of) fun r => DD K ((eL Dat.int) r)
theorem ok_steps_of {P : Program} {w : World} {K : PySem.W.Frag} {mg : Str → Option Value} {base : Heap} (T : Txt K mg) : FnOk P w K mg base CX0 (1) T.a_steps_of T.d_steps_of ["rungs"] (sp_steps_of K) := by
  refine T.F_steps_of.ok sc_steps_of (fun vs H Q E h => ?_) (fun cdv A outer s0 H vs Q E hr h => ?_)
  · obtain ⟨G, M0, a, r, ok, ⟨v_rungs, _, rfl, h_rungs, rfl⟩, hm, q⟩ := h
    rfl
  · obtain ⟨G, M0, a, r, ok, ⟨v_rungs, _, rfl, h_rungs, rfl⟩, hm, q⟩ := h
    unfold m_steps_of at hm
    have sg := Same.refl G
    have hB := Same.refl M0
    refine ⟨_, (pss_cons (ps_ret (pe_lc (own := [("place", 1), ("row", 2), ("counts", 3)]) (g := (gTup K 2 (gCons (gName 1) (gCons (gTup K 2 (gCons (gName 2) (gCons (gName 3) gNil))) gNil)))) (tt := tYes) rfl sc_steps_of.nd (pi_enumK (K := K) (by rfl) T.n_enumerate (pa_cons (pv 0) pa_nil)) (blkOk_by (own := [("place", 1), ("row", 2), ("counts", 3)]) (N := ["rungs", "place", "row", "counts"]) (sc := defScope s_steps_of) (by decide +kernel)) (fun _ _ _ _ _ => (pg_tup rfl (pgs_cons (pg_name (i := 1) sc_steps_of.nd rfl (by first | exact .inl rfl | exact .inr rfl)) (pgs_cons (pg_tup rfl (pgs_cons (pg_name (i := 2) sc_steps_of.nd rfl (by first | exact .inl rfl | exact .inr rfl)) (pgs_cons (pg_name (i := 3) sc_steps_of.nd rfl (by first | exact .inl rfl | exact .inr rfl)) pgs_nil))) pgs_nil)))) (fun _ _ _ _ _ => pts_nil) (fun _ _ _ _ _ => (pe_ix (ix_listK (K := K)) (pv 2) (pv 1) (fun _ _ => rfl))))) pss_nil), ?_⟩
    refine nrm (σ' := [some v_rungs, none, none, none]) rfl ?_
    obtain ⟨t12, e_t12, hm⟩ := bs hm
    refine q_ret (EvL.ev (el_lcM (ea := (eP2 Dat.int (eP2 (eL Dat.int) (eL Dat.int)))) (eb := Dat.int) (xs := (enum a)) (ys := t12) (hf := e_t12) (Src.is (src_enumL (ea_d (ev_d (K := K) rfl h_rungs) ea_nil)) enumD_map) (fun x1 _ Mx5 _ _ he6 sM4 sG3 hv2 => by (obtain ⟨t11, e_t11, he6⟩ := bs he6); cases he6; exact (tg_t2 hv2 fun _ _ h7 h8 => (tg_name (tg_t2 h8 fun _ _ h9 h10 => (tg_name (tg_name ⟨rfl, (ev_ixLM (e := Dat.int) e_t11 (ev_d (K := K) rfl h9) (ev_d (K := K) rfl h7))⟩)))))))) ok (fun v G H s1 ok hv => ?_)
    have sg := sg.trans s1
    cases hm
    exact q v G H sg (ok.less hB) hv
/-! ### gone_down -/
theorem sc_gone_down : FnScope ["rungs", "vector", "row", "counts", "place", "rung", "taken", "times"] ["rungs", "vector"] (defScope s_gone_down) := ⟨rfl, rfl, rfl, by decide +kernel, rfl, by decide +kernel, by decide +kernel⟩
def a_gone_down (K : PySem.W.Frag) (a : (List ((List Int) × (List Int))) × (List Int)) : List V → Hp → Prop := conP (DD K ((eL (eP2 (eL Dat.int) (eL Dat.int))) a.1)) (conP (DD K ((eT Dat.int) a.2)) (nilP))
def m_gone_down (a : (List ((List Int) × (List Int))) × (List Int)) : Option ((List Int) × (List Int)) :=
  (atI a.1 (0 : Int)).bind fun t1 => (repO (0 : Int) (t1.2.length : Int)).bind fun t2 => (forO (fun (st4 : (List Int) × (List Int)) (x5 : (Int × ((List Int) × (List Int)))) => (atI st4.1 x5.1).bind fun t18 => (atI x5.2.1 x5.1).bind fun t19 => (fdivO t18 t19).bind fun t20 => (m_less (st4.1, x5.2.1, t20)).bind fun t21 => (m_less (st4.2, x5.2.2, (-t20))).bind fun t22 => some (t21, t22)) (enum a.1) (a.2, t2)).bind fun fin3 => some (fin3.1, fin3.2)
abbrev sp_gone_down (K : PySem.W.Frag) : Sp := spP (a_gone_down K) (m_gone_down) fun r => DD K ((eP2 (eL Dat.int) (eL Dat.int)) r)
theorem ok_gone_down {P : Program} {w : World} {K : PySem.W.Frag} {mg : Str → Option Value} {base : Heap} (T : Txt K mg) (O_less : FnOk P w K mg base CX0 1 T.a_less T.d_less ["one", "other", "times"] (sp_less K)) : FnOk P w K mg base CX0 (2) T.a_gone_down T.d_gone_down ["rungs", "vector"] (sp_gone_down K) := by
  refine T.F_gone_down.ok sc_gone_down (fun vs H Q E h => ?_) (fun cdv A outer s0 H vs Q E hr h => ?_)
  · obtain ⟨G, M0, a, r, ok, ⟨v_rungs, _, rfl, h_rungs, v_vector, _, rfl, h_vector, rfl⟩, hm, q⟩ := h
    rfl
  · obtain ⟨G, M0, a, r, ok, ⟨v_rungs, _, rfl, h_rungs, v_vector, _, rfl, h_vector, rfl⟩, hm, q⟩ := h
    unfold m_gone_down at hm
    have sg := Same.refl G
    have hB := Same.refl M0
    refine ⟨_, (pss_cons (ps_par (i := 2) (j := 3) rfl sc_gone_down.nd rfl rfl (by decide) rfl rfl (pa_cons (pe_callTy (cl_listK (K := K)) (by rfl) T.n_list (by decide +kernel) (pa_cons (pv 1) pa_nil)) (pa_cons (pe_op op_rep (pe_lst (pa_cons pe_int pa_nil)) (pe_callB (cl_lenK (K := K)) (by rfl) T.n_len (by decide +kernel) (pa_cons (pe_ix (ix_tupK (K := K)) (pe_ix (ix_listK (K := K)) (pv 0) pe_int (fun _ _ => rfl)) pe_int (fun _ _ => rfl)) pa_nil))) pa_nil)) (by rfl)) (pss_cons (ps_for PassesOwn.never rfl (pi_enumK (K := K) (by rfl) T.n_enumerate (pa_cons (pv 0) pa_nil)) (pg_tup rfl (pgs_cons (pg_name (i := 4) sc_gone_down.nd rfl (.inl rfl)) (pgs_cons (pg_tup rfl (pgs_cons (pg_name (i := 5) sc_gone_down.nd rfl (.inl rfl)) (pgs_cons (pg_name (i := 6) sc_gone_down.nd rfl (.inl rfl)) pgs_nil))) pgs_nil))) (pss_cons (ps_set (i := 7) sc_gone_down.nd rfl (.inl rfl) (pe_op op_fdivO (pe_ix (ix_listK (K := K)) (pv 2) (pv 4) (fun _ _ => rfl)) (pe_ix (ix_listK (K := K)) (pv 5) (pv 4) (fun _ _ => rfl)))) (pss_cons (ps_par (i := 2) (j := 3) rfl sc_gone_down.nd rfl rfl (by decide) rfl rfl (pa_cons (pe_call O_less (hr.mono (by decide)) (by rfl) T.g_less T.F_less.kp T.b_less .nil pass0 (pa_cons (pv 2) (pa_cons (pv 5) (pa_cons (pv 7) pa_nil)))) (pa_cons (pe_call O_less (hr.mono (by decide)) (by rfl) T.g_less T.F_less.kp T.b_less .nil pass0 (pa_cons (pv 3) (pa_cons (pv 6) (pa_cons (pe_un un_neg (pv 7)) pa_nil)))) pa_nil)) (by rfl)) pss_nil))) (pss_cons (ps_ret (pe_tup (pa_cons (pv 2) (pa_cons (pv 3) pa_nil)))) pss_nil))), ?_⟩
    refine nrm (σ' := [some v_rungs, some v_vector, none, none, none, none, none, none]) rfl ?_
    obtain ⟨t1, e_t1, hm⟩ := bs hm
    obtain ⟨t2, e_t2, hm⟩ := bs hm
    refine q_par (σ' := fun v w => [some v_rungs, some v_vector, some v, some w, none, none, none, none]) (ea_d (EvL.ev (el_listT (ea_d (ev_d (K := K) rfl h_vector) ea_nil))) (ea_d (EvL.ev (el_repO (e := Dat.int) e_t2 (EvL.ev (el_lst (ea_consD (ev_int (K := K)) ea_nilD))) (ev_lenLM (e := Dat.int) (ea_d (ev_ixT (d := (eL Dat.int) t1.2) rfl (ev_ixLM (e := (eP2 (eL Dat.int) (eL Dat.int))) e_t1 (ev_d (K := K) rfl h_rungs) (ev_int (K := K))) ev_int) ea_nil)))) ea_nil)) ok (fun _ _ => rfl) (fun v_row v_counts G H s1 ok h_row h_counts => ?_)
    have h_rungs := dp_up s1 _ h_rungs
    have h_vector := dp_up s1 _ h_vector
    have sg := sg.trans s1
    obtain ⟨fin3, e_fin3, hm⟩ := bs hm
    have hmo6 := hm
    refine q_forO (ea := (eP2 Dat.int (eP2 (eL Dat.int) (eL Dat.int)))) (Src.is (src_enumL (ea_d (ev_d (K := K) rfl h_rungs) ea_nil)) enumD_map) ok (fun (st4 : (List Int) × (List Int)) σ1 G1 M1 => ∃ (y_times : Option V) (y_place : Option V) (y_rung : Option V) (y_taken : Option V) (v_row : V) (v_counts : V), σ1 = [some v_rungs, some v_vector, some v_row, some v_counts, y_place, y_rung, y_taken, y_times] ∧ (Dq K G1 v_row ((eL Dat.int) st4.1)) ∧ (Dq K G1 v_counts ((eL Dat.int) st4.2)) ∧ (Same M0 M1)) e_fin3 (fun G1 s1 => ⟨_, _, _, _, _, _, rfl, dp_up s1 _ h_row, dp_up s1 _ h_counts, hB⟩) (by rintro _ _ _ _ _ ⟨y_times, y_place, y_rung, y_taken, v_row, v_counts, rfl, h_row, h_counts, hB⟩ s2; exact ⟨_, _, _, _, _, _, rfl, dp_up s2 _ h_row, dp_up s2 _ h_counts, hB⟩) (fun x5 xv8 st4 st' σ1 G M H N hm hj s1 ok hv hN => ?_) (fun σ1 G M H s1 ok hj => ?_)
    · obtain ⟨y_times, y_place, y_rung, y_taken, v_row, v_counts, rfl, h_row, h_counts, hB⟩ := hj
      have h_rungs := dp_up s1 _ h_rungs
      have h_vector := dp_up s1 _ h_vector
      have sg := sg.trans s1
      have sl9 := Same.refl G
      refine gt2 hv ok.g (fun w10 w11 hw12 hw13 => ?_)
      refine gn ?_
      have h_place := hw12
      cases h_place
      refine gt2 hw13 ok.g (fun w14 w15 hw16 hw17 => ?_)
      refine gn ?_
      have h_rung := hw16
      refine gn ?_
      have h_taken := hw17
      refine nrm (σ' := [some v_rungs, some v_vector, some v_row, some v_counts, some (.int x5.1), some w14, some w15, y_times]) rfl ?_
      obtain ⟨t18, e_t18, hm⟩ := bs hm
      obtain ⟨t19, e_t19, hm⟩ := bs hm
      obtain ⟨t20, e_t20, hm⟩ := bs hm
      refine q_set (σ' := fun v => [some v_rungs, some v_vector, some v_row, some v_counts, some (.int x5.1), some w14, some w15, some v]) (ev_fdivO e_t20 (ev_ixLM (e := Dat.int) e_t18 (ev_d (K := K) rfl h_row) (ev_d (K := K) rfl (.int _))) (ev_ixLM (e := Dat.int) e_t19 (ev_d (K := K) rfl h_rung) (ev_d (K := K) rfl (.int _)))) ok (fun _ => rfl) (fun v_times G H s1 ok h_times => ?_)
      have h_rungs := dp_up s1 _ h_rungs
      have h_vector := dp_up s1 _ h_vector
      have h_row := dp_up s1 _ h_row
      have h_counts := dp_up s1 _ h_counts
      have h_rung := dp_up s1 _ h_rung
      have h_taken := dp_up s1 _ h_taken
      have sg := sg.trans s1
      have sl9 := sl9.trans s1
      cases h_times
      obtain ⟨t21, e_t21, hm⟩ := bs hm
      obtain ⟨t22, e_t22, hm⟩ := bs hm
      refine q_par (σ' := fun v w => [some v_rungs, some v_vector, some v, some w, some (.int x5.1), some w14, some w15, some (.int t20)]) (ea_d (ev_callP (a := (st4.1, x5.2.1, t20)) e_t21 (ea_d (ev_d (K := K) rfl h_row) (ea_d (ev_d (K := K) rfl h_rung) (ea_d (ev_d (K := K) rfl (.int _)) ea_nil)))) (ea_d (ev_callP (a := (st4.2, x5.2.2, (-t20))) e_t22 (ea_d (ev_d (K := K) rfl h_counts) (ea_d (ev_d (K := K) rfl h_taken) (ea_d (ev_neg (ev_d (K := K) rfl (.int _))) ea_nil)))) ea_nil)) ok (fun _ _ => rfl) (fun v_row v_counts G H s1 ok h_row h_counts => ?_)
      have h_rungs := dp_up s1 _ h_rungs
      have h_vector := dp_up s1 _ h_vector
      have h_rung := dp_up s1 _ h_rung
      have h_taken := dp_up s1 _ h_taken
      have sg := sg.trans s1
      have sl9 := sl9.trans s1
      refine q_nil ?_
      cases hm
      exact hN _ _ _ _ sl9 ok ⟨_, _, _, _, _, _, rfl, h_row, h_counts, hB⟩
    · obtain ⟨y_times, y_place, y_rung, y_taken, v_row, v_counts, rfl, h_row, h_counts, hB⟩ := hj
      have h_rungs := dp_up s1 _ h_rungs
      have h_vector := dp_up s1 _ h_vector
      have sg := sg.trans s1
      refine q_ret (ev_tup (ea_consD (ev_d (K := K) rfl h_row) (ea_consD (ev_d (K := K) rfl h_counts) (ea_nilD (K := K))))) ok (fun v G H s1 ok hv => ?_)
      have sg := sg.trans s1
      cases hm
      exact q v G H sg (ok.less hB) hv
/-! ### product -/
theorem sc_product : FnScope ["numbers", "found", "number"] ["numbers"] (defScope s_product) := ⟨rfl, rfl, rfl, by decide +kernel, rfl, by decide +kernel, by decide +kernel⟩
def a_product (K : PySem.W.Frag) (a : (List Int)) : List V → Hp → Prop := conP (DD K ((eT Dat.int) a)) (nilP)
def m_product (a : (List Int)) : Option Int :=
  (forO (fun (st2 : Int) (x3 : Int) => (mulO st2 x3).bind fun t8 => some t8) a (1 : Int)).bind fun fin1 => some fin1
abbrev sp_product (K : PySem.W.Frag) : Sp := spP (a_product K) (m_product) fun r => DD K (Dat.int r)
theorem ok_product {P : Program} {w : World} {K : PySem.W.Frag} {mg : Str → Option Value} {base : Heap} (T : Txt K mg) : FnOk P w K mg base CX0 (1) T.a_product T.d_product ["numbers"] (sp_product K) := by
  refine T.F_product.ok sc_product (fun vs H Q E h => ?_) (fun cdv A outer s0 H vs Q E hr h => ?_)
  · obtain ⟨G, M0, a, r, ok, ⟨v_numbers, _, rfl, h_numbers, rfl⟩, hm, q⟩ := h
    rfl
  · obtain ⟨G, M0, a, r, ok, ⟨v_numbers, _, rfl, h_numbers, rfl⟩, hm, q⟩ := h
    unfold m_product at hm
    have sg := Same.refl G
    have hB := Same.refl M0
    refine ⟨_, (pss_cons (ps_set (i := 1) sc_product.nd rfl (.inl rfl) pe_int) (pss_cons (ps_for PassesOwn.never rfl (pi_tupK (K := K) (pv 0)) (pg_name (i := 2) sc_product.nd rfl (.inl rfl)) (pss_cons (ps_aug (i := 1) sc_product.nd rfl (.inl rfl) (pv 2) ip_mulO) pss_nil)) (pss_cons (ps_ret (pv 1)) pss_nil))), ?_⟩
    refine nrm (σ' := [some v_numbers, none, none]) rfl ?_
    refine q_set (σ' := fun v => [some v_numbers, some v, none]) (ev_int (K := K)) ok (fun _ => rfl) (fun v_found G H s1 ok h_found => ?_)
    have h_numbers := dp_up s1 _ h_numbers
    have sg := sg.trans s1
    cases h_found
    obtain ⟨fin1, e_fin1, hm⟩ := bs hm
    have hmo4 := hm
    refine q_forO (ea := Dat.int) (src_tup (ev_d (K := K) rfl h_numbers)) ok (fun (st2 : Int) σ1 G1 M1 => ∃ (y_number : Option V), σ1 = [some v_numbers, some (.int st2), y_number] ∧ (Same M0 M1)) e_fin1 (fun G1 s1 => ⟨_, rfl, hB⟩) (by rintro _ _ _ _ _ ⟨y_number, rfl, hB⟩ s2; exact ⟨_, rfl, hB⟩) (fun x3 xv6 st2 st' σ1 G M H N hm hj s1 ok hv hN => ?_) (fun σ1 G M H s1 ok hj => ?_)
    · obtain ⟨y_number, rfl, hB⟩ := hj
      have h_numbers := dp_up s1 _ h_numbers
      have sg := sg.trans s1
      have sl7 := Same.refl G
      refine gn ?_
      have h_number := hv
      cases h_number
      refine nrm (σ' := [some v_numbers, some (.int st2), some (.int x3)]) rfl ?_
      obtain ⟨t8, e_t8, hm⟩ := bs hm
      refine q_augG (σ' := fun v => [some v_numbers, some v, some (.int x3)]) rfl (.int _) mo_dd (ev_d (K := K) rfl (.int _)) (rv_mulO (K := K) e_t8) ok (fun _ => rfl) (fun v_found G H s1 ok h_found => ?_)
      have h_numbers := dp_up s1 _ h_numbers
      have sg := sg.trans s1
      have sl7 := sl7.trans s1
      cases h_found
      refine q_nil ?_
      cases hm
      exact hN _ _ _ _ sl7 ok ⟨_, rfl, hB⟩
    · obtain ⟨y_number, rfl, hB⟩ := hj
      have h_numbers := dp_up s1 _ h_numbers
      have sg := sg.trans s1
      refine q_ret (ev_d (K := K) rfl (.int _)) ok (fun v G H s1 ok hv => ?_)
      have sg := sg.trans s1
      cases hm
      exact q v G H sg (ok.less hB) hv
/-! ### product_2 -/
def a_product_2 (K : PySem.W.Frag) (a : (List Int)) : List V → Hp → Prop := conP (DD K ((eL Dat.int) a)) (nilP)
def m_product_2 (a : (List Int)) : Option Int :=
  (forO (fun (st2 : Int) (x3 : Int) => (mulO st2 x3).bind fun t8 => some t8) a (1 : Int)).bind fun fin1 => some fin1
abbrev sp_product_2 (K : PySem.W.Frag) : Sp := spP (a_product_2 K) (m_product_2) fun r => DD K (Dat.int r)
theorem ok_product_2 {P : Program} {w : World} {K : PySem.W.Frag} {mg : Str → Option Value} {base : Heap} (T : Txt K mg) : FnOk P w K mg base CX0 (1) T.a_product T.d_product ["numbers"] (sp_product_2 K) := by
  refine T.F_product.ok sc_product (fun vs H Q E h => ?_) (fun cdv A outer s0 H vs Q E hr h => ?_)
  · obtain ⟨G, M0, a, r, ok, ⟨v_numbers, _, rfl, h_numbers, rfl⟩, hm, q⟩ := h
    rfl
  · obtain ⟨G, M0, a, r, ok, ⟨v_numbers, _, rfl, h_numbers, rfl⟩, hm, q⟩ := h
    unfold m_product_2 at hm
    have sg := Same.refl G
    have hB := Same.refl M0
    refine ⟨_, (pss_cons (ps_set (i := 1) sc_product.nd rfl (.inl rfl) pe_int) (pss_cons (ps_for PassesOwn.never rfl (pi_listK (K := K) (pv 0)) (pg_name (i := 2) sc_product.nd rfl (.inl rfl)) (pss_cons (ps_aug (i := 1) sc_product.nd rfl (.inl rfl) (pv 2) ip_mulO) pss_nil)) (pss_cons (ps_ret (pv 1)) pss_nil))), ?_⟩
    refine nrm (σ' := [some v_numbers, none, none]) rfl ?_
    refine q_set (σ' := fun v => [some v_numbers, some v, none]) (ev_int (K := K)) ok (fun _ => rfl) (fun v_found G H s1 ok h_found => ?_)
    have h_numbers := dp_up s1 _ h_numbers
    have sg := sg.trans s1
    cases h_found
    obtain ⟨fin1, e_fin1, hm⟩ := bs hm
    have hmo4 := hm
    refine q_forO (ea := Dat.int) (src_list (ev_d (K := K) rfl h_numbers)) ok (fun (st2 : Int) σ1 G1 M1 => ∃ (y_number : Option V), σ1 = [some v_numbers, some (.int st2), y_number] ∧ (Same M0 M1)) e_fin1 (fun G1 s1 => ⟨_, rfl, hB⟩) (by rintro _ _ _ _ _ ⟨y_number, rfl, hB⟩ s2; exact ⟨_, rfl, hB⟩) (fun x3 xv6 st2 st' σ1 G M H N hm hj s1 ok hv hN => ?_) (fun σ1 G M H s1 ok hj => ?_)
    · obtain ⟨y_number, rfl, hB⟩ := hj
      have h_numbers := dp_up s1 _ h_numbers
      have sg := sg.trans s1
      have sl7 := Same.refl G
      refine gn ?_
      have h_number := hv
      cases h_number
      refine nrm (σ' := [some v_numbers, some (.int st2), some (.int x3)]) rfl ?_
      obtain ⟨t8, e_t8, hm⟩ := bs hm
      refine q_augG (σ' := fun v => [some v_numbers, some v, some (.int x3)]) rfl (.int _) mo_dd (ev_d (K := K) rfl (.int _)) (rv_mulO (K := K) e_t8) ok (fun _ => rfl) (fun v_found G H s1 ok h_found => ?_)
      have h_numbers := dp_up s1 _ h_numbers
      have sg := sg.trans s1
      have sl7 := sl7.trans s1
      cases h_found
      refine q_nil ?_
      cases hm
      exact hN _ _ _ _ sl7 ok ⟨_, rfl, hB⟩
    · obtain ⟨y_number, rfl, hB⟩ := hj
      have h_numbers := dp_up s1 _ h_numbers
      have sg := sg.trans s1
      refine q_ret (ev_d (K := K) rfl (.int _)) ok (fun v G H s1 ok hv => ?_)
      have sg := sg.trans s1
      cases hm
      exact q v G H sg (ok.less hB) hv
/-! ### spanned -/
theorem sc_spanned : FnScope ["moduli", "vectors"] ["moduli", "vectors"] (defScope s_spanned) := ⟨rfl, rfl, rfl, by decide +kernel, rfl, by decide +kernel, by decide +kernel⟩
def a_spanned (K : PySem.W.Frag) (a : (List Int) × (List (List Int))) : List V → Hp → Prop := conP (DD K ((eT Dat.int) a.1)) (conP (DD K ((eT (eT Dat.int)) a.2)) (nilP))
def m_spanned (a : (List Int) × (List (List Int))) : Option Int :=
  (m_check_vectors (a.1, a.2)).bind fun t1 => (m_product a.1).bind fun t2 => (m_laid (a.1, a.2)).bind fun t3 => (m_steps_of t3).bind fun t4 => (m_product_2 t4).bind fun t5 => (fdivO t2 t5).bind fun t6 => some t6
abbrev sp_spanned (K : PySem.W.Frag) : Sp := spP (a_spanned K) (m_spanned) fun r => DD K (Dat.int r)
theorem ok_spanned {P : Program} {w : World} {K : PySem.W.Frag} {mg : Str → Option Value} {base : Heap} (T : Txt K mg) (O_check_vectors : FnOk P w K mg base CX0 4 T.a_check_vectors T.d_check_vectors ["moduli", "vectors"] (sp_check_vectors K)) (O_product : FnOk P w K mg base CX0 1 T.a_product T.d_product ["numbers"] (sp_product K)) (O_product_2 : FnOk P w K mg base CX0 1 T.a_product T.d_product ["numbers"] (sp_product_2 K)) (O_steps_of : FnOk P w K mg base CX0 1 T.a_steps_of T.d_steps_of ["rungs"] (sp_steps_of K)) (O_laid : FnOk P w K mg base CX0 3 T.a_laid T.d_laid ["moduli", "vectors"] (sp_laid K)) : FnOk P w K mg base CX0 (5) T.a_spanned T.d_spanned ["moduli", "vectors"] (sp_spanned K) := by
  refine T.F_spanned.ok sc_spanned (fun vs H Q E h => ?_) (fun cdv A outer s0 H vs Q E hr h => ?_)
  · obtain ⟨G, M0, a, r, ok, ⟨v_moduli, _, rfl, h_moduli, v_vectors, _, rfl, h_vectors, rfl⟩, hm, q⟩ := h
    rfl
  · obtain ⟨G, M0, a, r, ok, ⟨v_moduli, _, rfl, h_moduli, v_vectors, _, rfl, h_vectors, rfl⟩, hm, q⟩ := h
    unfold m_spanned at hm
    have sg := Same.refl G
    have hB := Same.refl M0
    refine ⟨_, (pss_cons (ps_expr (pe_call O_check_vectors (hr.mono (by decide)) (by rfl) T.g_check_vectors T.F_check_vectors.kp T.b_check_vectors .nil pass0 (pa_cons (pv 0) (pa_cons (pv 1) pa_nil)))) (pss_cons (ps_ret (pe_op op_fdivO (pe_call O_product (hr.mono (by decide)) (by rfl) T.g_product T.F_product.kp T.b_product .nil pass0 (pa_cons (pv 0) pa_nil)) (pe_call O_product_2 (hr.mono (by decide)) (by rfl) T.g_product T.F_product.kp T.b_product .nil pass0 (pa_cons (pe_call O_steps_of (hr.mono (by decide)) (by rfl) T.g_steps_of T.F_steps_of.kp T.b_steps_of .nil pass0 (pa_cons (pe_call O_laid (hr.mono (by decide)) (by rfl) T.g_laid T.F_laid.kp T.b_laid .nil pass0 (pa_cons (pv 0) (pa_cons (pv 1) pa_nil))) pa_nil)) pa_nil)))) pss_nil)), ?_⟩
    refine nrm (σ' := [some v_moduli, some v_vectors]) rfl ?_
    obtain ⟨t1, e_t1, hm⟩ := bs hm
    refine q_expr (ev_callP (a := (a.1, a.2)) e_t1 (ea_d (ev_d (K := K) rfl h_moduli) (ea_d (ev_d (K := K) rfl h_vectors) ea_nil))) ok (fun G H s1 ok => ?_)
    have h_moduli := dp_up s1 _ h_moduli
    have h_vectors := dp_up s1 _ h_vectors
    have sg := sg.trans s1
    obtain ⟨t2, e_t2, hm⟩ := bs hm
    obtain ⟨t3, e_t3, hm⟩ := bs hm
    obtain ⟨t4, e_t4, hm⟩ := bs hm
    obtain ⟨t5, e_t5, hm⟩ := bs hm
    obtain ⟨t6, e_t6, hm⟩ := bs hm
    refine q_ret (ev_fdivO e_t6 (ev_callP (a := a.1) e_t2 (ea_d (ev_d (K := K) rfl h_moduli) ea_nil)) (ev_callP (a := t4) e_t5 (ea_d (ev_callP (a := t3) e_t4 (ea_d (ev_callP (a := (a.1, a.2)) e_t3 (ea_d (ev_d (K := K) rfl h_moduli) (ea_d (ev_d (K := K) rfl h_vectors) ea_nil))) ea_nil)) ea_nil))) ok (fun v G H s1 ok hv => ?_)
    have sg := sg.trans s1
    cases hm
    exact q v G H sg (ok.less hB) hv
/-! ### least -/
theorem sc_least : FnScope ["moduli", "vectors", "vector"] ["moduli", "vectors", "vector"] (defScope s_least) := ⟨rfl, rfl, rfl, by decide +kernel, rfl, by decide +kernel, by decide +kernel⟩
def a_least (K : PySem.W.Frag) (a : (List Int) × (List (List Int)) × (List Int)) : List V → Hp → Prop := conP (DD K ((eT Dat.int) a.1)) (conP (DD K ((eT (eT Dat.int)) a.2.1)) (conP (DD K ((eT Dat.int) a.2.2)) (nilP)))
def m_least (a : (List Int) × (List (List Int)) × (List Int)) : Option (List Int) :=
  (m_check_vector (a.1, a.2.1, a.2.2)).bind fun t1 => (m_laid (a.1, a.2.1)).bind fun t2 => (m_gone_down (t2, a.2.2)).bind fun t3 => some t3.1
abbrev sp_least (K : PySem.W.Frag) : Sp := spP (a_least K) (m_least) fun r => DD K ((eT Dat.int) r)
theorem ok_least {P : Program} {w : World} {K : PySem.W.Frag} {mg : Str → Option Value} {base : Heap} (T : Txt K mg) (O_check_vector : FnOk P w K mg base CX0 5 T.a_check_vector T.d_check_vector ["moduli", "vectors", "vector"] (sp_check_vector K)) (O_gone_down : FnOk P w K mg base CX0 2 T.a_gone_down T.d_gone_down ["rungs", "vector"] (sp_gone_down K)) (O_laid : FnOk P w K mg base CX0 3 T.a_laid T.d_laid ["moduli", "vectors"] (sp_laid K)) : FnOk P w K mg base CX0 (6) T.a_least T.d_least ["moduli", "vectors", "vector"] (sp_least K) := by
  refine T.F_least.ok sc_least (fun vs H Q E h => ?_) (fun cdv A outer s0 H vs Q E hr h => ?_)
  · obtain ⟨G, M0, a, r, ok, ⟨v_moduli, _, rfl, h_moduli, v_vectors, _, rfl, h_vectors, v_vector, _, rfl, h_vector, rfl⟩, hm, q⟩ := h
    rfl
  · obtain ⟨G, M0, a, r, ok, ⟨v_moduli, _, rfl, h_moduli, v_vectors, _, rfl, h_vectors, v_vector, _, rfl, h_vector, rfl⟩, hm, q⟩ := h
    unfold m_least at hm
    have sg := Same.refl G
    have hB := Same.refl M0
    refine ⟨_, (pss_cons (ps_expr (pe_call O_check_vector (hr.mono (by decide)) (by rfl) T.g_check_vector T.F_check_vector.kp T.b_check_vector .nil pass0 (pa_cons (pv 0) (pa_cons (pv 1) (pa_cons (pv 2) pa_nil))))) (pss_cons (ps_ret (pe_callTy (cl_tupleK (K := K)) (by rfl) T.n_tuple (by decide +kernel) (pa_cons (pe_ix (ix_tupK (K := K)) (pe_call O_gone_down (hr.mono (by decide)) (by rfl) T.g_gone_down T.F_gone_down.kp T.b_gone_down .nil pass0 (pa_cons (pe_call O_laid (hr.mono (by decide)) (by rfl) T.g_laid T.F_laid.kp T.b_laid .nil pass0 (pa_cons (pv 0) (pa_cons (pv 1) pa_nil))) (pa_cons (pv 2) pa_nil))) pe_int (fun _ _ => rfl)) pa_nil))) pss_nil)), ?_⟩
    refine nrm (σ' := [some v_moduli, some v_vectors, some v_vector]) rfl ?_
    obtain ⟨t1, e_t1, hm⟩ := bs hm
    refine q_expr (ev_callP (a := (a.1, a.2.1, a.2.2)) e_t1 (ea_d (ev_d (K := K) rfl h_moduli) (ea_d (ev_d (K := K) rfl h_vectors) (ea_d (ev_d (K := K) rfl h_vector) ea_nil)))) ok (fun G H s1 ok => ?_)
    have h_moduli := dp_up s1 _ h_moduli
    have h_vectors := dp_up s1 _ h_vectors
    have h_vector := dp_up s1 _ h_vector
    have sg := sg.trans s1
    obtain ⟨t2, e_t2, hm⟩ := bs hm
    obtain ⟨t3, e_t3, hm⟩ := bs hm
    refine q_ret (ev_tupL (ea_d (ev_ixT (d := (eL Dat.int) t3.1) rfl (ev_callP (a := (t2, a.2.2)) e_t3 (ea_d (ev_callP (a := (a.1, a.2.1)) e_t2 (ea_d (ev_d (K := K) rfl h_moduli) (ea_d (ev_d (K := K) rfl h_vectors) ea_nil))) (ea_d (ev_d (K := K) rfl h_vector) ea_nil))) ev_int) ea_nil)) ok (fun v G H s1 ok hv => ?_)
    have sg := sg.trans s1
    cases hm
    exact q v G H sg (ok.less hB) hv
/-! ### _law_opened -/
theorem sc__law_opened : FnScope ["_law_script", "_law_k", "_law_cell", "_law_great"] ["_law_script", "_law_k"] (defScope s__law_opened) := ⟨rfl, rfl, rfl, by decide +kernel, rfl, by decide +kernel, by decide +kernel⟩
def a__law_opened (K : PySem.W.Frag) (a : (List Int) × Int) : List V → Hp → Prop := conP (SCP K a.1) (conP (DD K (Dat.int a.2)) (nilP))
def m__law_opened (a : (List Int) × Int) : Option Sto :=
  (mulO (90901 : Int) a.2).bind fun t1 => (cond (decide (a.2 < (a.1.length : Int))) ((atI a.1 a.2).bind fun t4 => some t4) (some (t1 + (433 : Int)))).bind fun j2 => (cond (decide (j2 < (0 : Int))) (some true) ((powO (10 : Int) (17 : Int)).bind fun t6 => some (decide (t6 < j2)))).bind fun t7 => (mulO (if j2 < 0 then -j2 else j2) (if t7 then 1 else 0 : Int)).bind fun t8 => (mulO (2 : Int) (if j2 < 0 then -j2 else j2)).bind fun t9 => (mulO (7919 : Int) a.2).bind fun t10 => (modO (((t9 + (if t7 then 1 else 0 : Int)) + t10) + (13 : Int)) (998244353 : Int)).bind fun t11 => some (t8, (t11 + (1 : Int)), (0 : Int))
abbrev sp__law_opened (K : PySem.W.Frag) : Sp := spO (a__law_opened K) m__law_opened
theorem ok__law_opened {P : Program} {w : World} {K : PySem.W.Frag} {mg : Str → Option Value} {base : Heap} (T : Txt K mg) : FnOk P w K mg base CX0 (1) T.a__law_opened T.d__law_opened ["_law_script", "_law_k"] (sp__law_opened K) := by
  refine T.F__law_opened.ok sc__law_opened (fun vs H Q E h => ?_) (fun cdv A outer s0 H vs Q E hr h => ?_)
  · obtain ⟨G, M0, a, r, ok, ⟨v_l_script, _, rfl, h_l_script, v_l_k, _, rfl, h_l_k, rfl⟩, hm, q⟩ := h
    rfl
  · obtain ⟨G, M0, a, r, ok, ⟨v_l_script, _, rfl, h_l_script, v_l_k, _, rfl, h_l_k, rfl⟩, hm, q⟩ := h
    unfold m__law_opened at hm
    have sg := Same.refl G
    have hB := Same.refl M0
    refine ⟨_, (pss_cons (ps_set (i := 2) sc__law_opened.nd rfl (.inl rfl) (pe_op op_add (pe_op op_mulO pe_int (pv 1)) pe_int)) (pss_cons (ps_if (pt_cmpR op_lt (pv 1) (pe_callB (cl_lenK (K := K)) (by rfl) T.n_len (by decide +kernel) (pa_cons (pv 0) pa_nil)) (nomark _)) (pss_cons (ps_set (i := 2) sc__law_opened.nd rfl (.inl rfl) (pe_ix (ix_listK (K := K)) (pv 0) (pv 1) (fun _ _ => rfl))) pss_nil) pss_nil) (pss_cons (ps_set (i := 3) sc__law_opened.nd rfl (.inl rfl) (pe_callTy cl_int (by rfl) T.n_int (by decide +kernel) (pa_cons (pe_or (pe_cmpR op_lt (pv 2) pe_int (nomark _)) (pe_one (pe_cmpR op_gt (pv 2) (pe_op op_pow pe_int pe_int) (nomark _)))) pa_nil))) (pss_cons (ps_ret (pe_lst (pa_cons (pe_op op_mulO (pe_callB cl_abs (by rfl) T.n_abs (by decide +kernel) (pa_cons (pv 2) pa_nil)) (pv 3)) (pa_cons (pe_op op_add (pe_op op_modN (pe_op op_add (pe_op op_add (pe_op op_add (pe_op op_mulO pe_int (pe_callB cl_abs (by rfl) T.n_abs (by decide +kernel) (pa_cons (pv 2) pa_nil))) (pv 3)) (pe_op op_mulO pe_int (pv 1))) pe_int) pe_int) pe_int) (pa_cons pe_int pa_nil))))) pss_nil)))), ?_⟩
    cases h_l_k
    refine nrm (σ' := [some v_l_script, some (.int a.2), none, none]) rfl ?_
    obtain ⟨t1, e_t1, hm⟩ := bs hm
    refine q_set (σ' := fun v => [some v_l_script, some (.int a.2), some v, none]) (ev_add (ev_mulO e_t1 (ev_int (K := K)) (ev_d (K := K) rfl (.int _))) (ev_int (K := K))) ok (fun _ => rfl) (fun v_l_cell G H s1 ok h_l_cell => ?_)
    have h_l_script := mo_scp _ _ _ s1 h_l_script
    have sg := sg.trans s1
    cases h_l_cell
    obtain ⟨j2, e_j2, hm⟩ := bs hm
    refine q_ifJ (fun σ1 G1 M1 => σ1 = [some v_l_script, some (.int a.2), some (.int j2), none] ∧ (Same M0 M1)) (et_test (ev_lt (ev_d (K := K) rfl (.int _)) (ev_lenScr (ea_cons mo_scp (ev_var rfl mo_scp h_l_script) ea_nil)))) ok (fun hb G H D1 s1 ok _ _ _ kD => ?_) (fun hb G H D1 s1 ok _ _ _ kD => ?_) (fun σ1 G M H s1 ok hj => ?_)
    · have hm := cond_t hb e_j2
      have h_l_script := mo_scp _ _ _ s1 h_l_script
      have sg := sg.trans s1
      have sl3 := Same.refl G
      obtain ⟨t4, e_t4, hm⟩ := bs hm
      refine q_set (σ' := fun v => [some v_l_script, some (.int a.2), some v, none]) (ev_ixScr e_t4 (ev_var rfl mo_scp h_l_script) (ev_d (K := K) rfl (.int _))) ok (fun _ => rfl) (fun v_l_cell G H s1 ok h_l_cell => ?_)
      have h_l_script := mo_scp _ _ _ s1 h_l_script
      have sg := sg.trans s1
      have sl3 := sl3.trans s1
      cases h_l_cell
      refine q_nil ?_
      cases hm
      exact kD _ _ _ _ sl3 ok ⟨rfl, hB⟩
    · have hm := cond_f hb e_j2
      have h_l_script := mo_scp _ _ _ s1 h_l_script
      have sg := sg.trans s1
      have sl5 := Same.refl G
      refine q_nil ?_
      cases hm
      exact kD _ _ _ _ sl5 ok ⟨rfl, hB⟩
    · obtain ⟨rfl, hB⟩ := hj
      have h_l_script := mo_scp _ _ _ s1 h_l_script
      have sg := sg.trans s1
      obtain ⟨t7, e_t7, hm⟩ := bs hm
      refine q_set (σ' := fun v => [some v_l_script, some (.int a.2), some (.int j2), some v]) (ev_intB (ea_d (ev_orG (c := t7) (ev_lt (ev_d (K := K) rfl (.int _)) (ev_int (K := K))) (fun eb => by have e1 := cond_f eb e_t7; (obtain ⟨t6, e_t6, e1⟩ := bs e1); (have e1 := Option.some.inj e1); subst e1; exact (ev_gt (ev_d (K := K) rfl (.int _)) (ev_powO e_t6 (ev_int (K := K)) (ev_int (K := K))))) (fun eb => by have e1 := cond_t eb e_t7; cases e1; exact ⟨rfl, rfl⟩)) ea_nil)) ok (fun _ => rfl) (fun v_l_great G H s1 ok h_l_great => ?_)
      have h_l_script := mo_scp _ _ _ s1 h_l_script
      have sg := sg.trans s1
      cases h_l_great
      obtain ⟨t8, e_t8, hm⟩ := bs hm
      obtain ⟨t9, e_t9, hm⟩ := bs hm
      obtain ⟨t10, e_t10, hm⟩ := bs hm
      obtain ⟨t11, e_t11, hm⟩ := bs hm
      cases hm
      refine q_retL (el_lst (ea_consD (ev_mulO e_t8 (ev_abs (ea_d (ev_d (K := K) rfl (.int _)) ea_nil)) (ev_d (K := K) rfl (.int _))) (ea_consD (ev_add (ev_modO e_t11 (ev_add (ev_add (ev_add (ev_mulO e_t9 (ev_int (K := K)) (ev_abs (ea_d (ev_d (K := K) rfl (.int _)) ea_nil))) (ev_d (K := K) rfl (.int _))) (ev_mulO e_t10 (ev_int (K := K)) (ev_d (K := K) rfl (.int _)))) (ev_int (K := K))) (ev_int (K := K))) (ev_int (K := K))) (ea_consD (ev_int (K := K)) (ea_nilD (K := K)))))) ok (fun p vs G H s1 ok hp hd => ?_)
      have sg := sg.trans s1
      cases vs_sto hd
      exact q _ _ _ sg (ok.less (same_upd2 hB)) (hB.free hp)
/-! ### _law_pull -/
theorem sc__law_pull : FnScope ["_law_store", "_law_many", "_law_found", "_law_state"] ["_law_store", "_law_many"] (defScope s__law_pull) := ⟨rfl, rfl, rfl, by decide +kernel, rfl, by decide +kernel, by decide +kernel⟩
def a__law_pull (K : PySem.W.Frag) (a : Int) : List V → Hp → Prop := conP (DD K (Dat.int a)) (nilP)
def m__law_pull (a : Int) (z : Sto) : Option (Int × Sto) := pullM a z
abbrev sp__law_pull (K : PySem.W.Frag) : Sp := spD (a__law_pull K) m__law_pull fun r => DD K (Dat.int r)
theorem ok__law_pull {P : Program} {w : World} {K : PySem.W.Frag} {mg : Str → Option Value} {base : Heap} (T : Txt K mg) : FnOk P w K mg base CX0 1 T.a__law_pull T.d__law_pull ["_law_store", "_law_many"] (sp__law_pull K) := by
  refine T.F__law_pull.ok sc__law_pull (fun vs H Q E h => ?_) (fun cdv A outer s0 H vs Q E hr h => ?_)
  · obtain ⟨G, M0, s, z, z1, a, r, ws, rfl, ok, hs, ⟨v_m, _, rfl, h_m, rfl⟩, hm, q⟩ := h
    rfl
  · obtain ⟨G, M0, s, z, z1, a, r, ws, rfl, ok, hs, ⟨v_m, _, rfl, h_m, rfl⟩, hm, q⟩ := h
    cases h_m
    unfold m__law_pull pullM at hm
    refine ⟨_, (pss_cons (ps_asg (pe_op op_add (pe_ix (ix_listK (K := K)) (pv 0) pe_int (fun _ _ => rfl)) pe_int) (pg_sub (pv 0) pe_int set_list))
      (pss_cons (ps_if (pt_cmpR op_gt (pe_ix (ix_listK (K := K)) (pv 0) pe_int (fun _ _ => rfl)) pe_int (nomark _))
        (pss_cons (ps_asg (pe_callB cl_divmod (by rfl) T.n_divmod (by decide +kernel) (pa_cons (pe_ix (ix_listK (K := K)) (pv 0) pe_int (fun _ _ => rfl)) (pa_cons (pv 1) pa_nil))) (pg_tup rfl (pgs_cons (pg_sub (pv 0) pe_int set_list) (pgs_cons (pg_name (i := 2) sc__law_pull.nd rfl (.inl rfl)) pgs_nil))))
          (pss_cons (ps_ret (pv 2)) pss_nil)) pss_nil)
      (pss_cons (ps_set (i := 3) sc__law_pull.nd rfl (.inl rfl) (pe_ix (ix_listK (K := K)) (pv 0) pe_int (fun _ _ => rfl)))
      (pss_cons (ps_asg (pe_op op_modN (pe_op op_add (pe_op op_add (pe_op op_mulO (pv 3) (pe_op op_add (pe_op op_modN (pv 3) pe_int) pe_int)) (pe_op op_mulO pe_int (pe_ix (ix_listK (K := K)) (pv 0) pe_int (fun _ _ => rfl)))) pe_int) pe_int) (pg_sub (pv 0) pe_int set_list))
      (pss_cons (ps_ret (pe_op op_modN (pe_op op_fdivO (pe_ix (ix_listK (K := K)) (pv 0) pe_int (fun _ _ => rfl)) pe_int) (pv 1))) pss_nil))))), ?_⟩
    refine nrm (σ' := [some (.ref s), some (.int a), none, none]) rfl ?_
    have d3 : ∀ (x y z : Int) (G : Hp), DqAll K G [.int x, .int y, .int z] [.int x, .int y, .int z] := fun x y z G => .cons (.int x) (.cons (.int y) (.cons (.int z) .nil))
    refine q_setItem (K := K) (d := .int (z.2.2 + 1)) (ev_add (ev_ixO (ds := [.int z.1, .int z.2.1, .int z.2.2]) (d := .int z.2.2) (ev_own rfl) (ev_int (K := K)) hs (d3 _ _ _ _) rfl) (ev_int (K := K))) (ev_own rfl) (ev_int (K := K)) hs rfl ok (fun v G H s1 ok hv => ?_)
    cases hv
    have sg := s1
    have hs1 : (upd M0 s (.lst [.int z.1, .int z.2.1, .int (z.2.2 + 1)])) s = some (.lst [.int z.1, .int z.2.1, .int (z.2.2 + 1)]) := upd_same
    refine q_if (et_test (ev_gt (ev_ixO (ds := [.int z.1, .int z.2.1, .int (z.2.2 + 1)]) (d := .int z.1) (ev_own rfl) (ev_int (K := K)) hs1 (d3 _ _ _ _) rfl) (ev_int (K := K)))) ok (fun hb G H s1 ok => ?_) (fun hb G H s1 ok => ?_)
    · have hm := cond_t hb hm
      have sg := sg.trans s1
      obtain ⟨t1, e_t1, hm⟩ := bs hm
      refine q_asgG (ev_dmO e_t1 (ea_d (ev_ixO (ds := [.int z.1, .int z.2.1, .int (z.2.2 + 1)]) (d := .int z.1) (ev_own rfl) (ev_int (K := K)) hs1 (d3 _ _ _ _) rfl) (ea_d (ev_d (K := K) rfl (.int _)) ea_nil))) ok (fun v G H s1 ok hv => ?_)
      have sg := sg.trans s1
      refine gt2 hv ok.g (fun w1 w2 hw1 hw2 => ?_)
      cases hw1
      refine gs_list (K := K) (ev_own rfl) (ev_int (K := K)) hs1 rfl ok (fun G H s1 ok => ?_)
      have sg := sg.trans s1
      cases hw2
      refine gn ?_
      refine nrm (σ' := [some (.ref s), some (.int a), some (.int t1.2), none]) rfl ?_
      refine q_ret (ev_d (K := K) rfl (.int _)) ok (fun v G H s1 ok hv => ?_)
      cases hm
      rw [upd_upd] at ok
      exact q v G H (sg.trans s1) ok hv
    · have hm := cond_f hb hm
      have sg := sg.trans s1
      refine q_nilU ?_
      refine q_set (σ' := fun v => [some (.ref s), some (.int a), none, some v]) (ev_ixO (K := K) (ds := [.int z.1, .int z.2.1, .int (z.2.2 + 1)]) (d := .int z.2.1) (ev_own rfl) (ev_int (K := K)) hs1 (d3 _ _ _ _) rfl) ok (fun _ => rfl) (fun v G H s1 ok hv => ?_)
      cases hv
      have sg := sg.trans s1
      obtain ⟨t1, e_t1, hm⟩ := bs hm
      obtain ⟨t2, e_t2, hm⟩ := bs hm
      obtain ⟨t3, e_t3, hm⟩ := bs hm
      obtain ⟨t4, e_t4, hm⟩ := bs hm
      obtain ⟨t5, e_t5, hm⟩ := bs hm
      obtain ⟨t6, e_t6, hm⟩ := bs hm
      refine q_setItem (K := K) (ev_modO e_t4 (ev_add (ev_add (ev_mulO e_t2 (ev_d (K := K) rfl (.int _)) (ev_add (ev_modO e_t1 (ev_d (K := K) rfl (.int _)) (ev_int (K := K))) (ev_int (K := K)))) (ev_mulO e_t3 (ev_int (K := K)) (ev_ixO (ds := [.int z.1, .int z.2.1, .int (z.2.2 + 1)]) (d := .int (z.2.2 + 1)) (ev_own rfl) (ev_int (K := K)) hs1 (d3 _ _ _ _) rfl))) (ev_int (K := K))) (ev_int (K := K))) (ev_own rfl) (ev_int (K := K)) hs1 rfl ok (fun v G H s1 ok hv => ?_)
      cases hv
      have sg := sg.trans s1
      rw [upd_upd] at ok
      have hs2 : (upd M0 s (.lst [.int z.1, .int t4, .int (z.2.2 + 1)])) s = some (.lst [.int z.1, .int t4, .int (z.2.2 + 1)]) := upd_same
      refine q_ret (ev_modO e_t6 (ev_fdivO e_t5 (ev_ixO (K := K) (ds := [.int z.1, .int t4, .int (z.2.2 + 1)]) (d := .int t4) (ev_own rfl) (ev_int (K := K)) hs2 (d3 _ _ _ _) rfl) (ev_int (K := K))) (ev_d (K := K) rfl (.int _))) ok (fun v G H s1 ok hv => ?_)
      cases hm
      exact q v G H (sg.trans s1) ok hv
/-! ### _law_same -/
theorem sc__law_same : FnScope ["_law_found", "_law_due", "_law_k"] ["_law_found", "_law_due"] (defScope s__law_same) := ⟨rfl, rfl, rfl, by decide +kernel, rfl, by decide +kernel, by decide +kernel⟩
def a__law_same (K : PySem.W.Frag) (a : Dat × Dat) : List V → Hp → Prop := conP (DD K (id a.1)) (conP (DD K (id a.2)) (nilP))
def m__law_same : Nat → (Dat × Dat) → Option Bool
  | 0, _ => none
  | n + 1, a => (isO isT a.2).bind fun t1 => cond t1 ((isO isT a.1).bind fun t2 => (cond (!t2) (some true) ((lenD a.1).bind fun t3 => (lenD a.2).bind fun t4 => some (!decide (t3 = t4)))).bind fun t5 => cond t5 (some false) ((lenD a.2).bind fun t6 => (rngO t6).bind fun t7 => (lcO (fun x8 : Int => (atD a.1 x8).bind fun t14 => (atD a.2 x8).bind fun t15 => (m__law_same n (t14, t15)).bind fun t16 => some t16) t7).bind fun t17 => some (t17.all id))) (cond (isND a.2) (some (isND a.1)) ((isO isB a.2).bind fun t18 => cond t18 ((isO isB a.1).bind fun t19 => (cond t19 ((eqDO a.1 a.2).bind fun t20 => some t20) (some false)).bind fun t21 => some t21) ((isO isI a.2).bind fun t22 => cond t22 ((isO isI a.1).bind fun t23 => (cond t23 ((isO isB a.1).bind fun t24 => (cond (!t24) ((eqDO a.1 a.2).bind fun t25 => some t25) (some false)).bind fun t26 => some t26) (some false)).bind fun t27 => some t27) ((isO isS a.1).bind fun t28 => (cond t28 ((eqDO a.1 a.2).bind fun t29 => some t29) (some false)).bind fun t30 => some t30))))
abbrev sp__law_same (K : PySem.W.Frag) (n : Nat) : Sp := spP (a__law_same K) (m__law_same n) fun r => DD K (Dat.bool r)
theorem ok__law_same {P : Program} {w : World} {K : PySem.W.Frag} {mg : Str → Option Value} {base : Heap} (T : Txt K mg) : ∀ n : Nat, FnOk P w K mg base CX0 (n + 1) T.a__law_same T.d__law_same ["_law_found", "_law_due"] (sp__law_same K n)
  | 0 => by
    refine T.F__law_same.ok sc__law_same (fun vs H Q E h => ?_) (fun cdv A outer s0 H vs Q E hr h => ?_)
    · obtain ⟨G, M0, a, r, ok, ⟨v_l_found, _, rfl, h_l_found, v_l_due, _, rfl, h_l_due, rfl⟩, hm, q⟩ := h
      unfold m__law_same at hm
      cases hm
    · obtain ⟨G, M0, a, r, ok, ⟨v_l_found, _, rfl, h_l_found, v_l_due, _, rfl, h_l_due, rfl⟩, hm, q⟩ := h
      unfold m__law_same at hm
      cases hm
  | n + 1 => by
    have O__law_same := ok__law_same (P := P) (w := w) (base := base) T  n
    refine T.F__law_same.ok sc__law_same (fun vs H Q E h => ?_) (fun cdv A outer s0 H vs Q E hr h => ?_)
    · obtain ⟨G, M0, a, r, ok, ⟨v_l_found, _, rfl, h_l_found, v_l_due, _, rfl, h_l_due, rfl⟩, hm, q⟩ := h
      rfl
    · obtain ⟨G, M0, a, r, ok, ⟨v_l_found, _, rfl, h_l_found, v_l_due, _, rfl, h_l_due, rfl⟩, hm, q⟩ := h
      unfold m__law_same at hm
      have sg := Same.refl G
      have hB := Same.refl M0
      refine ⟨_, (pss_cons (ps_if (pt_val (pe_callB (call_isiKK (K := K)) (by rfl) T.n_isinstance (by decide +kernel) (pa_cons (pv 1) (pa_cons (pe_bltn (v := .ty "tuple") (by rfl) T.n_tuple (by decide +kernel) rfl) pa_nil)))) (pss_cons (ps_if (PW.pt (pw_or (pt_not (pt_val (pe_callB (call_isiKK (K := K)) (by rfl) T.n_isinstance (by decide +kernel) (pa_cons (pv 0) (pa_cons (pe_bltn (v := .ty "tuple") (by rfl) T.n_tuple (by decide +kernel) rfl) pa_nil))))) (pw_or1 (pt_cmpR op_ne (pe_callB (cl_lenK (K := K)) (by rfl) T.n_len (by decide +kernel) (pa_cons (pv 0) pa_nil)) (pe_callB (cl_lenK (K := K)) (by rfl) T.n_len (by decide +kernel) (pa_cons (pv 1) pa_nil)) (nomark _))))) (pss_cons (ps_ret pe_bl) pss_nil) pss_nil) (pss_cons (ps_ret (pe_callB (cr_allK (K := K) rfl) (by rfl) T.n_all (by decide +kernel) (pa_cons (pe_lc (own := [("_law_k", 2)]) (g := (gName 2)) (tt := tYes) rfl sc__law_same.nd (pi_range1 (by rfl) T.n_range (pa_cons (pe_callB (cl_lenK (K := K)) (by rfl) T.n_len (by decide +kernel) (pa_cons (pv 1) pa_nil)) pa_nil)) (blkOk_by (own := [("_law_k", 2)]) (N := ["_law_found", "_law_due", "_law_k"]) (sc := defScope s__law_same) (by decide +kernel)) (fun _ _ _ _ _ => (pg_name (i := 2) sc__law_same.nd rfl (by first | exact .inl rfl | exact .inr rfl))) (fun _ _ _ _ _ => pts_nil) (fun _ _ _ _ _ => (pe_call O__law_same (hr.mono (by omega)) (by rfl) T.g__law_same T.F__law_same.kp T.b__law_same .nil pass0 (pa_cons (pe_ix (ix_seqK (K := K)) (pv 0) (pv 2) (fun _ _ => rfl)) (pa_cons (pe_ix (ix_seqK (K := K)) (pv 1) (pv 2) (fun _ _ => rfl)) pa_nil))))) pa_nil))) pss_nil)) pss_nil) (pss_cons (ps_if (pt_cmpR op_isN (pv 1) pe_non (nomark _)) (pss_cons (ps_ret (pe_cmpR op_isN (pv 0) pe_non (nomark _))) pss_nil) pss_nil) (pss_cons (ps_if (pt_val (pe_callB (call_isiKK (K := K)) (by rfl) T.n_isinstance (by decide +kernel) (pa_cons (pv 1) (pa_cons (pe_bltn (v := .ty "bool") (by rfl) T.n_bool (by decide +kernel) rfl) pa_nil)))) (pss_cons (ps_ret (pe_and (pe_callB (call_isiKK (K := K)) (by rfl) T.n_isinstance (by decide +kernel) (pa_cons (pv 0) (pa_cons (pe_bltn (v := .ty "bool") (by rfl) T.n_bool (by decide +kernel) rfl) pa_nil))) (pe_one (pe_cmpR (op_eqDK (K := K) hr.units) (pv 0) (pv 1) (nomark _))))) pss_nil) pss_nil) (pss_cons (ps_if (pt_val (pe_callB (call_isiKK (K := K)) (by rfl) T.n_isinstance (by decide +kernel) (pa_cons (pv 1) (pa_cons (pe_bltn (v := .ty "int") (by rfl) T.n_int (by decide +kernel) rfl) pa_nil)))) (pss_cons (ps_ret (pe_and (pe_callB (call_isiKK (K := K)) (by rfl) T.n_isinstance (by decide +kernel) (pa_cons (pv 0) (pa_cons (pe_bltn (v := .ty "int") (by rfl) T.n_int (by decide +kernel) rfl) pa_nil))) (pe_and (pe_not (pe_callB (call_isiKK (K := K)) (by rfl) T.n_isinstance (by decide +kernel) (pa_cons (pv 0) (pa_cons (pe_bltn (v := .ty "bool") (by rfl) T.n_bool (by decide +kernel) rfl) pa_nil)))) (pe_one (pe_cmpR (op_eqDK (K := K) hr.units) (pv 0) (pv 1) (nomark _)))))) pss_nil) pss_nil) (pss_cons (ps_ret (pe_and (pe_callB (call_isiKK (K := K)) (by rfl) T.n_isinstance (by decide +kernel) (pa_cons (pv 0) (pa_cons (pe_bltn (v := .ty "str") (by rfl) T.n_str (by decide +kernel) rfl) pa_nil))) (pe_one (pe_cmpR (op_eqDK (K := K) hr.units) (pv 0) (pv 1) (nomark _))))) pss_nil))))), ?_⟩
      refine nrm (σ' := [some v_l_found, some v_l_due, none]) rfl ?_
      obtain ⟨t1, e_t1, hm⟩ := bs hm
      refine q_if (et_B (ev_isiD isc_T e_t1 (ea_d (ev_d (K := K) rfl h_l_due) (ea_cons mo_cls ev_cls ea_nil)))) ok (fun hb G H s1 ok => ?_) (fun hb G H s1 ok => ?_)
      · have hm := cond_t hb hm
        have h_l_found := dp_up s1 _ h_l_found
        have h_l_due := dp_up s1 _ h_l_due
        have sg := sg.trans s1
        obtain ⟨t2, e_t2, hm⟩ := bs hm
        obtain ⟨t5, e_t5, hm⟩ := bs hm
        refine q_if (et_orG (c := t5) (et_not (et_B (ev_isiD isc_T e_t2 (ea_d (ev_d (K := K) rfl h_l_found) (ea_cons mo_cls ev_cls ea_nil))))) (fun eb => by have e1 := cond_f eb e_t5; (obtain ⟨t3, e_t3, e1⟩ := bs e1); (obtain ⟨t4, e_t4, e1⟩ := bs e1); (have e1 := Option.some.inj e1); subst e1; exact (et_test (ev_neI (ev_lenD e_t3 (ea_d (ev_d (K := K) rfl h_l_found) ea_nil)) (ev_lenD e_t4 (ea_d (ev_d (K := K) rfl h_l_due) ea_nil))))) (fun eb => by have e1 := cond_t eb e_t5; cases e1; exact ⟨rfl, rfl⟩)) ok (fun hb G H s1 ok => ?_) (fun hb G H s1 ok => ?_)
        · have hm := cond_t hb hm
          have h_l_found := dp_up s1 _ h_l_found
          have h_l_due := dp_up s1 _ h_l_due
          have sg := sg.trans s1
          refine q_ret (ev_bl (K := K)) ok (fun v G H s1 ok hv => ?_)
          have sg := sg.trans s1
          cases hm
          exact q v G H sg (ok.less hB) hv
        · have hm := cond_f hb hm
          have h_l_found := dp_up s1 _ h_l_found
          have h_l_due := dp_up s1 _ h_l_due
          have sg := sg.trans s1
          refine q_nilU ?_
          obtain ⟨t6, e_t6, hm⟩ := bs hm
          obtain ⟨t7, e_t7, hm⟩ := bs hm
          obtain ⟨t17, e_t17, hm⟩ := bs hm
          refine q_ret (ev_allL (ea_d (EvL.ev (el_lcM (ea := Dat.int) (eb := Dat.bool) (xs := t7) (ys := t17) (hf := e_t17) (src_rngO e_t7 (ea_d (ev_lenD e_t6 (ea_d (ev_d (K := K) rfl h_l_due) ea_nil)) ea_nil)) (fun x8 _ Mx12 _ _ he13 sM11 sG10 hv9 => by (obtain ⟨t14, e_t14, he13⟩ := bs he13); (obtain ⟨t15, e_t15, he13⟩ := bs he13); (obtain ⟨t16, e_t16, he13⟩ := bs he13); cases he13; exact (tg_name ⟨rfl, (ev_callP (a := (t14, t15)) e_t16 (ea_d (ev_ixD e_t14 (ev_d (K := K) rfl (dp_up sG10 _ h_l_found)) (ev_d (K := K) rfl hv9)) (ea_d (ev_ixD e_t15 (ev_d (K := K) rfl (dp_up sG10 _ h_l_due)) (ev_d (K := K) rfl hv9)) ea_nil)))⟩)))) ea_nil)) ok (fun v G H s1 ok hv => ?_)
          have sg := sg.trans s1
          cases hm
          exact q v G H sg (ok.less hB) hv
      · have hm := cond_f hb hm
        have h_l_found := dp_up s1 _ h_l_found
        have h_l_due := dp_up s1 _ h_l_due
        have sg := sg.trans s1
        refine q_nilU ?_
        refine q_if (et_test (ev_isN (ev_d (K := K) rfl h_l_due) (ev_non (K := K)))) ok (fun hb G H s1 ok => ?_) (fun hb G H s1 ok => ?_)
        · have hm := cond_t hb hm
          have h_l_found := dp_up s1 _ h_l_found
          have h_l_due := dp_up s1 _ h_l_due
          have sg := sg.trans s1
          refine q_ret (ev_isN (ev_d (K := K) rfl h_l_found) (ev_non (K := K))) ok (fun v G H s1 ok hv => ?_)
          have sg := sg.trans s1
          cases hm
          exact q v G H sg (ok.less hB) hv
        · have hm := cond_f hb hm
          have h_l_found := dp_up s1 _ h_l_found
          have h_l_due := dp_up s1 _ h_l_due
          have sg := sg.trans s1
          refine q_nilU ?_
          obtain ⟨t18, e_t18, hm⟩ := bs hm
          refine q_if (et_B (ev_isiD isc_B e_t18 (ea_d (ev_d (K := K) rfl h_l_due) (ea_cons mo_cls ev_cls ea_nil)))) ok (fun hb G H s1 ok => ?_) (fun hb G H s1 ok => ?_)
          · have hm := cond_t hb hm
            have h_l_found := dp_up s1 _ h_l_found
            have h_l_due := dp_up s1 _ h_l_due
            have sg := sg.trans s1
            obtain ⟨t19, e_t19, hm⟩ := bs hm
            obtain ⟨t21, e_t21, hm⟩ := bs hm
            refine q_ret (ev_andG (c := t21) (ev_isiD isc_B e_t19 (ea_d (ev_d (K := K) rfl h_l_found) (ea_cons mo_cls ev_cls ea_nil))) (fun eb => by have e1 := cond_t eb e_t21; (obtain ⟨t20, e_t20, e1⟩ := bs e1); (have e1 := Option.some.inj e1); subst e1; exact (ev_eqDO e_t20 (ev_d (K := K) rfl h_l_found) (ev_d (K := K) rfl h_l_due))) (fun eb => by have e1 := cond_f eb e_t21; cases e1; exact ⟨rfl, rfl⟩)) ok (fun v G H s1 ok hv => ?_)
            have sg := sg.trans s1
            cases hm
            exact q v G H sg (ok.less hB) hv
          · have hm := cond_f hb hm
            have h_l_found := dp_up s1 _ h_l_found
            have h_l_due := dp_up s1 _ h_l_due
            have sg := sg.trans s1
            refine q_nilU ?_
            obtain ⟨t22, e_t22, hm⟩ := bs hm
            refine q_if (et_B (ev_isiD isc_I e_t22 (ea_d (ev_d (K := K) rfl h_l_due) (ea_cons mo_cls ev_cls ea_nil)))) ok (fun hb G H s1 ok => ?_) (fun hb G H s1 ok => ?_)
            · have hm := cond_t hb hm
              have h_l_found := dp_up s1 _ h_l_found
              have h_l_due := dp_up s1 _ h_l_due
              have sg := sg.trans s1
              obtain ⟨t23, e_t23, hm⟩ := bs hm
              obtain ⟨t27, e_t27, hm⟩ := bs hm
              refine q_ret (ev_andG (c := t27) (ev_isiD isc_I e_t23 (ea_d (ev_d (K := K) rfl h_l_found) (ea_cons mo_cls ev_cls ea_nil))) (fun eb => by have e1 := cond_t eb e_t27; (obtain ⟨t24, e_t24, e1⟩ := bs e1); (obtain ⟨t26, e_t26, e1⟩ := bs e1); (have e1 := Option.some.inj e1); subst e1; exact (ev_andG (c := t26) (ev_not (ev_isiD isc_B e_t24 (ea_d (ev_d (K := K) rfl h_l_found) (ea_cons mo_cls ev_cls ea_nil)))) (fun eb => by have e1 := cond_t eb e_t26; (obtain ⟨t25, e_t25, e1⟩ := bs e1); (have e1 := Option.some.inj e1); subst e1; exact (ev_eqDO e_t25 (ev_d (K := K) rfl h_l_found) (ev_d (K := K) rfl h_l_due))) (fun eb => by have e1 := cond_f eb e_t26; cases e1; exact ⟨rfl, rfl⟩))) (fun eb => by have e1 := cond_f eb e_t27; cases e1; exact ⟨rfl, rfl⟩)) ok (fun v G H s1 ok hv => ?_)
              have sg := sg.trans s1
              cases hm
              exact q v G H sg (ok.less hB) hv
            · have hm := cond_f hb hm
              have h_l_found := dp_up s1 _ h_l_found
              have h_l_due := dp_up s1 _ h_l_due
              have sg := sg.trans s1
              refine q_nilU ?_
              obtain ⟨t28, e_t28, hm⟩ := bs hm
              obtain ⟨t30, e_t30, hm⟩ := bs hm
              refine q_ret (ev_andG (c := t30) (ev_isiD isc_S e_t28 (ea_d (ev_d (K := K) rfl h_l_found) (ea_cons mo_cls ev_cls ea_nil))) (fun eb => by have e1 := cond_t eb e_t30; (obtain ⟨t29, e_t29, e1⟩ := bs e1); (have e1 := Option.some.inj e1); subst e1; exact (ev_eqDO e_t29 (ev_d (K := K) rfl h_l_found) (ev_d (K := K) rfl h_l_due))) (fun eb => by have e1 := cond_f eb e_t30; cases e1; exact ⟨rfl, rfl⟩)) ok (fun v G H s1 ok hv => ?_)
              have sg := sg.trans s1
              cases hm
              exact q v G H sg (ok.less hB) hv
/-! ### _law_sizes -/
theorem sc__law_sizes : FnScope ["_law_store", "_law_many", "_law_most", "_law_bulk", "_law_found", "_law_times", "_law_turn", "_law_size"] ["_law_store", "_law_many", "_law_most", "_law_bulk"] (defScope s__law_sizes) := ⟨rfl, rfl, rfl, by decide +kernel, rfl, by decide +kernel, by decide +kernel⟩
def a__law_sizes (K : PySem.W.Frag) (a : Int × Int × Int) : List V → Hp → Prop := conP (DD K (Dat.int a.1)) (conP (DD K (Dat.int a.2.1)) (conP (DD K (Dat.int a.2.2)) (nilP)))
def m__law_sizes (a : Int × Int × Int) (z : Sto) : Option ((List Int) × Sto) :=
  (m__law_pull a.1 z).bind fun t1 => (rngO ((1 : Int) + t1.1)).bind fun t2 => (forO (fun (st4 : Int × (List Int) × Sto) (x5 : Int) => (m__law_pull a.2.1 st4.2.2).bind fun t10 => (mulO st4.1 ((1 : Int) + t10.1)).bind fun t11 => cond (decide (t11 ≤ a.2.2)) ((appO st4.2.1 ((1 : Int) + t10.1)).bind fun t12 => (mulO st4.1 ((1 : Int) + t10.1)).bind fun t13 => some (t13, t12, t10.2)) (some (st4.1, st4.2.1, t10.2))) t2 ((1 : Int), ([] : (List Int)), t1.2)).bind fun fin3 => some ((cond (!decide (fin3.2.1 = ([]))) fin3.2.1 ([(1 : Int)] : (List Int))), fin3.2.2)
abbrev sp__law_sizes (K : PySem.W.Frag) : Sp := spD (a__law_sizes K) (m__law_sizes) fun r => DD K ((eT Dat.int) r)
theorem ok__law_sizes {P : Program} {w : World} {K : PySem.W.Frag} {mg : Str → Option Value} {base : Heap} (T : Txt K mg) (O__law_pull : FnOk P w K mg base CX0 1 T.a__law_pull T.d__law_pull ["_law_store", "_law_many"] (sp__law_pull K)) : FnOk P w K mg base CX0 (2) T.a__law_sizes T.d__law_sizes ["_law_store", "_law_many", "_law_most", "_law_bulk"] (sp__law_sizes K) := by
  refine T.F__law_sizes.ok sc__law_sizes (fun vs H Q E h => ?_) (fun cdv A outer s0 H vs Q E hr h => ?_)
  · obtain ⟨G, M0, s, z, z1, a, r, ws, rfl, ok, hs, ⟨v_l_many, _, rfl, h_l_many, v_l_most, _, rfl, h_l_most, v_l_bulk, _, rfl, h_l_bulk, rfl⟩, hm, q⟩ := h
    rfl
  · obtain ⟨G, M0, s, z, z1, a, r, ws, rfl, ok, hs, ⟨v_l_many, _, rfl, h_l_many, v_l_most, _, rfl, h_l_most, v_l_bulk, _, rfl, h_l_bulk, rfl⟩, hm, q⟩ := h
    unfold m__law_sizes at hm
    have sg := Same.refl G
    have hB : ∀ a u, a ≠ s → M0 a = some u → M0 a = some u := fun _ _ _ h => h
    refine ⟨_, (pss_cons (ps_par (i := 4) (j := 5) rfl sc__law_sizes.nd rfl rfl (by decide) rfl rfl (pa_cons (pe_lst pa_nil) (pa_cons pe_int pa_nil)) (by rfl)) (pss_cons (ps_for PassesOwn.never rfl (pi_range1 (by rfl) T.n_range (pa_cons (pe_op op_add pe_int (pe_call O__law_pull (hr.mono (by decide)) (by rfl) T.g__law_pull T.F__law_pull.kp T.b__law_pull .nil pass0 (pa_cons (pv 0) (pa_cons (pv 1) pa_nil)))) pa_nil)) (pg_name (i := 6) sc__law_sizes.nd rfl (.inl rfl)) (pss_cons (ps_set (i := 7) sc__law_sizes.nd rfl (.inl rfl) (pe_op op_add pe_int (pe_call O__law_pull (hr.mono (by decide)) (by rfl) T.g__law_pull T.F__law_pull.kp T.b__law_pull .nil pass0 (pa_cons (pv 0) (pa_cons (pv 2) pa_nil))))) (pss_cons (ps_if (pt_cmpR op_le (pe_op op_mulO (pv 5) (pv 7)) (pv 3) (nomark _)) (pss_cons (ps_expr (pe_bm PySem.F.plainAttrs_list PySem.F.slot_list_append PySem.F.type_list_append mt_append (pv 4) (pa_cons (pv 7) pa_nil))) (pss_cons (ps_set (i := 5) sc__law_sizes.nd rfl (.inl rfl) (pe_op op_mulO (pv 5) (pv 7))) pss_nil)) pss_nil) pss_nil))) (pss_cons (ps_ret (pe_ifExp (pt_cmpR (op_neDK (K := K) hr.units) (pv 4) (pe_lst pa_nil) (nomark _)) (pe_callTy (cl_tupleK (K := K)) (by rfl) T.n_tuple (by decide +kernel) (pa_cons (pv 4) pa_nil)) (pe_tup (pa_cons pe_int pa_nil)))) pss_nil))), ?_⟩
    cases h_l_many
    cases h_l_most
    cases h_l_bulk
    refine nrm (σ' := [some (.ref s), some (.int a.1), some (.int a.2.1), some (.int a.2.2), none, none, none, none]) rfl ?_
    refine q_parLD (σ' := fun v w => [some (.ref s), some (.int a.1), some (.int a.2.1), some (.int a.2.2), some v, some w, none, none]) (el_lst (ea_nilD (K := K))) (fun _ _ _ => (ev_int (K := K))) ok (fun _ _ => rfl) (fun v_l_times p_l_found vs_l_found G H s1 ok hn h_l_times hd_l_found => ?_)
    have sg := sg.trans s1
    cases h_l_times
    have n_l_store_l_found : s ≠ p_l_found := ne_of_none hs hn
    have n_l_found_l_store := n_l_store_l_found.symm
    have h0_l_found : M0 p_l_found = none := hB_none (M := M0) hB hs hn
    have hd_l_found : DqAll K G vs_l_found (([] : (List Int)).map Dat.int) := hd_l_found
    have ok : Ok _ (upd M0 p_l_found (.lst vs_l_found)) _ := ok
    have hs : (upd M0 p_l_found (.lst vs_l_found)) s = some (sto z) := (up_ne n_l_store_l_found hs)
    have hB : ∀ a u, a ≠ s → M0 a = some u → (upd M0 p_l_found (.lst vs_l_found)) a = some u := (hB_own hB h0_l_found)
    have hp_l_found : (upd M0 p_l_found (.lst vs_l_found)) p_l_found = some (.lst vs_l_found) := upd_same
    obtain ⟨M, eM⟩ : ∃ m, m = (upd M0 p_l_found (.lst vs_l_found)) := ⟨_, rfl⟩
    rw [← eM] at ok hs hB hp_l_found
    clear eM
    obtain ⟨t1, e_t1, hm⟩ := bs hm
    obtain ⟨t2, e_t2, hm⟩ := bs hm
    obtain ⟨fin3, e_fin3, hm⟩ := bs hm
    have hmo6 := hm
    refine q_forO (ea := Dat.int) (src_rngO e_t2 (ea_d (ev_add (ev_int (K := K)) (ev_callD (a := a.1) (r := t1.1) (z' := t1.2) hs e_t1 (ea_cons mo_ow (ev_own rfl) (ea_d (ev_d (K := K) rfl (.int _)) ea_nil)))) ea_nil)) ok (fun (st4 : Int × (List Int) × Sto) σ1 G1 M1 => ∃ (y_l_size : Option V) (y_l_turn : Option V) (vs_l_found : List V), σ1 = [some (.ref s), some (.int a.1), some (.int a.2.1), some (.int a.2.2), some (.ref p_l_found), some (.int st4.1), y_l_turn, y_l_size] ∧ (DqAll K G1 vs_l_found (st4.2.1.map Dat.int)) ∧ (M1 p_l_found = some (.lst vs_l_found)) ∧ (M1 s = some (sto st4.2.2)) ∧ (∀ a u, a ≠ s → M0 a = some u → M1 a = some u)) e_fin3 (fun G1 s1 => ⟨_, _, _, rfl, dpAll_up s1 _ hd_l_found, (up_ne n_l_found_l_store hp_l_found), upd_same, (hB_draw hB)⟩) (by rintro _ _ _ _ _ ⟨y_l_size, y_l_turn, vs_l_found, rfl, hd_l_found, hp_l_found, hs, hB⟩ s2; exact ⟨_, _, _, rfl, dpAll_up s2 _ hd_l_found, hp_l_found, hs, hB⟩) (fun x5 xv8 st4 st' σ1 G M H N hm hj s1 ok hv hN => ?_) (fun σ1 G M H s1 ok hj => ?_)
    · obtain ⟨y_l_size, y_l_turn, vs_l_found, rfl, hd_l_found, hp_l_found, hs, hB⟩ := hj
      have sg := sg.trans s1
      have sl9 := Same.refl G
      refine gn ?_
      have h_l_turn := hv
      cases h_l_turn
      refine nrm (σ' := [some (.ref s), some (.int a.1), some (.int a.2.1), some (.int a.2.2), some (.ref p_l_found), some (.int st4.1), some (.int x5), y_l_size]) rfl ?_
      obtain ⟨t10, e_t10, hm⟩ := bs hm
      refine q_set (σ' := fun v => [some (.ref s), some (.int a.1), some (.int a.2.1), some (.int a.2.2), some (.ref p_l_found), some (.int st4.1), some (.int x5), some v]) (ev_add (ev_int (K := K)) (ev_callD (a := a.2.1) (r := t10.1) (z' := t10.2) hs e_t10 (ea_cons mo_ow (ev_own rfl) (ea_d (ev_d (K := K) rfl (.int _)) ea_nil)))) ok (fun _ => rfl) (fun v_l_size G H s1 ok h_l_size => ?_)
      have hd_l_found := dpAll_up s1 _ hd_l_found
      have sg := sg.trans s1
      have sl9 := sl9.trans s1
      cases h_l_size
      have ok : Ok _ (upd M s (sto t10.2)) _ := ok
      have hs : (upd M s (sto t10.2)) s = some (sto t10.2) := upd_same
      have hB : ∀ a u, a ≠ s → M0 a = some u → (upd M s (sto t10.2)) a = some u := (hB_draw hB)
      have hp_l_found : (upd M s (sto t10.2)) p_l_found = some (.lst vs_l_found) := (up_ne n_l_found_l_store hp_l_found)
      obtain ⟨M, eM⟩ : ∃ m, m = (upd M s (sto t10.2)) := ⟨_, rfl⟩
      rw [← eM] at ok hs hB hp_l_found
      clear eM
      obtain ⟨t11, e_t11, hm⟩ := bs hm
      refine q_if (et_test (ev_le (ev_mulO e_t11 (ev_d (K := K) rfl (.int _)) (ev_d (K := K) rfl (.int _))) (ev_d (K := K) rfl (.int _)))) ok (fun hb G H s1 ok => ?_) (fun hb G H s1 ok => ?_)
      · have hm := cond_t hb hm
        have hd_l_found := dpAll_up s1 _ hd_l_found
        have sg := sg.trans s1
        have sl9 := sl9.trans s1
        obtain ⟨t12, e_t12, hm⟩ := bs hm
        obtain ⟨hl_t12, ea_t12⟩ := appO_of e_t12
        refine q_append (ev_own rfl) (ea_d (ev_d (K := K) rfl (.int _)) ea_nil) hp_l_found hp_l_found (by rw [dpAll_len hd_l_found, List.length_map]; exact szlt hl_t12) ok (fun v G H s1 ok hv => ?_)
        have hd_l_found := dpAll_up s1 _ hd_l_found
        have sg := sg.trans s1
        have sl9 := sl9.trans s1
        have hd_l_found : DqAll K G (vs_l_found ++ [v]) (t12.map Dat.int) := by rw [ea_t12, List.map_append]; exact dpAll_app hd_l_found (.cons hv .nil)
        have ok : Ok _ (upd M p_l_found (.lst (vs_l_found ++ [v]))) _ := ok
        have hs : (upd M p_l_found (.lst (vs_l_found ++ [v]))) s = some (sto t10.2) := (up_ne n_l_store_l_found hs)
        have hB : ∀ a u, a ≠ s → M0 a = some u → (upd M p_l_found (.lst (vs_l_found ++ [v]))) a = some u := (hB_own hB h0_l_found)
        have hp_l_found : (upd M p_l_found (.lst (vs_l_found ++ [v]))) p_l_found = some (.lst (vs_l_found ++ [v])) := upd_same
        obtain ⟨M, eM⟩ : ∃ m, m = (upd M p_l_found (.lst (vs_l_found ++ [v]))) := ⟨_, rfl⟩
        rw [← eM] at ok hs hB hp_l_found
        clear eM
        obtain ⟨vs_l_found, e_vs⟩ : ∃ m, m = (vs_l_found ++ [v]) := ⟨_, rfl⟩
        rw [← e_vs] at hp_l_found hd_l_found
        clear e_vs
        obtain ⟨t13, e_t13, hm⟩ := bs hm
        refine q_set (σ' := fun v => [some (.ref s), some (.int a.1), some (.int a.2.1), some (.int a.2.2), some (.ref p_l_found), some v, some (.int x5), some (.int ((1 : Int) + t10.1))]) (ev_mulO e_t13 (ev_d (K := K) rfl (.int _)) (ev_d (K := K) rfl (.int _))) ok (fun _ => rfl) (fun v_l_times G H s1 ok h_l_times => ?_)
        have hd_l_found := dpAll_up s1 _ hd_l_found
        have sg := sg.trans s1
        have sl9 := sl9.trans s1
        cases h_l_times
        refine q_nilU ?_
        refine q_nil ?_
        cases hm
        exact hN _ _ _ _ sl9 ok ⟨_, _, _, rfl, hd_l_found, hp_l_found, hs, hB⟩
      · have hm := cond_f hb hm
        have hd_l_found := dpAll_up s1 _ hd_l_found
        have sg := sg.trans s1
        have sl9 := sl9.trans s1
        refine q_nilU ?_
        refine q_nil ?_
        cases hm
        exact hN _ _ _ _ sl9 ok ⟨_, _, _, rfl, hd_l_found, hp_l_found, hs, hB⟩
    · obtain ⟨y_l_size, y_l_turn, vs_l_found, rfl, hd_l_found, hp_l_found, hs, hB⟩ := hj
      have sg := sg.trans s1
      refine q_ret (ev_ifC (e := (eT Dat.int)) (x := fin3.2.1) (y := ([(1 : Int)] : (List Int))) (et_test (ev_neOw (e := Dat.int) (xs := fin3.2.1) (ys := ([])) eqe_int (by decide) hp_l_found hd_l_found (ev_own rfl) (EvL.ev (el_lst (ea_nilD (K := K)))))) (fun _ => (ev_tupO hp_l_found hd_l_found (ea_cons mo_ow (ev_own rfl) ea_nil))) (fun _ => (ev_tup (ea_consD (ev_int (K := K)) (ea_nilD (K := K)))))) ok (fun v G H s1 ok hv => ?_)
      have sg := sg.trans s1
      cases hm
      exact q v G H sg (ok.less (same_fin hB hs)) hv
/-! ### _law_arrow -/
theorem sc__law_arrow : FnScope ["_law_store", "_law_sizes_here", "_law_mode", "_law_found", "_law_size", "_law_some"] ["_law_store", "_law_sizes_here"] (defScope s__law_arrow) := ⟨rfl, rfl, rfl, by decide +kernel, rfl, by decide +kernel, by decide +kernel⟩
def a__law_arrow (K : PySem.W.Frag) (a : (List Int)) : List V → Hp → Prop := conP (DD K ((eT Dat.int) a)) (nilP)
def m__law_arrow (a : (List Int)) (z : Sto) : Option ((List Int) × Sto) :=
  (m__law_pull (4 : Int) z).bind fun t1 => (forO (fun (st3 : (List Int) × Sto) (x4 : Int) => (m__law_pull x4 st3.2).bind fun t9 => (powO (10 : Int) (6 : Int)).bind fun t10 => (m__law_pull t10 t9.2).bind fun t11 => (mulO (3 : Int) x4).bind fun t12 => (m__law_pull t12 t11.2).bind fun t13 => (atI ([t9.1, t11.1, ((0 : Int) - t13.1)] : (List Int)) (0 : Int)).bind fun t14 => (m__law_pull (3 : Int) t13.2).bind fun t15 => (mulO t14 (if (decide (t15.1 = (0 : Int))) then 1 else 0 : Int)).bind fun t16 => (appO ([t9.1, t11.1, ((0 : Int) - t13.1)] : (List Int)) t16).bind fun t17 => (atI t17 t1.1).bind fun t18 => (appO st3.1 t18).bind fun t19 => some (t19, t15.2)) a (([] : (List Int)), t1.2)).bind fun fin2 => some (fin2.1, fin2.2)
abbrev sp__law_arrow (K : PySem.W.Frag) : Sp := spD (a__law_arrow K) (m__law_arrow) fun r => DD K ((eT Dat.int) r)
theorem ok__law_arrow {P : Program} {w : World} {K : PySem.W.Frag} {mg : Str → Option Value} {base : Heap} (T : Txt K mg) (O__law_pull : FnOk P w K mg base CX0 1 T.a__law_pull T.d__law_pull ["_law_store", "_law_many"] (sp__law_pull K)) : FnOk P w K mg base CX0 (2) T.a__law_arrow T.d__law_arrow ["_law_store", "_law_sizes_here"] (sp__law_arrow K) := by
  refine T.F__law_arrow.ok sc__law_arrow (fun vs H Q E h => ?_) (fun cdv A outer s0 H vs Q E hr h => ?_)
  · obtain ⟨G, M0, s, z, z1, a, r, ws, rfl, ok, hs, ⟨v_l_sizes_here, _, rfl, h_l_sizes_here, rfl⟩, hm, q⟩ := h
    rfl
  · obtain ⟨G, M0, s, z, z1, a, r, ws, rfl, ok, hs, ⟨v_l_sizes_here, _, rfl, h_l_sizes_here, rfl⟩, hm, q⟩ := h
    unfold m__law_arrow at hm
    have sg := Same.refl G
    have hB : ∀ a u, a ≠ s → M0 a = some u → M0 a = some u := fun _ _ _ h => h
    refine ⟨_, (pss_cons (ps_par (i := 2) (j := 3) rfl sc__law_arrow.nd rfl rfl (by decide) rfl rfl (pa_cons (pe_call O__law_pull (hr.mono (by decide)) (by rfl) T.g__law_pull T.F__law_pull.kp T.b__law_pull .nil pass0 (pa_cons (pv 0) (pa_cons pe_int pa_nil))) (pa_cons (pe_lst pa_nil) pa_nil)) (by rfl)) (pss_cons (ps_for PassesOwn.never rfl (pi_tupK (K := K) (pv 1)) (pg_name (i := 4) sc__law_arrow.nd rfl (.inl rfl)) (pss_cons (ps_set (i := 5) sc__law_arrow.nd rfl (.inl rfl) (pe_lst (pa_cons (pe_call O__law_pull (hr.mono (by decide)) (by rfl) T.g__law_pull T.F__law_pull.kp T.b__law_pull .nil pass0 (pa_cons (pv 0) (pa_cons (pv 4) pa_nil))) (pa_cons (pe_call O__law_pull (hr.mono (by decide)) (by rfl) T.g__law_pull T.F__law_pull.kp T.b__law_pull .nil pass0 (pa_cons (pv 0) (pa_cons (pe_op op_pow pe_int pe_int) pa_nil))) (pa_cons (pe_op op_sub pe_int (pe_call O__law_pull (hr.mono (by decide)) (by rfl) T.g__law_pull T.F__law_pull.kp T.b__law_pull .nil pass0 (pa_cons (pv 0) (pa_cons (pe_op op_mulO pe_int (pv 4)) pa_nil)))) pa_nil))))) (pss_cons (ps_expr (pe_bm PySem.F.plainAttrs_list PySem.F.slot_list_append PySem.F.type_list_append mt_append (pv 5) (pa_cons (pe_op op_mulO (pe_ix (ix_listK (K := K)) (pv 5) pe_int (fun _ _ => rfl)) (pe_callTy cl_int (by rfl) T.n_int (by decide +kernel) (pa_cons (pe_cmpR op_eq (pe_call O__law_pull (hr.mono (by decide)) (by rfl) T.g__law_pull T.F__law_pull.kp T.b__law_pull .nil pass0 (pa_cons (pv 0) (pa_cons pe_int pa_nil))) pe_int (nomark _)) pa_nil))) pa_nil))) (pss_cons (ps_expr (pe_bm PySem.F.plainAttrs_list PySem.F.slot_list_append PySem.F.type_list_append mt_append (pv 3) (pa_cons (pe_ix (ix_listK (K := K)) (pv 5) (pv 2) (fun _ _ => rfl)) pa_nil))) pss_nil)))) (pss_cons (ps_ret (pe_callTy (cl_tupleK (K := K)) (by rfl) T.n_tuple (by decide +kernel) (pa_cons (pv 3) pa_nil))) pss_nil))), ?_⟩
    refine nrm (σ' := [some (.ref s), some v_l_sizes_here, none, none, none, none]) rfl ?_
    obtain ⟨t1, e_t1, hm⟩ := bs hm
    refine q_parDL (σ' := fun v w => [some (.ref s), some v_l_sizes_here, some v, some w, none, none]) (ev_callD (a := (4 : Int)) (r := t1.1) (z' := t1.2) hs e_t1 (ea_cons mo_ow (ev_own rfl) (ea_d (ev_int (K := K)) ea_nil))) mo_dd (el_lst (ea_nilD (K := K))) ok (fun _ _ => rfl) (fun v_l_mode p_l_found vs_l_found G H s1 ok hn h_l_mode hd_l_found => ?_)
    have h_l_sizes_here := dp_up s1 _ h_l_sizes_here
    have sg := sg.trans s1
    cases h_l_mode
    have n_l_store_l_found : s ≠ p_l_found := ne_of_none upd_same hn
    have n_l_found_l_store := n_l_store_l_found.symm
    have h0_l_found : M0 p_l_found = none := hB_none (M := (upd M0 s (sto t1.2))) (hB_draw hB) upd_same hn
    have hd_l_found : DqAll K G vs_l_found (([] : (List Int)).map Dat.int) := hd_l_found
    have ok : Ok _ (upd (upd M0 s (sto t1.2)) p_l_found (.lst vs_l_found)) _ := ok
    have hs : (upd (upd M0 s (sto t1.2)) p_l_found (.lst vs_l_found)) s = some (sto t1.2) := (up_ne n_l_store_l_found upd_same)
    have hB : ∀ a u, a ≠ s → M0 a = some u → (upd (upd M0 s (sto t1.2)) p_l_found (.lst vs_l_found)) a = some u := (hB_own (hB_draw hB) h0_l_found)
    have hp_l_found : (upd (upd M0 s (sto t1.2)) p_l_found (.lst vs_l_found)) p_l_found = some (.lst vs_l_found) := upd_same
    obtain ⟨M, eM⟩ : ∃ m, m = (upd (upd M0 s (sto t1.2)) p_l_found (.lst vs_l_found)) := ⟨_, rfl⟩
    rw [← eM] at ok hs hB hp_l_found
    clear eM
    obtain ⟨fin2, e_fin2, hm⟩ := bs hm
    have hmo5 := hm
    refine q_forO (ea := Dat.int) (src_tup (ev_d (K := K) rfl h_l_sizes_here)) ok (fun (st3 : (List Int) × Sto) σ1 G1 M1 => ∃ (y_l_some : Option V) (y_l_size : Option V) (vs_l_found : List V), σ1 = [some (.ref s), some v_l_sizes_here, some (.int t1.1), some (.ref p_l_found), y_l_size, y_l_some] ∧ (DqAll K G1 vs_l_found (st3.1.map Dat.int)) ∧ (M1 p_l_found = some (.lst vs_l_found)) ∧ (M1 s = some (sto st3.2)) ∧ (∀ a u, a ≠ s → M0 a = some u → M1 a = some u)) e_fin2 (fun G1 s1 => ⟨_, _, _, rfl, dpAll_up s1 _ hd_l_found, hp_l_found, hs, hB⟩) (by rintro _ _ _ _ _ ⟨y_l_some, y_l_size, vs_l_found, rfl, hd_l_found, hp_l_found, hs, hB⟩ s2; exact ⟨_, _, _, rfl, dpAll_up s2 _ hd_l_found, hp_l_found, hs, hB⟩) (fun x4 xv7 st3 st' σ1 G M H N hm hj s1 ok hv hN => ?_) (fun σ1 G M H s1 ok hj => ?_)
    · obtain ⟨y_l_some, y_l_size, vs_l_found, rfl, hd_l_found, hp_l_found, hs, hB⟩ := hj
      have h_l_sizes_here := dp_up s1 _ h_l_sizes_here
      have sg := sg.trans s1
      have sl8 := Same.refl G
      refine gn ?_
      have h_l_size := hv
      cases h_l_size
      refine nrm (σ' := [some (.ref s), some v_l_sizes_here, some (.int t1.1), some (.ref p_l_found), some (.int x4), y_l_some]) rfl ?_
      obtain ⟨t9, e_t9, hm⟩ := bs hm
      obtain ⟨t10, e_t10, hm⟩ := bs hm
      obtain ⟨t11, e_t11, hm⟩ := bs hm
      obtain ⟨t12, e_t12, hm⟩ := bs hm
      obtain ⟨t13, e_t13, hm⟩ := bs hm
      refine q_setL (σ' := fun v => [some (.ref s), some v_l_sizes_here, some (.int t1.1), some (.ref p_l_found), some (.int x4), some v]) (el_lst (ea_consD (ev_callD (a := x4) (r := t9.1) (z' := t9.2) hs e_t9 (ea_cons mo_ow (ev_own rfl) (ea_d (ev_d (K := K) rfl (.int _)) ea_nil))) (ea_consD (ev_callD (a := t10) (r := t11.1) (z' := t11.2) upd_same e_t11 (ea_cons mo_ow (ev_own rfl) (ea_d (ev_powO e_t10 (ev_int (K := K)) (ev_int (K := K))) ea_nil))) (ea_consD (ev_sub (ev_int (K := K)) (ev_callD (a := t12) (r := t13.1) (z' := t13.2) upd_same e_t13 (ea_cons mo_ow (ev_own rfl) (ea_d (ev_mulO e_t12 (ev_int (K := K)) (ev_d (K := K) rfl (.int _))) ea_nil)))) (ea_nilD (K := K)))))) ok (fun _ => rfl) (fun p_l_some vs_l_some G H s1 ok hn hd_l_some => ?_)
      have h_l_sizes_here := dp_up s1 _ h_l_sizes_here
      have hd_l_found := dpAll_up s1 _ hd_l_found
      have sg := sg.trans s1
      have sl8 := sl8.trans s1
      have n_l_found_l_some : p_l_found ≠ p_l_some := ne_of_none (up_ne n_l_found_l_store (up_ne n_l_found_l_store (up_ne n_l_found_l_store hp_l_found))) hn
      have n_l_some_l_found := n_l_found_l_some.symm
      have n_l_store_l_some : s ≠ p_l_some := ne_of_none upd_same hn
      have n_l_some_l_store := n_l_store_l_some.symm
      have h0_l_some : M0 p_l_some = none := hB_none (M := (upd (upd (upd M s (sto t9.2)) s (sto t11.2)) s (sto t13.2))) (hB_draw (hB_draw (hB_draw hB))) upd_same hn
      have hd_l_some : DqAll K G vs_l_some (([t9.1, t11.1, ((0 : Int) - t13.1)] : (List Int)).map Dat.int) := hd_l_some
      have ok : Ok _ (upd (upd (upd (upd M s (sto t9.2)) s (sto t11.2)) s (sto t13.2)) p_l_some (.lst vs_l_some)) _ := ok
      have hs : (upd (upd (upd (upd M s (sto t9.2)) s (sto t11.2)) s (sto t13.2)) p_l_some (.lst vs_l_some)) s = some (sto t13.2) := (up_ne n_l_store_l_some upd_same)
      have hB : ∀ a u, a ≠ s → M0 a = some u → (upd (upd (upd (upd M s (sto t9.2)) s (sto t11.2)) s (sto t13.2)) p_l_some (.lst vs_l_some)) a = some u := (hB_own (hB_draw (hB_draw (hB_draw hB))) h0_l_some)
      have hp_l_found : (upd (upd (upd (upd M s (sto t9.2)) s (sto t11.2)) s (sto t13.2)) p_l_some (.lst vs_l_some)) p_l_found = some (.lst vs_l_found) := (up_ne n_l_found_l_some (up_ne n_l_found_l_store (up_ne n_l_found_l_store (up_ne n_l_found_l_store hp_l_found))))
      have hp_l_some : (upd (upd (upd (upd M s (sto t9.2)) s (sto t11.2)) s (sto t13.2)) p_l_some (.lst vs_l_some)) p_l_some = some (.lst vs_l_some) := upd_same
      obtain ⟨M, eM⟩ : ∃ m, m = (upd (upd (upd (upd M s (sto t9.2)) s (sto t11.2)) s (sto t13.2)) p_l_some (.lst vs_l_some)) := ⟨_, rfl⟩
      rw [← eM] at ok hs hB hp_l_found hp_l_some
      clear eM
      obtain ⟨t14, e_t14, hm⟩ := bs hm
      obtain ⟨t15, e_t15, hm⟩ := bs hm
      obtain ⟨t16, e_t16, hm⟩ := bs hm
      obtain ⟨t17, e_t17, hm⟩ := bs hm
      obtain ⟨hl_t17, ea_t17⟩ := appO_of e_t17
      refine q_append (ev_own rfl) (ea_d (ev_mulO e_t16 (ev_ixOM (e := Dat.int) e_t14 hp_l_some hd_l_some (ev_own rfl) (ev_int (K := K))) (ev_intB (ea_d (ev_eqI (ev_callD (a := (3 : Int)) (r := t15.1) (z' := t15.2) hs e_t15 (ea_cons mo_ow (ev_own rfl) (ea_d (ev_int (K := K)) ea_nil))) (ev_int (K := K))) ea_nil))) ea_nil) hp_l_some (up_ne n_l_some_l_store hp_l_some) (by rw [dpAll_len hd_l_some, List.length_map]; exact szlt hl_t17) ok (fun v G H s1 ok hv => ?_)
      have h_l_sizes_here := dp_up s1 _ h_l_sizes_here
      have hd_l_found := dpAll_up s1 _ hd_l_found
      have hd_l_some := dpAll_up s1 _ hd_l_some
      have sg := sg.trans s1
      have sl8 := sl8.trans s1
      have hd_l_some : DqAll K G (vs_l_some ++ [v]) (t17.map Dat.int) := by rw [ea_t17, List.map_append]; exact dpAll_app hd_l_some (.cons hv .nil)
      have ok : Ok _ (upd (upd M s (sto t15.2)) p_l_some (.lst (vs_l_some ++ [v]))) _ := ok
      have hs : (upd (upd M s (sto t15.2)) p_l_some (.lst (vs_l_some ++ [v]))) s = some (sto t15.2) := (up_ne n_l_store_l_some upd_same)
      have hB : ∀ a u, a ≠ s → M0 a = some u → (upd (upd M s (sto t15.2)) p_l_some (.lst (vs_l_some ++ [v]))) a = some u := (hB_own (hB_draw hB) h0_l_some)
      have hp_l_found : (upd (upd M s (sto t15.2)) p_l_some (.lst (vs_l_some ++ [v]))) p_l_found = some (.lst vs_l_found) := (up_ne n_l_found_l_some (up_ne n_l_found_l_store hp_l_found))
      have hp_l_some : (upd (upd M s (sto t15.2)) p_l_some (.lst (vs_l_some ++ [v]))) p_l_some = some (.lst (vs_l_some ++ [v])) := upd_same
      obtain ⟨M, eM⟩ : ∃ m, m = (upd (upd M s (sto t15.2)) p_l_some (.lst (vs_l_some ++ [v]))) := ⟨_, rfl⟩
      rw [← eM] at ok hs hB hp_l_found hp_l_some
      clear eM
      obtain ⟨vs_l_some, e_vs⟩ : ∃ m, m = (vs_l_some ++ [v]) := ⟨_, rfl⟩
      rw [← e_vs] at hp_l_some hd_l_some
      clear e_vs
      obtain ⟨t18, e_t18, hm⟩ := bs hm
      obtain ⟨t19, e_t19, hm⟩ := bs hm
      obtain ⟨hl_t19, ea_t19⟩ := appO_of e_t19
      refine q_append (ev_own rfl) (ea_d (ev_ixOM (e := Dat.int) e_t18 hp_l_some hd_l_some (ev_own rfl) (ev_d (K := K) rfl (.int _))) ea_nil) hp_l_found hp_l_found (by rw [dpAll_len hd_l_found, List.length_map]; exact szlt hl_t19) ok (fun v G H s1 ok hv => ?_)
      have h_l_sizes_here := dp_up s1 _ h_l_sizes_here
      have hd_l_found := dpAll_up s1 _ hd_l_found
      have hd_l_some := dpAll_up s1 _ hd_l_some
      have sg := sg.trans s1
      have sl8 := sl8.trans s1
      have hd_l_found : DqAll K G (vs_l_found ++ [v]) (t19.map Dat.int) := by rw [ea_t19, List.map_append]; exact dpAll_app hd_l_found (.cons hv .nil)
      have ok : Ok _ (upd M p_l_found (.lst (vs_l_found ++ [v]))) _ := ok
      have hs : (upd M p_l_found (.lst (vs_l_found ++ [v]))) s = some (sto t15.2) := (up_ne n_l_store_l_found hs)
      have hB : ∀ a u, a ≠ s → M0 a = some u → (upd M p_l_found (.lst (vs_l_found ++ [v]))) a = some u := (hB_own hB h0_l_found)
      have hp_l_found : (upd M p_l_found (.lst (vs_l_found ++ [v]))) p_l_found = some (.lst (vs_l_found ++ [v])) := upd_same
      have hp_l_some : (upd M p_l_found (.lst (vs_l_found ++ [v]))) p_l_some = some (.lst vs_l_some) := (up_ne n_l_some_l_found hp_l_some)
      obtain ⟨M, eM⟩ : ∃ m, m = (upd M p_l_found (.lst (vs_l_found ++ [v]))) := ⟨_, rfl⟩
      rw [← eM] at ok hs hB hp_l_found hp_l_some
      clear eM
      obtain ⟨vs_l_found, e_vs⟩ : ∃ m, m = (vs_l_found ++ [v]) := ⟨_, rfl⟩
      rw [← e_vs] at hp_l_found hd_l_found
      clear e_vs
      refine q_nil ?_
      cases hm
      exact hN _ _ _ _ sl8 ok ⟨_, _, _, rfl, hd_l_found, hp_l_found, hs, hB⟩
    · obtain ⟨y_l_some, y_l_size, vs_l_found, rfl, hd_l_found, hp_l_found, hs, hB⟩ := hj
      have h_l_sizes_here := dp_up s1 _ h_l_sizes_here
      have sg := sg.trans s1
      refine q_ret (ev_tupO hp_l_found hd_l_found (ea_cons mo_ow (ev_own rfl) ea_nil)) ok (fun v G H s1 ok hv => ?_)
      have sg := sg.trans s1
      cases hm
      exact q v G H sg (ok.less (same_fin hB hs)) hv
/-! ### _law_arrows -/
theorem sc__law_arrows : FnScope ["_law_store", "_law_sizes_here", "_law_most", "_law_found", "_law_turn"] ["_law_store", "_law_sizes_here", "_law_most"] (defScope s__law_arrows) := ⟨rfl, rfl, rfl, by decide +kernel, rfl, by decide +kernel, by decide +kernel⟩
def a__law_arrows (K : PySem.W.Frag) (a : (List Int) × Int) : List V → Hp → Prop := conP (DD K ((eT Dat.int) a.1)) (conP (DD K (Dat.int a.2)) (nilP))
def m__law_arrows (a : (List Int) × Int) (z : Sto) : Option ((List (List Int)) × Sto) :=
  (m__law_pull (a.2 + (1 : Int)) z).bind fun t1 => (rngO t1.1).bind fun t2 => (forO (fun (st4 : (List (List Int)) × Sto) (x5 : Int) => (m__law_arrow a.1 st4.2).bind fun t10 => (appO st4.1 t10.1).bind fun t11 => (m__law_pull (6 : Int) t10.2).bind fun t12 => cond (decide (t12.1 = (0 : Int))) ((m__law_pull (t11.length : Int) t12.2).bind fun t13 => (atI t11 t13.1).bind fun t14 => (setO t11 (-(1 : Int)) t14).bind fun t15 => some (t15, t13.2)) (some (t11, t12.2))) t2 (([] : (List (List Int))), t1.2)).bind fun fin3 => some (fin3.1, fin3.2)
abbrev sp__law_arrows (K : PySem.W.Frag) : Sp := spD (a__law_arrows K) (m__law_arrows) fun r => DD K ((eT (eT Dat.int)) r)
theorem ok__law_arrows {P : Program} {w : World} {K : PySem.W.Frag} {mg : Str → Option Value} {base : Heap} (T : Txt K mg) (O__law_pull : FnOk P w K mg base CX0 1 T.a__law_pull T.d__law_pull ["_law_store", "_law_many"] (sp__law_pull K)) (O__law_arrow : FnOk P w K mg base CX0 2 T.a__law_arrow T.d__law_arrow ["_law_store", "_law_sizes_here"] (sp__law_arrow K)) : FnOk P w K mg base CX0 (3) T.a__law_arrows T.d__law_arrows ["_law_store", "_law_sizes_here", "_law_most"] (sp__law_arrows K) := by
  refine T.F__law_arrows.ok sc__law_arrows (fun vs H Q E h => ?_) (fun cdv A outer s0 H vs Q E hr h => ?_)
  · obtain ⟨G, M0, s, z, z1, a, r, ws, rfl, ok, hs, ⟨v_l_sizes_here, _, rfl, h_l_sizes_here, v_l_most, _, rfl, h_l_most, rfl⟩, hm, q⟩ := h
    rfl
  · obtain ⟨G, M0, s, z, z1, a, r, ws, rfl, ok, hs, ⟨v_l_sizes_here, _, rfl, h_l_sizes_here, v_l_most, _, rfl, h_l_most, rfl⟩, hm, q⟩ := h
    unfold m__law_arrows at hm
    have sg := Same.refl G
    have hB : ∀ a u, a ≠ s → M0 a = some u → M0 a = some u := fun _ _ _ h => h
    refine ⟨_, (pss_cons (ps_set (i := 3) sc__law_arrows.nd rfl (.inl rfl) (pe_lst pa_nil)) (pss_cons (ps_for PassesOwn.never rfl (pi_range1 (by rfl) T.n_range (pa_cons (pe_call O__law_pull (hr.mono (by decide)) (by rfl) T.g__law_pull T.F__law_pull.kp T.b__law_pull .nil pass0 (pa_cons (pv 0) (pa_cons (pe_op op_add (pv 2) pe_int) pa_nil))) pa_nil)) (pg_name (i := 4) sc__law_arrows.nd rfl (.inl rfl)) (pss_cons (ps_expr (pe_bm PySem.F.plainAttrs_list PySem.F.slot_list_append PySem.F.type_list_append mt_append (pv 3) (pa_cons (pe_call O__law_arrow (hr.mono (by decide)) (by rfl) T.g__law_arrow T.F__law_arrow.kp T.b__law_arrow .nil pass0 (pa_cons (pv 0) (pa_cons (pv 1) pa_nil))) pa_nil))) (pss_cons (ps_if (pt_cmpR op_eq (pe_call O__law_pull (hr.mono (by decide)) (by rfl) T.g__law_pull T.F__law_pull.kp T.b__law_pull .nil pass0 (pa_cons (pv 0) (pa_cons pe_int pa_nil))) pe_int (nomark _)) (pss_cons (ps_asg (pe_ix (ix_listK (K := K)) (pv 3) (pe_call O__law_pull (hr.mono (by decide)) (by rfl) T.g__law_pull T.F__law_pull.kp T.b__law_pull .nil pass0 (pa_cons (pv 0) (pa_cons (pe_callB (cl_lenK (K := K)) (by rfl) T.n_len (by decide +kernel) (pa_cons (pv 3) pa_nil)) pa_nil))) (fun _ _ => rfl)) (pg_sub (pv 3) (pe_un un_neg pe_int) set_list)) pss_nil) pss_nil) pss_nil))) (pss_cons (ps_ret (pe_callTy (cl_tupleK (K := K)) (by rfl) T.n_tuple (by decide +kernel) (pa_cons (pv 3) pa_nil))) pss_nil))), ?_⟩
    cases h_l_most
    refine nrm (σ' := [some (.ref s), some v_l_sizes_here, some (.int a.2), none, none]) rfl ?_
    refine q_setL (σ' := fun v => [some (.ref s), some v_l_sizes_here, some (.int a.2), some v, none]) (el_lst (ea_nilD (K := K))) ok (fun _ => rfl) (fun p_l_found vs_l_found G H s1 ok hn hd_l_found => ?_)
    have h_l_sizes_here := dp_up s1 _ h_l_sizes_here
    have sg := sg.trans s1
    have n_l_store_l_found : s ≠ p_l_found := ne_of_none hs hn
    have n_l_found_l_store := n_l_store_l_found.symm
    have h0_l_found : M0 p_l_found = none := hB_none (M := M0) hB hs hn
    have hd_l_found : DqAll K G vs_l_found (([] : (List (List Int))).map (eT Dat.int)) := hd_l_found
    have ok : Ok _ (upd M0 p_l_found (.lst vs_l_found)) _ := ok
    have hs : (upd M0 p_l_found (.lst vs_l_found)) s = some (sto z) := (up_ne n_l_store_l_found hs)
    have hB : ∀ a u, a ≠ s → M0 a = some u → (upd M0 p_l_found (.lst vs_l_found)) a = some u := (hB_own hB h0_l_found)
    have hp_l_found : (upd M0 p_l_found (.lst vs_l_found)) p_l_found = some (.lst vs_l_found) := upd_same
    obtain ⟨M, eM⟩ : ∃ m, m = (upd M0 p_l_found (.lst vs_l_found)) := ⟨_, rfl⟩
    rw [← eM] at ok hs hB hp_l_found
    clear eM
    obtain ⟨t1, e_t1, hm⟩ := bs hm
    obtain ⟨t2, e_t2, hm⟩ := bs hm
    obtain ⟨fin3, e_fin3, hm⟩ := bs hm
    have hmo6 := hm
    refine q_forO (ea := Dat.int) (src_rngO e_t2 (ea_d (ev_callD (a := (a.2 + (1 : Int))) (r := t1.1) (z' := t1.2) hs e_t1 (ea_cons mo_ow (ev_own rfl) (ea_d (ev_add (ev_d (K := K) rfl (.int _)) (ev_int (K := K))) ea_nil))) ea_nil)) ok (fun (st4 : (List (List Int)) × Sto) σ1 G1 M1 => ∃ (y_l_turn : Option V) (vs_l_found : List V), σ1 = [some (.ref s), some v_l_sizes_here, some (.int a.2), some (.ref p_l_found), y_l_turn] ∧ (DqAll K G1 vs_l_found (st4.1.map (eT Dat.int))) ∧ (M1 p_l_found = some (.lst vs_l_found)) ∧ (M1 s = some (sto st4.2)) ∧ (∀ a u, a ≠ s → M0 a = some u → M1 a = some u)) e_fin3 (fun G1 s1 => ⟨_, _, rfl, dpAll_up s1 _ hd_l_found, (up_ne n_l_found_l_store hp_l_found), upd_same, (hB_draw hB)⟩) (by rintro _ _ _ _ _ ⟨y_l_turn, vs_l_found, rfl, hd_l_found, hp_l_found, hs, hB⟩ s2; exact ⟨_, _, rfl, dpAll_up s2 _ hd_l_found, hp_l_found, hs, hB⟩) (fun x5 xv8 st4 st' σ1 G M H N hm hj s1 ok hv hN => ?_) (fun σ1 G M H s1 ok hj => ?_)
    · obtain ⟨y_l_turn, vs_l_found, rfl, hd_l_found, hp_l_found, hs, hB⟩ := hj
      have h_l_sizes_here := dp_up s1 _ h_l_sizes_here
      have sg := sg.trans s1
      have sl9 := Same.refl G
      refine gn ?_
      have h_l_turn := hv
      cases h_l_turn
      refine nrm (σ' := [some (.ref s), some v_l_sizes_here, some (.int a.2), some (.ref p_l_found), some (.int x5)]) rfl ?_
      obtain ⟨t10, e_t10, hm⟩ := bs hm
      obtain ⟨t11, e_t11, hm⟩ := bs hm
      obtain ⟨hl_t11, ea_t11⟩ := appO_of e_t11
      refine q_append (ev_own rfl) (ea_d (ev_callD (a := a.1) (r := t10.1) (z' := t10.2) hs e_t10 (ea_cons mo_ow (ev_own rfl) (ea_d (ev_d (K := K) rfl h_l_sizes_here) ea_nil))) ea_nil) hp_l_found (up_ne n_l_found_l_store hp_l_found) (by rw [dpAll_len hd_l_found, List.length_map]; exact szlt hl_t11) ok (fun v G H s1 ok hv => ?_)
      have h_l_sizes_here := dp_up s1 _ h_l_sizes_here
      have hd_l_found := dpAll_up s1 _ hd_l_found
      have sg := sg.trans s1
      have sl9 := sl9.trans s1
      have hd_l_found : DqAll K G (vs_l_found ++ [v]) (t11.map (eT Dat.int)) := by rw [ea_t11, List.map_append]; exact dpAll_app hd_l_found (.cons hv .nil)
      have ok : Ok _ (upd (upd M s (sto t10.2)) p_l_found (.lst (vs_l_found ++ [v]))) _ := ok
      have hs : (upd (upd M s (sto t10.2)) p_l_found (.lst (vs_l_found ++ [v]))) s = some (sto t10.2) := (up_ne n_l_store_l_found upd_same)
      have hB : ∀ a u, a ≠ s → M0 a = some u → (upd (upd M s (sto t10.2)) p_l_found (.lst (vs_l_found ++ [v]))) a = some u := (hB_own (hB_draw hB) h0_l_found)
      have hp_l_found : (upd (upd M s (sto t10.2)) p_l_found (.lst (vs_l_found ++ [v]))) p_l_found = some (.lst (vs_l_found ++ [v])) := upd_same
      obtain ⟨M, eM⟩ : ∃ m, m = (upd (upd M s (sto t10.2)) p_l_found (.lst (vs_l_found ++ [v]))) := ⟨_, rfl⟩
      rw [← eM] at ok hs hB hp_l_found
      clear eM
      obtain ⟨vs_l_found, e_vs⟩ : ∃ m, m = (vs_l_found ++ [v]) := ⟨_, rfl⟩
      rw [← e_vs] at hp_l_found hd_l_found
      clear e_vs
      obtain ⟨t12, e_t12, hm⟩ := bs hm
      refine q_if (et_test (ev_eqI (ev_callD (a := (6 : Int)) (r := t12.1) (z' := t12.2) hs e_t12 (ea_cons mo_ow (ev_own rfl) (ea_d (ev_int (K := K)) ea_nil))) (ev_int (K := K)))) ok (fun hb G H s1 ok => ?_) (fun hb G H s1 ok => ?_)
      · have hm := cond_t hb hm
        have h_l_sizes_here := dp_up s1 _ h_l_sizes_here
        have hd_l_found := dpAll_up s1 _ hd_l_found
        have sg := sg.trans s1
        have sl9 := sl9.trans s1
        have ok : Ok _ (upd M s (sto t12.2)) _ := ok
        have hs : (upd M s (sto t12.2)) s = some (sto t12.2) := upd_same
        have hB : ∀ a u, a ≠ s → M0 a = some u → (upd M s (sto t12.2)) a = some u := (hB_draw hB)
        have hp_l_found : (upd M s (sto t12.2)) p_l_found = some (.lst vs_l_found) := (up_ne n_l_found_l_store hp_l_found)
        obtain ⟨M, eM⟩ : ∃ m, m = (upd M s (sto t12.2)) := ⟨_, rfl⟩
        rw [← eM] at ok hs hB hp_l_found
        clear eM
        obtain ⟨t13, e_t13, hm⟩ := bs hm
        obtain ⟨t14, e_t14, hm⟩ := bs hm
        obtain ⟨t15, e_t15, hm⟩ := bs hm
        obtain ⟨j16, hj_j16, ej_j16⟩ := setO_of e_t15
        have hj_j16 : ixN vs_l_found.length (-(1 : Int)) = some j16 := by rw [dpAll_len hd_l_found, List.length_map]; exact hj_j16
        refine q_setItem (ev_ixOM (e := (eT Dat.int)) e_t14 (up_ne n_l_found_l_store hp_l_found) hd_l_found (ev_own rfl) (ev_callD (a := (t11.length : Int)) (r := t13.1) (z' := t13.2) hs e_t13 (ea_cons mo_ow (ev_own rfl) (ea_d (ev_lenOM (e := (eT Dat.int)) hp_l_found hd_l_found (ea_cons mo_ow (ev_own rfl) ea_nil)) ea_nil)))) (ev_own rfl) (ev_neg (ev_int (K := K))) (up_ne n_l_found_l_store hp_l_found) hj_j16 ok (fun v G H s1 ok hv => ?_)
        have h_l_sizes_here := dp_up s1 _ h_l_sizes_here
        have hd_l_found := dpAll_up s1 _ hd_l_found
        have sg := sg.trans s1
        have sl9 := sl9.trans s1
        have hd_l_found : DqAll K G (vs_l_found.set j16 v) (t15.map (eT Dat.int)) := by rw [ej_j16, List.map_set]; exact dpAll_set _ hv hd_l_found
        have ok : Ok _ (upd (upd M s (sto t13.2)) p_l_found (.lst (vs_l_found.set j16 v))) _ := ok
        have hs : (upd (upd M s (sto t13.2)) p_l_found (.lst (vs_l_found.set j16 v))) s = some (sto t13.2) := (up_ne n_l_store_l_found upd_same)
        have hB : ∀ a u, a ≠ s → M0 a = some u → (upd (upd M s (sto t13.2)) p_l_found (.lst (vs_l_found.set j16 v))) a = some u := (hB_own (hB_draw hB) h0_l_found)
        have hp_l_found : (upd (upd M s (sto t13.2)) p_l_found (.lst (vs_l_found.set j16 v))) p_l_found = some (.lst (vs_l_found.set j16 v)) := upd_same
        obtain ⟨M, eM⟩ : ∃ m, m = (upd (upd M s (sto t13.2)) p_l_found (.lst (vs_l_found.set j16 v))) := ⟨_, rfl⟩
        rw [← eM] at ok hs hB hp_l_found
        clear eM
        obtain ⟨vs_l_found, e_vs⟩ : ∃ m, m = (vs_l_found.set j16 v) := ⟨_, rfl⟩
        rw [← e_vs] at hp_l_found hd_l_found
        clear e_vs
        refine q_nilU ?_
        refine q_nil ?_
        cases hm
        exact hN _ _ _ _ sl9 ok ⟨_, _, rfl, hd_l_found, hp_l_found, hs, hB⟩
      · have hm := cond_f hb hm
        have h_l_sizes_here := dp_up s1 _ h_l_sizes_here
        have hd_l_found := dpAll_up s1 _ hd_l_found
        have sg := sg.trans s1
        have sl9 := sl9.trans s1
        have ok : Ok _ (upd M s (sto t12.2)) _ := ok
        have hs : (upd M s (sto t12.2)) s = some (sto t12.2) := upd_same
        have hB : ∀ a u, a ≠ s → M0 a = some u → (upd M s (sto t12.2)) a = some u := (hB_draw hB)
        have hp_l_found : (upd M s (sto t12.2)) p_l_found = some (.lst vs_l_found) := (up_ne n_l_found_l_store hp_l_found)
        obtain ⟨M, eM⟩ : ∃ m, m = (upd M s (sto t12.2)) := ⟨_, rfl⟩
        rw [← eM] at ok hs hB hp_l_found
        clear eM
        refine q_nilU ?_
        refine q_nil ?_
        cases hm
        exact hN _ _ _ _ sl9 ok ⟨_, _, rfl, hd_l_found, hp_l_found, hs, hB⟩
    · obtain ⟨y_l_turn, vs_l_found, rfl, hd_l_found, hp_l_found, hs, hB⟩ := hj
      have h_l_sizes_here := dp_up s1 _ h_l_sizes_here
      have sg := sg.trans s1
      refine q_ret (ev_tupO hp_l_found hd_l_found (ea_cons mo_ow (ev_own rfl) ea_nil)) ok (fun v G H s1 ok hv => ?_)
      have sg := sg.trans s1
      cases hm
      exact q v G H sg (ok.less (same_fin hB hs)) hv
/-! ### _law_summed -/
theorem sc__law_summed : FnScope ["_law_sizes_here", "_law_arrows_here", "_law_often", "_law_found", "_law_k", "_law_j"] ["_law_sizes_here", "_law_arrows_here", "_law_often"] (defScope s__law_summed) := ⟨rfl, rfl, rfl, by decide +kernel, rfl, by decide +kernel, by decide +kernel⟩
def a__law_summed (K : PySem.W.Frag) (a : (List Int) × (Bool × List (List Int)) × (Bool × List Int)) : List V → Hp → Prop := conP (DD K ((eT Dat.int) a.1)) (conP (DD K ((eQ (eT Dat.int)) a.2.1)) (conP (DD K ((eQ Dat.int) a.2.2)) (nilP)))
def m__law_summed (a : (List Int) × (Bool × List (List Int)) × (Bool × List Int)) : Option (List Int) :=
  (rngO (a.1.length : Int)).bind fun t1 => (forO (fun (st3 : (List Int)) (x4 : Int) => (rngO (a.2.1.2.length : Int)).bind fun t9 => (lcO (fun x10 : Int => (atI a.2.1.2 x10).bind fun t16 => (atI t16 x4).bind fun t17 => (atI a.2.2.2 x10).bind fun t18 => (mulO t17 t18).bind fun t19 => some t19) t9).bind fun t20 => (atI a.1 x4).bind fun t21 => (modO t20.sum t21).bind fun t22 => (appO st3 t22).bind fun t23 => some t23) t1 ([] : (List Int))).bind fun fin2 => some fin2
abbrev sp__law_summed (K : PySem.W.Frag) : Sp := spP (a__law_summed K) (m__law_summed) fun r => DD K ((eT Dat.int) r)
theorem ok__law_summed {P : Program} {w : World} {K : PySem.W.Frag} {mg : Str → Option Value} {base : Heap} (T : Txt K mg) : FnOk P w K mg base CX0 (1) T.a__law_summed T.d__law_summed ["_law_sizes_here", "_law_arrows_here", "_law_often"] (sp__law_summed K) := by
  refine T.F__law_summed.ok sc__law_summed (fun vs H Q E h => ?_) (fun cdv A outer s0 H vs Q E hr h => ?_)
  · obtain ⟨G, M0, a, r, ok, ⟨v_l_sizes_here, _, rfl, h_l_sizes_here, v_l_arrows_here, _, rfl, h_l_arrows_here, v_l_often, _, rfl, h_l_often, rfl⟩, hm, q⟩ := h
    rfl
  · obtain ⟨G, M0, a, r, ok, ⟨v_l_sizes_here, _, rfl, h_l_sizes_here, v_l_arrows_here, _, rfl, h_l_arrows_here, v_l_often, _, rfl, h_l_often, rfl⟩, hm, q⟩ := h
    unfold m__law_summed at hm
    have sg := Same.refl G
    have hB := Same.refl M0
    refine ⟨_, (pss_cons (ps_set (i := 3) sc__law_summed.nd rfl (.inl rfl) (pe_lst pa_nil)) (pss_cons (ps_for PassesOwn.never rfl (pi_range1 (by rfl) T.n_range (pa_cons (pe_callB (cl_lenK (K := K)) (by rfl) T.n_len (by decide +kernel) (pa_cons (pv 0) pa_nil)) pa_nil)) (pg_name (i := 4) sc__law_summed.nd rfl (.inr rfl)) (pss_cons (ps_expr (pe_bm PySem.F.plainAttrs_list PySem.F.slot_list_append PySem.F.type_list_append mt_append (pv 3) (pa_cons (pe_op op_modN (pe_callB (cr_sumK (K := K) rfl) (by rfl) T.n_sum (by decide +kernel) (pa_cons (pe_lc (own := [("_law_j", 5)]) (g := (gName 5)) (tt := tYes) rfl sc__law_summed.nd (pi_range1 (by rfl) T.n_range (pa_cons (pe_callB (cl_lenK (K := K)) (by rfl) T.n_len (by decide +kernel) (pa_cons (pv 1) pa_nil)) pa_nil)) (blkOk_by (own := [("_law_j", 5)]) (N := ["_law_sizes_here", "_law_arrows_here", "_law_often", "_law_found", "_law_k", "_law_j"]) (sc := defScope s__law_summed) (by decide +kernel)) (fun _ _ _ _ _ => (pg_name (i := 5) sc__law_summed.nd rfl (by first | exact .inl rfl | exact .inr rfl))) (fun _ _ _ _ _ => pts_nil) (fun _ _ _ _ _ => (pe_op op_mulO (pe_ix (ix_tupK (K := K)) (pe_ix (ix_seqK (K := K)) (pv 1) (pv 5) (fun _ _ => rfl)) (pv 4) (fun _ _ => rfl)) (pe_ix (ix_seqK (K := K)) (pv 2) (pv 5) (fun _ _ => rfl))))) pa_nil)) (pe_ix (ix_tupK (K := K)) (pv 0) (pv 4) (fun _ _ => rfl))) pa_nil))) pss_nil)) (pss_cons (ps_ret (pe_callTy (cl_tupleK (K := K)) (by rfl) T.n_tuple (by decide +kernel) (pa_cons (pv 3) pa_nil))) pss_nil))), ?_⟩
    refine nrm (σ' := [some v_l_sizes_here, some v_l_arrows_here, some v_l_often, none, none, none]) rfl ?_
    refine q_setL (σ' := fun v => [some v_l_sizes_here, some v_l_arrows_here, some v_l_often, some v, none, none]) (el_lst (ea_nilD (K := K))) ok (fun _ => rfl) (fun p_l_found vs_l_found G H s1 ok hn hd_l_found => ?_)
    have h_l_sizes_here := dp_up s1 _ h_l_sizes_here
    have h_l_arrows_here := dp_up s1 _ h_l_arrows_here
    have h_l_often := dp_up s1 _ h_l_often
    have sg := sg.trans s1
    have h0_l_found : M0 p_l_found = none := sB_none (M := M0) hB hn
    have hd_l_found : DqAll K G vs_l_found (([] : (List Int)).map Dat.int) := hd_l_found
    have ok : Ok _ (upd M0 p_l_found (.lst vs_l_found)) _ := ok
    have hB : Same M0 (upd M0 p_l_found (.lst vs_l_found)) := (sB_own hB h0_l_found)
    have hp_l_found : (upd M0 p_l_found (.lst vs_l_found)) p_l_found = some (.lst vs_l_found) := upd_same
    obtain ⟨M, eM⟩ : ∃ m, m = (upd M0 p_l_found (.lst vs_l_found)) := ⟨_, rfl⟩
    rw [← eM] at ok hB hp_l_found
    clear eM
    obtain ⟨t1, e_t1, hm⟩ := bs hm
    obtain ⟨fin2, e_fin2, hm⟩ := bs hm
    have hmo5 := hm
    refine q_forO (ea := Dat.int) (src_rngO e_t1 (ea_d (ev_lenTM (e := Dat.int) (ea_d (ev_d (K := K) rfl h_l_sizes_here) ea_nil)) ea_nil)) ok (fun (st3 : (List Int)) σ1 G1 M1 => ∃ (y_l_k : Option V) (vs_l_found : List V), σ1 = [some v_l_sizes_here, some v_l_arrows_here, some v_l_often, some (.ref p_l_found), y_l_k, none] ∧ (DqAll K G1 vs_l_found (st3.map Dat.int)) ∧ (M1 p_l_found = some (.lst vs_l_found)) ∧ (Same M0 M1)) e_fin2 (fun G1 s1 => ⟨_, _, rfl, dpAll_up s1 _ hd_l_found, hp_l_found, hB⟩) (by rintro _ _ _ _ _ ⟨y_l_k, vs_l_found, rfl, hd_l_found, hp_l_found, hB⟩ s2; exact ⟨_, _, rfl, dpAll_up s2 _ hd_l_found, hp_l_found, hB⟩) (fun x4 xv7 st3 st' σ1 G M H N hm hj s1 ok hv hN => ?_) (fun σ1 G M H s1 ok hj => ?_)
    · obtain ⟨y_l_k, vs_l_found, rfl, hd_l_found, hp_l_found, hB⟩ := hj
      have h_l_sizes_here := dp_up s1 _ h_l_sizes_here
      have h_l_arrows_here := dp_up s1 _ h_l_arrows_here
      have h_l_often := dp_up s1 _ h_l_often
      have sg := sg.trans s1
      have sl8 := Same.refl G
      refine gn ?_
      have h_l_k := hv
      cases h_l_k
      refine nrm (σ' := [some v_l_sizes_here, some v_l_arrows_here, some v_l_often, some (.ref p_l_found), some (.int x4), none]) rfl ?_
      obtain ⟨t9, e_t9, hm⟩ := bs hm
      obtain ⟨t20, e_t20, hm⟩ := bs hm
      obtain ⟨t21, e_t21, hm⟩ := bs hm
      obtain ⟨t22, e_t22, hm⟩ := bs hm
      obtain ⟨t23, e_t23, hm⟩ := bs hm
      obtain ⟨hl_t23, ea_t23⟩ := appO_of e_t23
      refine q_append (ev_own rfl) (ea_d (ev_modO e_t22 (ev_sumL (ea_d (EvL.ev (el_lcM (ea := Dat.int) (eb := Dat.int) (xs := t9) (ys := t20) (hf := e_t20) (src_rngO e_t9 (ea_d (ev_lenQ (e := (eT Dat.int)) (q := a.2.1) (ea_d (ev_d (K := K) rfl h_l_arrows_here) ea_nil)) ea_nil)) (fun x10 _ Mx14 _ _ he15 sM13 sG12 hv11 => by (obtain ⟨t16, e_t16, he15⟩ := bs he15); (obtain ⟨t17, e_t17, he15⟩ := bs he15); (obtain ⟨t18, e_t18, he15⟩ := bs he15); (obtain ⟨t19, e_t19, he15⟩ := bs he15); cases he15; exact (tg_name ⟨rfl, (ev_mulO e_t19 (ev_ixTM (e := Dat.int) e_t17 (ev_ixQ (e := (eT Dat.int)) (q := a.2.1) e_t16 (ev_d (K := K) rfl (dp_up sG12 _ h_l_arrows_here)) (ev_d (K := K) rfl hv11)) (ev_d (K := K) rfl (.int _))) (ev_ixQ (e := Dat.int) (q := a.2.2) e_t18 (ev_d (K := K) rfl (dp_up sG12 _ h_l_often)) (ev_d (K := K) rfl hv11)))⟩)))) ea_nil)) (ev_ixTM (e := Dat.int) e_t21 (ev_d (K := K) rfl h_l_sizes_here) (ev_d (K := K) rfl (.int _)))) ea_nil) hp_l_found hp_l_found (by rw [dpAll_len hd_l_found, List.length_map]; exact szlt hl_t23) ok (fun v G H s1 ok hv => ?_)
      have h_l_sizes_here := dp_up s1 _ h_l_sizes_here
      have h_l_arrows_here := dp_up s1 _ h_l_arrows_here
      have h_l_often := dp_up s1 _ h_l_often
      have hd_l_found := dpAll_up s1 _ hd_l_found
      have sg := sg.trans s1
      have sl8 := sl8.trans s1
      have hd_l_found : DqAll K G (vs_l_found ++ [v]) (t23.map Dat.int) := by rw [ea_t23, List.map_append]; exact dpAll_app hd_l_found (.cons hv .nil)
      have ok : Ok _ (upd M p_l_found (.lst (vs_l_found ++ [v]))) _ := ok
      have hB : Same M0 (upd M p_l_found (.lst (vs_l_found ++ [v]))) := (sB_own hB h0_l_found)
      have hp_l_found : (upd M p_l_found (.lst (vs_l_found ++ [v]))) p_l_found = some (.lst (vs_l_found ++ [v])) := upd_same
      obtain ⟨M, eM⟩ : ∃ m, m = (upd M p_l_found (.lst (vs_l_found ++ [v]))) := ⟨_, rfl⟩
      rw [← eM] at ok hB hp_l_found
      clear eM
      obtain ⟨vs_l_found, e_vs⟩ : ∃ m, m = (vs_l_found ++ [v]) := ⟨_, rfl⟩
      rw [← e_vs] at hp_l_found hd_l_found
      clear e_vs
      refine q_nil ?_
      cases hm
      exact hN _ _ _ _ sl8 ok ⟨_, _, rfl, hd_l_found, hp_l_found, hB⟩
    · obtain ⟨y_l_k, vs_l_found, rfl, hd_l_found, hp_l_found, hB⟩ := hj
      have h_l_sizes_here := dp_up s1 _ h_l_sizes_here
      have h_l_arrows_here := dp_up s1 _ h_l_arrows_here
      have h_l_often := dp_up s1 _ h_l_often
      have sg := sg.trans s1
      refine q_ret (ev_tupO hp_l_found hd_l_found (ea_cons mo_ow (ev_own rfl) ea_nil)) ok (fun v G H s1 ok hv => ?_)
      have sg := sg.trans s1
      cases hm
      exact q v G H sg (ok.less hB) hv
/-! ### _law_span -/
theorem sc__law_span : FnScope ["_law_sizes_here", "_law_arrows_here", "_law_found", "_law_arrow_here", "_law_ahead", "_law_here", "_law_size", "_law_old"] ["_law_sizes_here", "_law_arrows_here"] (defScope s__law_span) := ⟨rfl, rfl, rfl, by decide +kernel, rfl, by decide +kernel, by decide +kernel⟩
def a__law_span (K : PySem.W.Frag) (a : (List Int) × (List (List Int))) : List V → Hp → Prop := conP (DD K ((eT Dat.int) a.1)) (conP (DD K ((eT (eT Dat.int)) a.2)) (nilP))
def m__law_span (a : (List Int) × (List (List Int))) : Option (List (List Int)) :=
  (lcO (fun x1 : Int => some (0 : Int)) a.1).bind fun t7 => (forO (fun (st9 : (List (List Int))) (x10 : (List Int)) => (m__law_summed (a.1, (false, ([x10] : (List (List Int)))), (false, ([(1 : Int)] : (List Int))))).bind fun t15 => (whileO (fun (st17 : (List Int) × (List (List Int))) => some (!memB st17.1 st9)) (fun (st17 : (List Int) × (List (List Int))) => (lcO (fun x19 : (List Int) => (m__law_summed (a.1, (false, ([x19, st17.1] : (List (List Int)))), (false, ([(1 : Int), (1 : Int)] : (List Int))))).bind fun t25 => some t25) st9).bind fun t26 => (catO st17.2 t26).bind fun t27 => (m__law_summed (a.1, (false, ([st17.1, x10] : (List (List Int)))), (false, ([(1 : Int), (1 : Int)] : (List Int))))).bind fun t28 => some (t28, t27)) (1000) (t15, st9)).bind fun fin16 => some fin16.2) a.2 ([t7] : (List (List Int)))).bind fun fin8 => some fin8
abbrev sp__law_span (K : PySem.W.Frag) : Sp := spP (a__law_span K) (m__law_span) fun r => DD K ((eL (eT Dat.int)) r)
theorem ok__law_span {P : Program} {w : World} {K : PySem.W.Frag} {mg : Str → Option Value} {base : Heap} (T : Txt K mg) (O__law_summed : FnOk P w K mg base CX0 1 T.a__law_summed T.d__law_summed ["_law_sizes_here", "_law_arrows_here", "_law_often"] (sp__law_summed K)) : FnOk P w K mg base CX0 (2) T.a__law_span T.d__law_span ["_law_sizes_here", "_law_arrows_here"] (sp__law_span K) := by
  refine T.F__law_span.ok sc__law_span (fun vs H Q E h => ?_) (fun cdv A outer s0 H vs Q E hr h => ?_)
  · obtain ⟨G, M0, a, r, ok, ⟨v_l_sizes_here, _, rfl, h_l_sizes_here, v_l_arrows_here, _, rfl, h_l_arrows_here, rfl⟩, hm, q⟩ := h
    rfl
  · obtain ⟨G, M0, a, r, ok, ⟨v_l_sizes_here, _, rfl, h_l_sizes_here, v_l_arrows_here, _, rfl, h_l_arrows_here, rfl⟩, hm, q⟩ := h
    unfold m__law_span at hm
    have sg := Same.refl G
    have hB := Same.refl M0
    refine ⟨_, (pss_cons (ps_set (i := 2) sc__law_span.nd rfl (.inl rfl) (pe_lst (pa_cons (pe_callTy (cl_tupleK (K := K)) (by rfl) T.n_tuple (by decide +kernel) (pa_cons (pe_lc (own := [("_law_size", 6)]) (g := (gName 6)) (tt := tYes) rfl sc__law_span.nd (pi_tupK (K := K) (pv 0)) (blkOk_by (own := [("_law_size", 6)]) (N := ["_law_sizes_here", "_law_arrows_here", "_law_found", "_law_arrow_here", "_law_ahead", "_law_here", "_law_size", "_law_old"]) (sc := defScope s__law_span) (by decide +kernel)) (fun _ _ _ _ _ => (pg_name (i := 6) sc__law_span.nd rfl (by first | exact .inl rfl | exact .inr rfl))) (fun _ _ _ _ _ => pts_nil) (fun _ _ _ _ _ => pe_int)) pa_nil)) pa_nil))) (pss_cons (ps_for PassesOwn.never rfl (pi_tupK (K := K) (pv 1)) (pg_name (i := 3) sc__law_span.nd rfl (.inl rfl)) (pss_cons (ps_asg (pe_tup (pa_cons (pe_callTy (cl_listK (K := K)) (by rfl) T.n_list (by decide +kernel) (pa_cons (pv 2) pa_nil)) (pa_cons (pe_call O__law_summed (hr.mono (by decide)) (by rfl) T.g__law_summed T.F__law_summed.kp T.b__law_summed .nil pass0 (pa_cons (pv 0) (pa_cons (pe_lst (pa_cons (pv 3) pa_nil)) (pa_cons (pe_lst (pa_cons pe_int pa_nil)) pa_nil)))) pa_nil))) (pg_tup rfl (pgs_cons (pg_name (i := 4) sc__law_span.nd rfl (.inl rfl)) (pgs_cons (pg_name (i := 5) sc__law_span.nd rfl (.inr rfl)) pgs_nil)))) (pss_cons (ps_while PassesOwn.never (pt_cmpR (op_notInDK (K := K) hr.un65) (pv 5) (pv 4) (by rfl)) (pss_cons (ps_expr (pe_bm PySem.F.plainAttrs_list PySem.F.slot_list_extend PySem.F.type_list_extend mt_extend (pv 2) (pa_cons (pe_lc (own := [("_law_old", 7)]) (g := (gName 7)) (tt := tYes) rfl sc__law_span.nd (pi_listK (K := K) (pv 4)) (blkOk_by (own := [("_law_old", 7)]) (N := ["_law_sizes_here", "_law_arrows_here", "_law_found", "_law_arrow_here", "_law_ahead", "_law_here", "_law_size", "_law_old"]) (sc := defScope s__law_span) (by decide +kernel)) (fun _ _ _ _ _ => (pg_name (i := 7) sc__law_span.nd rfl (by first | exact .inl rfl | exact .inr rfl))) (fun _ _ _ _ _ => pts_nil) (fun _ _ _ _ _ => (pe_call O__law_summed (hr.mono (by decide)) (by rfl) T.g__law_summed T.F__law_summed.kp T.b__law_summed .nil pass0 (pa_cons (pv 0) (pa_cons (pe_lst (pa_cons (pv 7) (pa_cons (pv 5) pa_nil))) (pa_cons (pe_lst (pa_cons pe_int (pa_cons pe_int pa_nil))) pa_nil)))))) pa_nil))) (pss_cons (ps_set (i := 5) sc__law_span.nd rfl (.inr rfl) (pe_call O__law_summed (hr.mono (by decide)) (by rfl) T.g__law_summed T.F__law_summed.kp T.b__law_summed .nil pass0 (pa_cons (pv 0) (pa_cons (pe_lst (pa_cons (pv 5) (pa_cons (pv 3) pa_nil))) (pa_cons (pe_lst (pa_cons pe_int (pa_cons pe_int pa_nil))) pa_nil))))) pss_nil))) pss_nil))) (pss_cons (ps_ret (pv 2)) pss_nil))), ?_⟩
    refine nrm (σ' := [some v_l_sizes_here, some v_l_arrows_here, none, none, none, none, none, none]) rfl ?_
    obtain ⟨t7, e_t7, hm⟩ := bs hm
    refine q_setL (σ' := fun v => [some v_l_sizes_here, some v_l_arrows_here, some v, none, none, none, none, none]) (el_lst (ea_consD (ev_tupL (ea_d (EvL.ev (el_lcM (ea := Dat.int) (eb := Dat.int) (xs := a.1) (ys := t7) (hf := e_t7) (src_tup (ev_d (K := K) rfl h_l_sizes_here)) (fun x1 _ Mx5 _ _ he6 sM4 sG3 hv2 => by cases he6; exact (tg_name ⟨rfl, (ev_int (K := K))⟩)))) ea_nil)) (ea_nilD (K := K)))) ok (fun _ => rfl) (fun p_l_found vs_l_found G H s1 ok hn hd_l_found => ?_)
    have h_l_sizes_here := dp_up s1 _ h_l_sizes_here
    have h_l_arrows_here := dp_up s1 _ h_l_arrows_here
    have sg := sg.trans s1
    have h0_l_found : M0 p_l_found = none := sB_none (M := M0) hB hn
    have hd_l_found : DqAll K G vs_l_found (([t7] : (List (List Int))).map (eT Dat.int)) := hd_l_found
    have ok : Ok _ (upd M0 p_l_found (.lst vs_l_found)) _ := ok
    have hB : Same M0 (upd M0 p_l_found (.lst vs_l_found)) := (sB_own hB h0_l_found)
    have hp_l_found : (upd M0 p_l_found (.lst vs_l_found)) p_l_found = some (.lst vs_l_found) := upd_same
    obtain ⟨M, eM⟩ : ∃ m, m = (upd M0 p_l_found (.lst vs_l_found)) := ⟨_, rfl⟩
    rw [← eM] at ok hB hp_l_found
    clear eM
    obtain ⟨fin8, e_fin8, hm⟩ := bs hm
    have hmo11 := hm
    refine q_forO (ea := (eT Dat.int)) (src_tup (ev_d (K := K) rfl h_l_arrows_here)) ok (fun (st9 : (List (List Int))) σ1 G1 M1 => ∃ (y_l_ahead : Option V) (y_l_here : Option V) (y_l_arrow_here : Option V) (vs_l_found : List V), σ1 = [some v_l_sizes_here, some v_l_arrows_here, some (.ref p_l_found), y_l_arrow_here, y_l_ahead, y_l_here, none, none] ∧ (DqAll K G1 vs_l_found (st9.map (eT Dat.int))) ∧ (M1 p_l_found = some (.lst vs_l_found)) ∧ (Same M0 M1)) e_fin8 (fun G1 s1 => ⟨_, _, _, _, rfl, dpAll_up s1 _ hd_l_found, hp_l_found, hB⟩) (by rintro _ _ _ _ _ ⟨y_l_ahead, y_l_here, y_l_arrow_here, vs_l_found, rfl, hd_l_found, hp_l_found, hB⟩ s2; exact ⟨_, _, _, _, rfl, dpAll_up s2 _ hd_l_found, hp_l_found, hB⟩) (fun x10 xv13 st9 st' σ1 G M H N hm hj s1 ok hv hN => ?_) (fun σ1 G M H s1 ok hj => ?_)
    · obtain ⟨y_l_ahead, y_l_here, y_l_arrow_here, vs_l_found, rfl, hd_l_found, hp_l_found, hB⟩ := hj
      have h_l_sizes_here := dp_up s1 _ h_l_sizes_here
      have h_l_arrows_here := dp_up s1 _ h_l_arrows_here
      have sg := sg.trans s1
      have sl14 := Same.refl G
      refine gn ?_
      have h_l_arrow_here := hv
      refine nrm (σ' := [some v_l_sizes_here, some v_l_arrows_here, some (.ref p_l_found), some xv13, y_l_ahead, y_l_here, none, none]) rfl ?_
      obtain ⟨t15, e_t15, hm⟩ := bs hm
      refine q_tupDD (σ' := fun v w => [some v_l_sizes_here, some v_l_arrows_here, some (.ref p_l_found), some xv13, some v, some w, none, none]) (EvL.ev (el_listO hp_l_found hd_l_found (ea_cons mo_ow (ev_own rfl) ea_nil))) mo_dd (ev_callP (a := (a.1, (false, ([x10] : (List (List Int)))), (false, ([(1 : Int)] : (List Int))))) e_t15 (ea_d (ev_d (K := K) rfl h_l_sizes_here) (ea_d (EvL.ev (el_lst (ea_consD (ev_d (K := K) rfl h_l_arrow_here) (ea_nilD (K := K))))) (ea_d (EvL.ev (el_lst (ea_consD (ev_int (K := K)) (ea_nilD (K := K))))) ea_nil)))) mo_dd ok (fun _ _ => rfl) (fun v_l_ahead v_l_here G H s1 ok h_l_ahead h_l_here => ?_)
      have h_l_sizes_here := dp_up s1 _ h_l_sizes_here
      have h_l_arrows_here := dp_up s1 _ h_l_arrows_here
      have hd_l_found := dpAll_up s1 _ hd_l_found
      have h_l_arrow_here := dp_up s1 _ h_l_arrow_here
      have sg := sg.trans s1
      have sl14 := sl14.trans s1
      obtain ⟨fin16, e_fin16, hm⟩ := bs hm
      refine q_whileO ok (fun (st17 : (List Int) × (List (List Int))) σ1 G1 M1 => ∃ (v_l_here : V) (vs_l_found : List V), σ1 = [some v_l_sizes_here, some v_l_arrows_here, some (.ref p_l_found), some xv13, some v_l_ahead, some v_l_here, none, none] ∧ (Dq K G1 v_l_here ((eT Dat.int) st17.1)) ∧ (DqAll K G1 vs_l_found (st17.2.map (eT Dat.int))) ∧ (M1 p_l_found = some (.lst vs_l_found)) ∧ (Same M0 M1)) e_fin16 ⟨_, _, rfl, h_l_here, hd_l_found, hp_l_found, hB⟩ (fun st17 b σ1 G M H hm hj s1 ok => ?_) (by rintro _ _ _ _ _ ⟨v_l_here, vs_l_found, rfl, h_l_here, hd_l_found, hp_l_found, hB⟩ s2; exact ⟨_, _, rfl, dp_up s2 _ h_l_here, dpAll_up s2 _ hd_l_found, hp_l_found, hB⟩) (fun st17 st' σ1 G M H N hc hm hj s1 ok hN => ?_) (fun σ1 G M H hc s1 ok hj => ?_)
      · obtain ⟨v_l_here, vs_l_found, rfl, h_l_here, hd_l_found, hp_l_found, hB⟩ := hj
        have h_l_sizes_here := dp_up s1 _ h_l_sizes_here
        have h_l_arrows_here := dp_up s1 _ h_l_arrows_here
        have h_l_arrow_here := dp_up s1 _ h_l_arrow_here
        have h_l_ahead := dp_up s1 _ h_l_ahead
        have sg := sg.trans s1
        have sl14 := sl14.trans s1
        cases hm
        exact (et_test (ev_notInE (e := (eT Dat.int)) (x := st17.1) (xs := st9) (eqe_T eqe_int) (by decide) (ev_d (K := K) rfl h_l_here) (ev_d (K := K) rfl h_l_ahead)))
      · obtain ⟨v_l_here, vs_l_found, rfl, h_l_here, hd_l_found, hp_l_found, hB⟩ := hj
        have h_l_sizes_here := dp_up s1 _ h_l_sizes_here
        have h_l_arrows_here := dp_up s1 _ h_l_arrows_here
        have h_l_arrow_here := dp_up s1 _ h_l_arrow_here
        have h_l_ahead := dp_up s1 _ h_l_ahead
        have sg := sg.trans s1
        have sl14 := sl14.trans s1
        have sl18 := Same.refl G
        obtain ⟨t26, e_t26, hm⟩ := bs hm
        obtain ⟨t27, e_t27, hm⟩ := bs hm
        obtain ⟨hl_t27, ea_t27⟩ := catO_of e_t27
        refine q_extend (ev_own rfl) (ea_d (EvL.ev (el_lcM (ea := (eT Dat.int)) (eb := (eT Dat.int)) (xs := st9) (ys := t26) (hf := e_t26) (src_list (ev_d (K := K) rfl h_l_ahead)) (fun x19 _ Mx23 _ _ he24 sM22 sG21 hv20 => by (obtain ⟨t25, e_t25, he24⟩ := bs he24); cases he24; exact (tg_name ⟨rfl, (ev_callP (a := (a.1, (false, ([x19, st17.1] : (List (List Int)))), (false, ([(1 : Int), (1 : Int)] : (List Int))))) e_t25 (ea_d (ev_d (K := K) rfl (dp_up sG21 _ h_l_sizes_here)) (ea_d (EvL.ev (el_lst (ea_consD (ev_d (K := K) rfl hv20) (ea_consD (ev_d (K := K) rfl (dp_up sG21 _ h_l_here)) (ea_nilD (K := K)))))) (ea_d (EvL.ev (el_lst (ea_consD (ev_int (K := K)) (ea_consD (ev_int (K := K)) (ea_nilD (K := K)))))) ea_nil))))⟩)))) ea_nil) hp_l_found hp_l_found (by rw [dpAll_len hd_l_found, List.length_map, List.length_map]; exact szl hl_t27) ok (fun ws G H s1 ok hv => ?_)
        have h_l_sizes_here := dp_up s1 _ h_l_sizes_here
        have h_l_arrows_here := dp_up s1 _ h_l_arrows_here
        have hd_l_found := dpAll_up s1 _ hd_l_found
        have h_l_arrow_here := dp_up s1 _ h_l_arrow_here
        have h_l_ahead := dp_up s1 _ h_l_ahead
        have h_l_here := dp_up s1 _ h_l_here
        have sg := sg.trans s1
        have sl18 := sl18.trans s1
        have sl14 := sl14.trans s1
        have hd_l_found : DqAll K G (vs_l_found ++ ws) (t27.map (eT Dat.int)) := by rw [ea_t27, List.map_append]; exact dpAll_app hd_l_found hv
        have ok : Ok _ (upd M p_l_found (.lst (vs_l_found ++ ws))) _ := ok
        have hB : Same M0 (upd M p_l_found (.lst (vs_l_found ++ ws))) := (sB_own hB h0_l_found)
        have hp_l_found : (upd M p_l_found (.lst (vs_l_found ++ ws))) p_l_found = some (.lst (vs_l_found ++ ws)) := upd_same
        obtain ⟨M, eM⟩ : ∃ m, m = (upd M p_l_found (.lst (vs_l_found ++ ws))) := ⟨_, rfl⟩
        rw [← eM] at ok hB hp_l_found
        clear eM
        obtain ⟨vs_l_found, e_vs⟩ : ∃ m, m = (vs_l_found ++ ws) := ⟨_, rfl⟩
        rw [← e_vs] at hp_l_found hd_l_found
        clear e_vs
        obtain ⟨t28, e_t28, hm⟩ := bs hm
        refine q_set (σ' := fun v => [some v_l_sizes_here, some v_l_arrows_here, some (.ref p_l_found), some xv13, some v_l_ahead, some v, none, none]) (ev_callP (a := (a.1, (false, ([st17.1, x10] : (List (List Int)))), (false, ([(1 : Int), (1 : Int)] : (List Int))))) e_t28 (ea_d (ev_d (K := K) rfl h_l_sizes_here) (ea_d (EvL.ev (el_lst (ea_consD (ev_d (K := K) rfl h_l_here) (ea_consD (ev_d (K := K) rfl h_l_arrow_here) (ea_nilD (K := K)))))) (ea_d (EvL.ev (el_lst (ea_consD (ev_int (K := K)) (ea_consD (ev_int (K := K)) (ea_nilD (K := K)))))) ea_nil)))) ok (fun _ => rfl) (fun v_l_here G H s1 ok h_l_here => ?_)
        have h_l_sizes_here := dp_up s1 _ h_l_sizes_here
        have h_l_arrows_here := dp_up s1 _ h_l_arrows_here
        have hd_l_found := dpAll_up s1 _ hd_l_found
        have h_l_arrow_here := dp_up s1 _ h_l_arrow_here
        have h_l_ahead := dp_up s1 _ h_l_ahead
        have sg := sg.trans s1
        have sl18 := sl18.trans s1
        have sl14 := sl14.trans s1
        refine q_nil ?_
        cases hm
        exact hN _ _ _ _ sl18 ok ⟨_, _, rfl, h_l_here, hd_l_found, hp_l_found, hB⟩
      · obtain ⟨v_l_here, vs_l_found, rfl, h_l_here, hd_l_found, hp_l_found, hB⟩ := hj
        have h_l_sizes_here := dp_up s1 _ h_l_sizes_here
        have h_l_arrows_here := dp_up s1 _ h_l_arrows_here
        have h_l_arrow_here := dp_up s1 _ h_l_arrow_here
        have h_l_ahead := dp_up s1 _ h_l_ahead
        have sg := sg.trans s1
        have sl14 := sl14.trans s1
        refine q_nil ?_
        cases hm
        exact hN _ _ _ _ sl14 ok ⟨_, _, _, _, rfl, hd_l_found, hp_l_found, hB⟩
    · obtain ⟨y_l_ahead, y_l_here, y_l_arrow_here, vs_l_found, rfl, hd_l_found, hp_l_found, hB⟩ := hj
      have h_l_sizes_here := dp_up s1 _ h_l_sizes_here
      have h_l_arrows_here := dp_up s1 _ h_l_arrows_here
      have sg := sg.trans s1
      refine q_ret (ev_own rfl) ok (fun v G H s1 ok hv => ?_)
      have sg := sg.trans s1
      have hd_l_found := dpAll_up s1 _ hd_l_found
      cases hv
      have gp : G p_l_found = none := ok.d _ _ hp_l_found
      cases hm
      exact q _ (upd G p_l_found (.lst vs_l_found)) H (sg.trans (Same.new gp)) (ok.giveL hp_l_found h0_l_found hB) (.lst upd_same (dpAll_up (Same.new gp) _ hd_l_found))
/-! ### _law_shared -/
theorem sc__law_shared : FnScope ["_law_figure", "_law_size"] ["_law_figure", "_law_size"] (defScope s__law_shared) := ⟨rfl, rfl, rfl, by decide +kernel, rfl, by decide +kernel, by decide +kernel⟩
def a__law_shared (K : PySem.W.Frag) (a : Int × Int) : List V → Hp → Prop := conP (DD K (Dat.int a.1)) (conP (DD K (Dat.int a.2)) (nilP))
def m__law_shared (a : Int × Int) : Option Int :=
  (whileO (fun (st2 : Int × Int) => some (decide ((0 : Int) < st2.2))) (fun (st2 : Int × Int) => (modO st2.1 st2.2).bind fun t4 => some (st2.2, t4)) ((a.2).toNat + 1) (a.1, a.2)).bind fun fin1 => some fin1.1
abbrev sp__law_shared (K : PySem.W.Frag) : Sp := spP (a__law_shared K) (m__law_shared) fun r => DD K (Dat.int r)
theorem ok__law_shared {P : Program} {w : World} {K : PySem.W.Frag} {mg : Str → Option Value} {base : Heap} (T : Txt K mg) : FnOk P w K mg base CX0 (1) T.a__law_shared T.d__law_shared ["_law_figure", "_law_size"] (sp__law_shared K) := by
  refine T.F__law_shared.ok sc__law_shared (fun vs H Q E h => ?_) (fun cdv A outer s0 H vs Q E hr h => ?_)
  · obtain ⟨G, M0, a, r, ok, ⟨v_l_figure, _, rfl, h_l_figure, v_l_size, _, rfl, h_l_size, rfl⟩, hm, q⟩ := h
    rfl
  · obtain ⟨G, M0, a, r, ok, ⟨v_l_figure, _, rfl, h_l_figure, v_l_size, _, rfl, h_l_size, rfl⟩, hm, q⟩ := h
    unfold m__law_shared at hm
    have sg := Same.refl G
    have hB := Same.refl M0
    refine ⟨_, (pss_cons (ps_while PassesOwn.never (pt_cmpR op_gt (pv 1) pe_int (nomark _)) (pss_cons (ps_par (i := 0) (j := 1) rfl sc__law_shared.nd rfl rfl (by decide) rfl rfl (pa_cons (pv 1) (pa_cons (pe_op op_modN (pv 0) (pv 1)) pa_nil)) (by rfl)) pss_nil)) (pss_cons (ps_ret (pv 0)) pss_nil)), ?_⟩
    cases h_l_figure
    cases h_l_size
    refine nrm (σ' := [some (.int a.1), some (.int a.2)]) rfl ?_
    obtain ⟨fin1, e_fin1, hm⟩ := bs hm
    refine q_whileO ok (fun (st2 : Int × Int) σ1 G1 M1 => σ1 = [some (.int st2.1), some (.int st2.2)] ∧ (Same M0 M1)) e_fin1 ⟨rfl, hB⟩ (fun st2 b σ1 G M H hm hj s1 ok => ?_) (by rintro _ _ _ _ _ ⟨rfl, hB⟩ s2; exact ⟨rfl, hB⟩) (fun st2 st' σ1 G M H N hc hm hj s1 ok hN => ?_) (fun σ1 G M H hc s1 ok hj => ?_)
    · obtain ⟨rfl, hB⟩ := hj
      have sg := sg.trans s1
      cases hm
      exact (et_test (ev_gt (ev_d (K := K) rfl (.int _)) (ev_int (K := K))))
    · obtain ⟨rfl, hB⟩ := hj
      have sg := sg.trans s1
      have sl3 := Same.refl G
      obtain ⟨t4, e_t4, hm⟩ := bs hm
      refine q_par (σ' := fun v w => [some v, some w]) (ea_d (ev_d (K := K) rfl (.int _)) (ea_d (ev_modO e_t4 (ev_d (K := K) rfl (.int _)) (ev_d (K := K) rfl (.int _))) ea_nil)) ok (fun _ _ => rfl) (fun v_l_figure v_l_size G H s1 ok h_l_figure h_l_size => ?_)
      have sg := sg.trans s1
      have sl3 := sl3.trans s1
      cases h_l_figure
      cases h_l_size
      refine q_nil ?_
      cases hm
      exact hN _ _ _ _ sl3 ok ⟨rfl, hB⟩
    · obtain ⟨rfl, hB⟩ := hj
      have sg := sg.trans s1
      refine q_ret (ev_d (K := K) rfl (.int _)) ok (fun v G H s1 ok hv => ?_)
      have sg := sg.trans s1
      cases hm
      exact q v G H sg (ok.less hB) hv
/-! ### _law_great_right -/
theorem sc__law_great_right : FnScope ["_law_store", "_law_sizes_here", "_law_steps", "_law_arrows_here", "_law_many", "_law_turn", "_law_at", "_law_figure", "_law_k", "_law_arrow_here", "_law_due"] ["_law_store"] (defScope s__law_great_right) := ⟨rfl, rfl, rfl, by decide +kernel, rfl, by decide +kernel, by decide +kernel⟩
def a__law_great_right (K : PySem.W.Frag) (a : Unit) : List V → Hp → Prop := nilP
def m__law_great_right (a : Unit) (z : Sto) : Option (Bool × Sto) :=
  (rngO (12 : Int)).bind fun t1 => (lcS (fun (x2 : Int) (x2z : Sto) => (m__law_pull (99 : Int) x2z).bind fun t8 => some (((1 : Int) + t8.1), t8.2)) t1 z).bind fun t9 => (m__law_pull (41 : Int) t9.2).bind fun t10 => (rngO t10.1).bind fun t11 => (forO (fun (st13 : (List Int) × (List (List Int)) × Sto) (x14 : Int) => (m__law_pull (12 : Int) st13.2.2).bind fun t19 => (powO (10 : Int) (9 : Int)).bind fun t20 => (m__law_pull t20 t19.2).bind fun t21 => (powO (10 : Int) (50 : Int)).bind fun t22 => (m__law_pull (99 : Int) t21.2).bind fun t23 => (mulO t22 t23.1).bind fun t24 => (rngO (12 : Int)).bind fun t25 => (lcO (fun x26 : Int => (mulO (t21.1 + t24) (if (decide (x26 = t19.1)) then 1 else 0 : Int)).bind fun t32 => some t32) t25).bind fun t33 => (appO st13.2.1 t33).bind fun t34 => (atI st13.1 t19.1).bind fun t35 => (m__law_shared ((t21.1 + t24), t35)).bind fun t36 => (setO st13.1 t19.1 t36).bind fun t37 => some (t37, t34, t23.2)) t11 (t9.1, ([] : (List (List Int))), t10.2)).bind fun fin12 => (rngO (12 : Int)).bind fun t39 => (forO (fun (st41 : Int) (x42 : Int) => (atI t9.1 x42).bind fun t47 => (atI fin12.1 x42).bind fun t48 => (fdivO t47 t48).bind fun t49 => (mulO st41 t49).bind fun t50 => some t50) t39 (1 : Int)).bind fun fin40 => (rngO (12 : Int)).bind fun t51 => (lcS (fun (x52 : Int) (x52z : Sto) => (powO (10 : Int) (30 : Int)).bind fun t58 => (m__law_pull t58 x52z).bind fun t59 => (powO (10 : Int) (29 : Int)).bind fun t60 => some ((t59.1 - t60), t59.2)) t51 fin12.2.2).bind fun t61 => (rngO (12 : Int)).bind fun t62 => (lcO (fun x63 : Int => (atI t61.1 x63).bind fun t69 => (atI fin12.1 x63).bind fun t70 => (modO t69 t70).bind fun t71 => some t71) t62).bind fun t72 => (m_spanned (t9.1, fin12.2.1)).bind fun t73 => (m__law_same 12 ((Dat.int t73), (Dat.int fin40))).bind fun t74 => cond (!t74) (some (false, t61.2)) ((m_least (t9.1, fin12.2.1, t61.1)).bind fun t75 => (m__law_same 12 (((eT Dat.int) t75), ((eT Dat.int) t72))).bind fun t76 => some (t76, t61.2))
abbrev sp__law_great_right (K : PySem.W.Frag) : Sp := spD (a__law_great_right K) (m__law_great_right) fun r => DD K (Dat.bool r)
theorem ok__law_great_right {P : Program} {w : World} {K : PySem.W.Frag} {mg : Str → Option Value} {base : Heap} (T : Txt K mg) (O__law_pull : FnOk P w K mg base CX0 1 T.a__law_pull T.d__law_pull ["_law_store", "_law_many"] (sp__law_pull K)) (O__law_shared : FnOk P w K mg base CX0 1 T.a__law_shared T.d__law_shared ["_law_figure", "_law_size"] (sp__law_shared K)) (O__law_same : FnOk P w K mg base CX0 13 T.a__law_same T.d__law_same ["_law_found", "_law_due"] (sp__law_same K 12)) (O_spanned : FnOk P w K mg base CX0 5 T.a_spanned T.d_spanned ["moduli", "vectors"] (sp_spanned K)) (O_least : FnOk P w K mg base CX0 6 T.a_least T.d_least ["moduli", "vectors", "vector"] (sp_least K)) : FnOk P w K mg base CX0 (14) T.a__law_great_right T.d__law_great_right ["_law_store"] (sp__law_great_right K) := by
  refine T.F__law_great_right.ok sc__law_great_right (fun vs H Q E h => ?_) (fun cdv A outer s0 H vs Q E hr h => ?_)
  · obtain ⟨G, M0, s, z, z1, a, r, ws, rfl, ok, hs, rfl, hm, q⟩ := h
    rfl
  · obtain ⟨G, M0, s, z, z1, a, r, ws, rfl, ok, hs, rfl, hm, q⟩ := h
    unfold m__law_great_right at hm
    have sg := Same.refl G
    have hB : ∀ a u, a ≠ s → M0 a = some u → M0 a = some u := fun _ _ _ h => h
    refine ⟨_, (pss_cons (ps_set (i := 1) sc__law_great_right.nd rfl (.inl rfl) (pe_callTy (cl_tupleK (K := K)) (by rfl) T.n_tuple (by decide +kernel) (pa_cons (pe_lc (own := [("_law_turn", 5)]) (g := (gName 5)) (tt := tYes) rfl sc__law_great_right.nd (pi_range1 (by rfl) T.n_range (pa_cons pe_int pa_nil)) (blkOk_by (own := [("_law_turn", 5)]) (N := ["_law_store", "_law_sizes_here", "_law_steps", "_law_arrows_here", "_law_many", "_law_turn", "_law_at", "_law_figure", "_law_k", "_law_arrow_here", "_law_due"]) (sc := defScope s__law_great_right) (by decide +kernel)) (fun _ _ _ _ _ => (pg_name (i := 5) sc__law_great_right.nd rfl (by first | exact .inl rfl | exact .inr rfl))) (fun _ _ _ _ _ => pts_nil) (fun _ _ _ _ _ => (pe_op op_add pe_int (pe_call O__law_pull (hr.mono (by decide)) (by rfl) T.g__law_pull T.F__law_pull.kp T.b__law_pull .nil pass0 (pa_cons (pv 0) (pa_cons pe_int pa_nil)))))) pa_nil))) (pss_cons (ps_asg (pe_tup (pa_cons (pe_callTy (cl_listK (K := K)) (by rfl) T.n_list (by decide +kernel) (pa_cons (pv 1) pa_nil)) (pa_cons (pe_lst pa_nil) (pa_cons pe_int pa_nil)))) (pg_tup rfl (pgs_cons (pg_name (i := 2) sc__law_great_right.nd rfl (.inr rfl)) (pgs_cons (pg_name (i := 3) sc__law_great_right.nd rfl (.inl rfl)) (pgs_cons (pg_name (i := 4) sc__law_great_right.nd rfl (.inl rfl)) pgs_nil))))) (pss_cons (ps_for PassesOwn.never rfl (pi_range1 (by rfl) T.n_range (pa_cons (pe_call O__law_pull (hr.mono (by decide)) (by rfl) T.g__law_pull T.F__law_pull.kp T.b__law_pull .nil pass0 (pa_cons (pv 0) (pa_cons pe_int pa_nil))) pa_nil)) (pg_name (i := 5) sc__law_great_right.nd rfl (.inl rfl)) (pss_cons (ps_asg (pe_tup (pa_cons (pe_call O__law_pull (hr.mono (by decide)) (by rfl) T.g__law_pull T.F__law_pull.kp T.b__law_pull .nil pass0 (pa_cons (pv 0) (pa_cons pe_int pa_nil))) (pa_cons (pe_op op_add (pe_call O__law_pull (hr.mono (by decide)) (by rfl) T.g__law_pull T.F__law_pull.kp T.b__law_pull .nil pass0 (pa_cons (pv 0) (pa_cons (pe_op op_pow pe_int pe_int) pa_nil))) (pe_op op_mulO (pe_op op_pow pe_int pe_int) (pe_call O__law_pull (hr.mono (by decide)) (by rfl) T.g__law_pull T.F__law_pull.kp T.b__law_pull .nil pass0 (pa_cons (pv 0) (pa_cons pe_int pa_nil))))) pa_nil))) (pg_tup rfl (pgs_cons (pg_name (i := 6) sc__law_great_right.nd rfl (.inr rfl)) (pgs_cons (pg_name (i := 7) sc__law_great_right.nd rfl (.inr rfl)) pgs_nil)))) (pss_cons (ps_expr (pe_bm PySem.F.plainAttrs_list PySem.F.slot_list_append PySem.F.type_list_append mt_append (pv 3) (pa_cons (pe_callTy (cl_tupleK (K := K)) (by rfl) T.n_tuple (by decide +kernel) (pa_cons (pe_lc (own := [("_law_k", 8)]) (g := (gName 8)) (tt := tYes) rfl sc__law_great_right.nd (pi_range1 (by rfl) T.n_range (pa_cons pe_int pa_nil)) (blkOk_by (own := [("_law_k", 8)]) (N := ["_law_store", "_law_sizes_here", "_law_steps", "_law_arrows_here", "_law_many", "_law_turn", "_law_at", "_law_figure", "_law_k", "_law_arrow_here", "_law_due"]) (sc := defScope s__law_great_right) (by decide +kernel)) (fun _ _ _ _ _ => (pg_name (i := 8) sc__law_great_right.nd rfl (by first | exact .inl rfl | exact .inr rfl))) (fun _ _ _ _ _ => pts_nil) (fun _ _ _ _ _ => (pe_op op_mulO (pv 7) (pe_callTy cl_int (by rfl) T.n_int (by decide +kernel) (pa_cons (pe_cmpR op_eq (pv 8) (pv 6) (nomark _)) pa_nil))))) pa_nil)) pa_nil))) (pss_cons (ps_asg (pe_call O__law_shared (hr.mono (by decide)) (by rfl) T.g__law_shared T.F__law_shared.kp T.b__law_shared .nil pass0 (pa_cons (pv 7) (pa_cons (pe_ix (ix_listK (K := K)) (pv 2) (pv 6) (fun _ _ => rfl)) pa_nil))) (pg_sub (pv 2) (pv 6) set_list)) pss_nil)))) (pss_cons (ps_for PassesOwn.never rfl (pi_range1 (by rfl) T.n_range (pa_cons pe_int pa_nil)) (pg_name (i := 8) sc__law_great_right.nd rfl (.inl rfl)) (pss_cons (ps_set (i := 4) sc__law_great_right.nd rfl (.inl rfl) (pe_op op_mulO (pv 4) (pe_op op_fdivO (pe_ix (ix_tupK (K := K)) (pv 1) (pv 8) (fun _ _ => rfl)) (pe_ix (ix_listK (K := K)) (pv 2) (pv 8) (fun _ _ => rfl))))) pss_nil)) (pss_cons (ps_set (i := 9) sc__law_great_right.nd rfl (.inr rfl) (pe_callTy (cl_tupleK (K := K)) (by rfl) T.n_tuple (by decide +kernel) (pa_cons (pe_lc (own := [("_law_turn", 5)]) (g := (gName 5)) (tt := tYes) rfl sc__law_great_right.nd (pi_range1 (by rfl) T.n_range (pa_cons pe_int pa_nil)) (blkOk_by (own := [("_law_turn", 5)]) (N := ["_law_store", "_law_sizes_here", "_law_steps", "_law_arrows_here", "_law_many", "_law_turn", "_law_at", "_law_figure", "_law_k", "_law_arrow_here", "_law_due"]) (sc := defScope s__law_great_right) (by decide +kernel)) (fun _ _ _ _ _ => (pg_name (i := 5) sc__law_great_right.nd rfl (by first | exact .inl rfl | exact .inr rfl))) (fun _ _ _ _ _ => pts_nil) (fun _ _ _ _ _ => (pe_op op_sub (pe_call O__law_pull (hr.mono (by decide)) (by rfl) T.g__law_pull T.F__law_pull.kp T.b__law_pull .nil pass0 (pa_cons (pv 0) (pa_cons (pe_op op_pow pe_int pe_int) pa_nil))) (pe_op op_pow pe_int pe_int)))) pa_nil))) (pss_cons (ps_set (i := 10) sc__law_great_right.nd rfl (.inl rfl) (pe_callTy (cl_tupleK (K := K)) (by rfl) T.n_tuple (by decide +kernel) (pa_cons (pe_lc (own := [("_law_k", 8)]) (g := (gName 8)) (tt := tYes) rfl sc__law_great_right.nd (pi_range1 (by rfl) T.n_range (pa_cons pe_int pa_nil)) (blkOk_by (own := [("_law_k", 8)]) (N := ["_law_store", "_law_sizes_here", "_law_steps", "_law_arrows_here", "_law_many", "_law_turn", "_law_at", "_law_figure", "_law_k", "_law_arrow_here", "_law_due"]) (sc := defScope s__law_great_right) (by decide +kernel)) (fun _ _ _ _ _ => (pg_name (i := 8) sc__law_great_right.nd rfl (by first | exact .inl rfl | exact .inr rfl))) (fun _ _ _ _ _ => pts_nil) (fun _ _ _ _ _ => (pe_op op_modN (pe_ix (ix_tupK (K := K)) (pv 9) (pv 8) (fun _ _ => rfl)) (pe_ix (ix_listK (K := K)) (pv 2) (pv 8) (fun _ _ => rfl))))) pa_nil))) (pss_cons (ps_if (pt_not (pt_val (pe_call O__law_same (hr.mono (by decide)) (by rfl) T.g__law_same T.F__law_same.kp T.b__law_same .nil pass0 (pa_cons (pe_call O_spanned (hr.mono (by decide)) (by rfl) T.g_spanned T.F_spanned.kp T.b_spanned .nil pass0 (pa_cons (pv 1) (pa_cons (pe_callTy (cl_tupleK (K := K)) (by rfl) T.n_tuple (by decide +kernel) (pa_cons (pv 3) pa_nil)) pa_nil))) (pa_cons (pv 4) pa_nil))))) (pss_cons (ps_ret pe_bl) pss_nil) pss_nil) (pss_cons (ps_ret (pe_call O__law_same (hr.mono (by decide)) (by rfl) T.g__law_same T.F__law_same.kp T.b__law_same .nil pass0 (pa_cons (pe_call O_least (hr.mono (by decide)) (by rfl) T.g_least T.F_least.kp T.b_least .nil pass0 (pa_cons (pv 1) (pa_cons (pe_callTy (cl_tupleK (K := K)) (by rfl) T.n_tuple (by decide +kernel) (pa_cons (pv 3) pa_nil)) (pa_cons (pv 9) pa_nil)))) (pa_cons (pv 10) pa_nil)))) pss_nil)))))))), ?_⟩
    refine nrm (σ' := [some (.ref s), none, none, none, none, none, none, none, none, none, none]) rfl ?_
    obtain ⟨t1, e_t1, hm⟩ := bs hm
    obtain ⟨t9, e_t9, hm⟩ := bs hm
    refine q_set (σ' := fun v => [some (.ref s), some v, none, none, none, none, none, none, none, none, none]) (ev_tupL (ea_d (EvL.ev (el_lcMD (ea := Dat.int) (eb := Dat.int) (xs := t1) (r := t9) (hf := e_t9) (src_rngO e_t1 (ea_d (ev_int (K := K)) ea_nil)) hs (fun x2 _ x2z _ Mx6 _ _ he7 sM5 hzx2 sG4 hv3 => by (obtain ⟨t8, e_t8, he7⟩ := bs he7); cases he7; exact (tg_name ⟨rfl, (ev_add (ev_int (K := K)) (ev_callD (a := (99 : Int)) (r := t8.1) (z' := t8.2) hzx2 e_t8 (ea_cons mo_ow (ev_own rfl) (ea_d (ev_int (K := K)) ea_nil))))⟩)))) ea_nil)) ok (fun _ => rfl) (fun v_l_sizes_here G H s1 ok h_l_sizes_here => ?_)
    have sg := sg.trans s1
    have ok : Ok _ (upd M0 s (sto t9.2)) _ := ok
    have hs : (upd M0 s (sto t9.2)) s = some (sto t9.2) := upd_same
    have hB : ∀ a u, a ≠ s → M0 a = some u → (upd M0 s (sto t9.2)) a = some u := (hB_draw hB)
    obtain ⟨M, eM⟩ : ∃ m, m = (upd M0 s (sto t9.2)) := ⟨_, rfl⟩
    rw [← eM] at ok hs hB
    clear eM
    refine q_tupX (ex_L (el_listT (ea_d (ev_d (K := K) rfl h_l_sizes_here) ea_nil)) fun p_l_steps vs_l_steps hn_l_steps => (ex_L (el_lst (ea_nilD (K := K))) fun p_l_arrows_here vs_l_arrows_here hn_l_arrows_here => (ex_D mo_dd (ev_int (K := K)) ex_nil))) ok (fun vs G M H s1 ok hx => ?_)
    obtain ⟨p_l_steps, vs_l_steps, _, rfl, hn_l_steps, hd_l_steps, p_l_arrows_here, vs_l_arrows_here, _, rfl, hn_l_arrows_here, hd_l_arrows_here, v_l_many, _, rfl, h_l_many, rfl, rfl⟩ := hx
    refine tup_go3 (K := K) ok fun G H s2 ok => ?_
    have s1 := s1.trans s2
    have hd_l_steps := dpAll_up s2 _ hd_l_steps
    have hd_l_arrows_here := dpAll_up s2 _ hd_l_arrows_here
    have h_l_many := dp_up s2 _ h_l_many
    have h_l_sizes_here := dp_up s1 _ h_l_sizes_here
    have sg := sg.trans s1
    have n_l_store_l_steps : s ≠ p_l_steps := ne_of_none hs hn_l_steps
    have n_l_steps_l_store := n_l_store_l_steps.symm
    have h0_l_steps : M0 p_l_steps = none := hB_none (M := M) hB hs hn_l_steps
    have hd_l_steps : DqAll K G vs_l_steps (t9.1.map Dat.int) := hd_l_steps
    have n_l_steps_l_arrows_here : p_l_steps ≠ p_l_arrows_here := ne_of_none upd_same hn_l_arrows_here
    have n_l_arrows_here_l_steps := n_l_steps_l_arrows_here.symm
    have n_l_store_l_arrows_here : s ≠ p_l_arrows_here := ne_of_none (up_ne n_l_store_l_steps hs) hn_l_arrows_here
    have n_l_arrows_here_l_store := n_l_store_l_arrows_here.symm
    have h0_l_arrows_here : M0 p_l_arrows_here = none := hB_none (M := (upd M p_l_steps (.lst vs_l_steps))) (hB_own hB h0_l_steps) (up_ne n_l_store_l_steps hs) hn_l_arrows_here
    have hd_l_arrows_here : DqAll K G vs_l_arrows_here (([] : (List (List Int))).map (eT Dat.int)) := hd_l_arrows_here
    cases h_l_many
    refine nrm (σ' := [some (.ref s), some v_l_sizes_here, some (.ref p_l_steps), some (.ref p_l_arrows_here), some (.int (1 : Int)), none, none, none, none, none, none]) rfl ?_
    have ok : Ok _ (upd (upd M p_l_steps (.lst vs_l_steps)) p_l_arrows_here (.lst vs_l_arrows_here)) _ := ok
    have hs : (upd (upd M p_l_steps (.lst vs_l_steps)) p_l_arrows_here (.lst vs_l_arrows_here)) s = some (sto t9.2) := (up_ne n_l_store_l_arrows_here (up_ne n_l_store_l_steps hs))
    have hB : ∀ a u, a ≠ s → M0 a = some u → (upd (upd M p_l_steps (.lst vs_l_steps)) p_l_arrows_here (.lst vs_l_arrows_here)) a = some u := (hB_own (hB_own hB h0_l_steps) h0_l_arrows_here)
    have hp_l_steps : (upd (upd M p_l_steps (.lst vs_l_steps)) p_l_arrows_here (.lst vs_l_arrows_here)) p_l_steps = some (.lst vs_l_steps) := (up_ne n_l_steps_l_arrows_here upd_same)
    have hp_l_arrows_here : (upd (upd M p_l_steps (.lst vs_l_steps)) p_l_arrows_here (.lst vs_l_arrows_here)) p_l_arrows_here = some (.lst vs_l_arrows_here) := upd_same
    obtain ⟨M, eM⟩ : ∃ m, m = (upd (upd M p_l_steps (.lst vs_l_steps)) p_l_arrows_here (.lst vs_l_arrows_here)) := ⟨_, rfl⟩
    rw [← eM] at ok hs hB hp_l_steps hp_l_arrows_here
    clear eM
    obtain ⟨t10, e_t10, hm⟩ := bs hm
    obtain ⟨t11, e_t11, hm⟩ := bs hm
    obtain ⟨fin12, e_fin12, hm⟩ := bs hm
    have hmo15 := hm
    refine q_forO (ea := Dat.int) (src_rngO e_t11 (ea_d (ev_callD (a := (41 : Int)) (r := t10.1) (z' := t10.2) hs e_t10 (ea_cons mo_ow (ev_own rfl) (ea_d (ev_int (K := K)) ea_nil))) ea_nil)) ok (fun (st13 : (List Int) × (List (List Int)) × Sto) σ1 G1 M1 => ∃ (y_l_at : Option V) (y_l_figure : Option V) (y_l_turn : Option V) (vs_l_steps : List V) (vs_l_arrows_here : List V), σ1 = [some (.ref s), some v_l_sizes_here, some (.ref p_l_steps), some (.ref p_l_arrows_here), some (.int (1 : Int)), y_l_turn, y_l_at, y_l_figure, none, none, none] ∧ (DqAll K G1 vs_l_steps (st13.1.map Dat.int)) ∧ (M1 p_l_steps = some (.lst vs_l_steps)) ∧ (DqAll K G1 vs_l_arrows_here (st13.2.1.map (eT Dat.int))) ∧ (M1 p_l_arrows_here = some (.lst vs_l_arrows_here)) ∧ (M1 s = some (sto st13.2.2)) ∧ (∀ a u, a ≠ s → M0 a = some u → M1 a = some u)) e_fin12 (fun G1 s1 => ⟨_, _, _, _, _, rfl, dpAll_up s1 _ hd_l_steps, (up_ne n_l_steps_l_store hp_l_steps), dpAll_up s1 _ hd_l_arrows_here, (up_ne n_l_arrows_here_l_store hp_l_arrows_here), upd_same, (hB_draw hB)⟩) (by rintro _ _ _ _ _ ⟨y_l_at, y_l_figure, y_l_turn, vs_l_steps, vs_l_arrows_here, rfl, hd_l_steps, hp_l_steps, hd_l_arrows_here, hp_l_arrows_here, hs, hB⟩ s2; exact ⟨_, _, _, _, _, rfl, dpAll_up s2 _ hd_l_steps, hp_l_steps, dpAll_up s2 _ hd_l_arrows_here, hp_l_arrows_here, hs, hB⟩) (fun x14 xv17 st13 st' σ1 G M H N hm hj s1 ok hv hN => ?_) (fun σ1 G M H s1 ok hj => ?_)
    · obtain ⟨y_l_at, y_l_figure, y_l_turn, vs_l_steps, vs_l_arrows_here, rfl, hd_l_steps, hp_l_steps, hd_l_arrows_here, hp_l_arrows_here, hs, hB⟩ := hj
      have h_l_sizes_here := dp_up s1 _ h_l_sizes_here
      have sg := sg.trans s1
      have sl18 := Same.refl G
      refine gn ?_
      have h_l_turn := hv
      cases h_l_turn
      refine nrm (σ' := [some (.ref s), some v_l_sizes_here, some (.ref p_l_steps), some (.ref p_l_arrows_here), some (.int (1 : Int)), some (.int x14), y_l_at, y_l_figure, none, none, none]) rfl ?_
      obtain ⟨t19, e_t19, hm⟩ := bs hm
      obtain ⟨t20, e_t20, hm⟩ := bs hm
      obtain ⟨t21, e_t21, hm⟩ := bs hm
      obtain ⟨t22, e_t22, hm⟩ := bs hm
      obtain ⟨t23, e_t23, hm⟩ := bs hm
      obtain ⟨t24, e_t24, hm⟩ := bs hm
      refine q_tupDD (σ' := fun v w => [some (.ref s), some v_l_sizes_here, some (.ref p_l_steps), some (.ref p_l_arrows_here), some (.int (1 : Int)), some (.int x14), some v, some w, none, none, none]) (ev_callD (a := (12 : Int)) (r := t19.1) (z' := t19.2) hs e_t19 (ea_cons mo_ow (ev_own rfl) (ea_d (ev_int (K := K)) ea_nil))) mo_dd (ev_add (ev_callD (a := t20) (r := t21.1) (z' := t21.2) upd_same e_t21 (ea_cons mo_ow (ev_own rfl) (ea_d (ev_powO e_t20 (ev_int (K := K)) (ev_int (K := K))) ea_nil))) (ev_mulO e_t24 (ev_powO e_t22 (ev_int (K := K)) (ev_int (K := K))) (ev_callD (a := (99 : Int)) (r := t23.1) (z' := t23.2) upd_same e_t23 (ea_cons mo_ow (ev_own rfl) (ea_d (ev_int (K := K)) ea_nil))))) mo_dd ok (fun _ _ => rfl) (fun v_l_at v_l_figure G H s1 ok h_l_at h_l_figure => ?_)
      have h_l_sizes_here := dp_up s1 _ h_l_sizes_here
      have hd_l_steps := dpAll_up s1 _ hd_l_steps
      have hd_l_arrows_here := dpAll_up s1 _ hd_l_arrows_here
      have sg := sg.trans s1
      have sl18 := sl18.trans s1
      cases h_l_at
      cases h_l_figure
      have ok : Ok _ (upd (upd (upd M s (sto t19.2)) s (sto t21.2)) s (sto t23.2)) _ := ok
      have hs : (upd (upd (upd M s (sto t19.2)) s (sto t21.2)) s (sto t23.2)) s = some (sto t23.2) := upd_same
      have hB : ∀ a u, a ≠ s → M0 a = some u → (upd (upd (upd M s (sto t19.2)) s (sto t21.2)) s (sto t23.2)) a = some u := (hB_draw (hB_draw (hB_draw hB)))
      have hp_l_steps : (upd (upd (upd M s (sto t19.2)) s (sto t21.2)) s (sto t23.2)) p_l_steps = some (.lst vs_l_steps) := (up_ne n_l_steps_l_store (up_ne n_l_steps_l_store (up_ne n_l_steps_l_store hp_l_steps)))
      have hp_l_arrows_here : (upd (upd (upd M s (sto t19.2)) s (sto t21.2)) s (sto t23.2)) p_l_arrows_here = some (.lst vs_l_arrows_here) := (up_ne n_l_arrows_here_l_store (up_ne n_l_arrows_here_l_store (up_ne n_l_arrows_here_l_store hp_l_arrows_here)))
      obtain ⟨M, eM⟩ : ∃ m, m = (upd (upd (upd M s (sto t19.2)) s (sto t21.2)) s (sto t23.2)) := ⟨_, rfl⟩
      rw [← eM] at ok hs hB hp_l_steps hp_l_arrows_here
      clear eM
      obtain ⟨t25, e_t25, hm⟩ := bs hm
      obtain ⟨t33, e_t33, hm⟩ := bs hm
      obtain ⟨t34, e_t34, hm⟩ := bs hm
      obtain ⟨hl_t34, ea_t34⟩ := appO_of e_t34
      refine q_append (ev_own rfl) (ea_d (ev_tupL (ea_d (EvL.ev (el_lcM (ea := Dat.int) (eb := Dat.int) (xs := t25) (ys := t33) (hf := e_t33) (src_rngO e_t25 (ea_d (ev_int (K := K)) ea_nil)) (fun x26 _ Mx30 _ _ he31 sM29 sG28 hv27 => by (obtain ⟨t32, e_t32, he31⟩ := bs he31); cases he31; exact (tg_name ⟨rfl, (ev_mulO e_t32 (ev_d (K := K) rfl (.int _)) (ev_intB (ea_d (ev_eqI (ev_d (K := K) rfl hv27) (ev_d (K := K) rfl (.int _))) ea_nil)))⟩)))) ea_nil)) ea_nil) hp_l_arrows_here hp_l_arrows_here (by rw [dpAll_len hd_l_arrows_here, List.length_map]; exact szlt hl_t34) ok (fun v G H s1 ok hv => ?_)
      have h_l_sizes_here := dp_up s1 _ h_l_sizes_here
      have hd_l_steps := dpAll_up s1 _ hd_l_steps
      have hd_l_arrows_here := dpAll_up s1 _ hd_l_arrows_here
      have sg := sg.trans s1
      have sl18 := sl18.trans s1
      have hd_l_arrows_here : DqAll K G (vs_l_arrows_here ++ [v]) (t34.map (eT Dat.int)) := by rw [ea_t34, List.map_append]; exact dpAll_app hd_l_arrows_here (.cons hv .nil)
      have ok : Ok _ (upd M p_l_arrows_here (.lst (vs_l_arrows_here ++ [v]))) _ := ok
      have hs : (upd M p_l_arrows_here (.lst (vs_l_arrows_here ++ [v]))) s = some (sto t23.2) := (up_ne n_l_store_l_arrows_here hs)
      have hB : ∀ a u, a ≠ s → M0 a = some u → (upd M p_l_arrows_here (.lst (vs_l_arrows_here ++ [v]))) a = some u := (hB_own hB h0_l_arrows_here)
      have hp_l_steps : (upd M p_l_arrows_here (.lst (vs_l_arrows_here ++ [v]))) p_l_steps = some (.lst vs_l_steps) := (up_ne n_l_steps_l_arrows_here hp_l_steps)
      have hp_l_arrows_here : (upd M p_l_arrows_here (.lst (vs_l_arrows_here ++ [v]))) p_l_arrows_here = some (.lst (vs_l_arrows_here ++ [v])) := upd_same
      obtain ⟨M, eM⟩ : ∃ m, m = (upd M p_l_arrows_here (.lst (vs_l_arrows_here ++ [v]))) := ⟨_, rfl⟩
      rw [← eM] at ok hs hB hp_l_steps hp_l_arrows_here
      clear eM
      obtain ⟨vs_l_arrows_here, e_vs⟩ : ∃ m, m = (vs_l_arrows_here ++ [v]) := ⟨_, rfl⟩
      rw [← e_vs] at hp_l_arrows_here hd_l_arrows_here
      clear e_vs
      obtain ⟨t35, e_t35, hm⟩ := bs hm
      obtain ⟨t36, e_t36, hm⟩ := bs hm
      obtain ⟨t37, e_t37, hm⟩ := bs hm
      obtain ⟨j38, hj_j38, ej_j38⟩ := setO_of e_t37
      have hj_j38 : ixN vs_l_steps.length t19.1 = some j38 := by rw [dpAll_len hd_l_steps, List.length_map]; exact hj_j38
      refine q_setItem (ev_callP (a := ((t21.1 + t24), t35)) e_t36 (ea_d (ev_d (K := K) rfl (.int _)) (ea_d (ev_ixOM (e := Dat.int) e_t35 hp_l_steps hd_l_steps (ev_own rfl) (ev_d (K := K) rfl (.int _))) ea_nil))) (ev_own rfl) (ev_d (K := K) rfl (.int _)) hp_l_steps hj_j38 ok (fun v G H s1 ok hv => ?_)
      have h_l_sizes_here := dp_up s1 _ h_l_sizes_here
      have hd_l_steps := dpAll_up s1 _ hd_l_steps
      have hd_l_arrows_here := dpAll_up s1 _ hd_l_arrows_here
      have sg := sg.trans s1
      have sl18 := sl18.trans s1
      have hd_l_steps : DqAll K G (vs_l_steps.set j38 v) (t37.map Dat.int) := by rw [ej_j38, List.map_set]; exact dpAll_set _ hv hd_l_steps
      have ok : Ok _ (upd M p_l_steps (.lst (vs_l_steps.set j38 v))) _ := ok
      have hs : (upd M p_l_steps (.lst (vs_l_steps.set j38 v))) s = some (sto t23.2) := (up_ne n_l_store_l_steps hs)
      have hB : ∀ a u, a ≠ s → M0 a = some u → (upd M p_l_steps (.lst (vs_l_steps.set j38 v))) a = some u := (hB_own hB h0_l_steps)
      have hp_l_steps : (upd M p_l_steps (.lst (vs_l_steps.set j38 v))) p_l_steps = some (.lst (vs_l_steps.set j38 v)) := upd_same
      have hp_l_arrows_here : (upd M p_l_steps (.lst (vs_l_steps.set j38 v))) p_l_arrows_here = some (.lst vs_l_arrows_here) := (up_ne n_l_arrows_here_l_steps hp_l_arrows_here)
      obtain ⟨M, eM⟩ : ∃ m, m = (upd M p_l_steps (.lst (vs_l_steps.set j38 v))) := ⟨_, rfl⟩
      rw [← eM] at ok hs hB hp_l_steps hp_l_arrows_here
      clear eM
      obtain ⟨vs_l_steps, e_vs⟩ : ∃ m, m = (vs_l_steps.set j38 v) := ⟨_, rfl⟩
      rw [← e_vs] at hp_l_steps hd_l_steps
      clear e_vs
      refine q_nil ?_
      cases hm
      exact hN _ _ _ _ sl18 ok ⟨_, _, _, _, _, rfl, hd_l_steps, hp_l_steps, hd_l_arrows_here, hp_l_arrows_here, hs, hB⟩
    · obtain ⟨y_l_at, y_l_figure, y_l_turn, vs_l_steps, vs_l_arrows_here, rfl, hd_l_steps, hp_l_steps, hd_l_arrows_here, hp_l_arrows_here, hs, hB⟩ := hj
      have h_l_sizes_here := dp_up s1 _ h_l_sizes_here
      have sg := sg.trans s1
      obtain ⟨t39, e_t39, hm⟩ := bs hm
      obtain ⟨fin40, e_fin40, hm⟩ := bs hm
      have hmo43 := hm
      refine q_forO (ea := Dat.int) (src_rngO e_t39 (ea_d (ev_int (K := K)) ea_nil)) ok (fun (st41 : Int) σ1 G1 M1 => ∃ (y_l_k : Option V), σ1 = [some (.ref s), some v_l_sizes_here, some (.ref p_l_steps), some (.ref p_l_arrows_here), some (.int st41), y_l_turn, y_l_at, y_l_figure, y_l_k, none, none] ∧ (M1 p_l_steps = some (.lst vs_l_steps)) ∧ (M1 p_l_arrows_here = some (.lst vs_l_arrows_here)) ∧ (M1 s = some (sto fin12.2.2)) ∧ (∀ a u, a ≠ s → M0 a = some u → M1 a = some u)) e_fin40 (fun G1 s1 => ⟨_, rfl, hp_l_steps, hp_l_arrows_here, hs, hB⟩) (by rintro _ _ _ _ _ ⟨y_l_k, rfl, hp_l_steps, hp_l_arrows_here, hs, hB⟩ s2; exact ⟨_, rfl, hp_l_steps, hp_l_arrows_here, hs, hB⟩) (fun x42 xv45 st41 st' σ1 G M H N hm hj s1 ok hv hN => ?_) (fun σ1 G M H s1 ok hj => ?_)
      · obtain ⟨y_l_k, rfl, hp_l_steps, hp_l_arrows_here, hs, hB⟩ := hj
        have h_l_sizes_here := dp_up s1 _ h_l_sizes_here
        have hd_l_steps := dpAll_up s1 _ hd_l_steps
        have hd_l_arrows_here := dpAll_up s1 _ hd_l_arrows_here
        have sg := sg.trans s1
        have sl46 := Same.refl G
        refine gn ?_
        have h_l_k := hv
        cases h_l_k
        refine nrm (σ' := [some (.ref s), some v_l_sizes_here, some (.ref p_l_steps), some (.ref p_l_arrows_here), some (.int st41), y_l_turn, y_l_at, y_l_figure, some (.int x42), none, none]) rfl ?_
        obtain ⟨t47, e_t47, hm⟩ := bs hm
        obtain ⟨t48, e_t48, hm⟩ := bs hm
        obtain ⟨t49, e_t49, hm⟩ := bs hm
        obtain ⟨t50, e_t50, hm⟩ := bs hm
        refine q_set (σ' := fun v => [some (.ref s), some v_l_sizes_here, some (.ref p_l_steps), some (.ref p_l_arrows_here), some v, y_l_turn, y_l_at, y_l_figure, some (.int x42), none, none]) (ev_mulO e_t50 (ev_d (K := K) rfl (.int _)) (ev_fdivO e_t49 (ev_ixTM (e := Dat.int) e_t47 (ev_d (K := K) rfl h_l_sizes_here) (ev_d (K := K) rfl (.int _))) (ev_ixOM (e := Dat.int) e_t48 hp_l_steps hd_l_steps (ev_own rfl) (ev_d (K := K) rfl (.int _))))) ok (fun _ => rfl) (fun v_l_many G H s1 ok h_l_many => ?_)
        have h_l_sizes_here := dp_up s1 _ h_l_sizes_here
        have hd_l_steps := dpAll_up s1 _ hd_l_steps
        have hd_l_arrows_here := dpAll_up s1 _ hd_l_arrows_here
        have sg := sg.trans s1
        have sl46 := sl46.trans s1
        cases h_l_many
        refine q_nil ?_
        cases hm
        exact hN _ _ _ _ sl46 ok ⟨_, rfl, hp_l_steps, hp_l_arrows_here, hs, hB⟩
      · obtain ⟨y_l_k, rfl, hp_l_steps, hp_l_arrows_here, hs, hB⟩ := hj
        have h_l_sizes_here := dp_up s1 _ h_l_sizes_here
        have hd_l_steps := dpAll_up s1 _ hd_l_steps
        have hd_l_arrows_here := dpAll_up s1 _ hd_l_arrows_here
        have sg := sg.trans s1
        obtain ⟨t51, e_t51, hm⟩ := bs hm
        obtain ⟨t61, e_t61, hm⟩ := bs hm
        refine q_set (σ' := fun v => [some (.ref s), some v_l_sizes_here, some (.ref p_l_steps), some (.ref p_l_arrows_here), some (.int fin40), y_l_turn, y_l_at, y_l_figure, y_l_k, some v, none]) (ev_tupL (ea_d (EvL.ev (el_lcMD (ea := Dat.int) (eb := Dat.int) (xs := t51) (r := t61) (hf := e_t61) (src_rngO e_t51 (ea_d (ev_int (K := K)) ea_nil)) hs (fun x52 _ x52z _ Mx56 _ _ he57 sM55 hzx52 sG54 hv53 => by (obtain ⟨t58, e_t58, he57⟩ := bs he57); (obtain ⟨t59, e_t59, he57⟩ := bs he57); (obtain ⟨t60, e_t60, he57⟩ := bs he57); cases he57; exact (tg_name ⟨rfl, (ev_sub (ev_callD (a := t58) (r := t59.1) (z' := t59.2) hzx52 e_t59 (ea_cons mo_ow (ev_own rfl) (ea_d (ev_powO e_t58 (ev_int (K := K)) (ev_int (K := K))) ea_nil))) (ev_powO e_t60 (ev_int (K := K)) (ev_int (K := K))))⟩)))) ea_nil)) ok (fun _ => rfl) (fun v_l_arrow_here G H s1 ok h_l_arrow_here => ?_)
        have h_l_sizes_here := dp_up s1 _ h_l_sizes_here
        have hd_l_steps := dpAll_up s1 _ hd_l_steps
        have hd_l_arrows_here := dpAll_up s1 _ hd_l_arrows_here
        have sg := sg.trans s1
        have ok : Ok _ (upd M s (sto t61.2)) _ := ok
        have hs : (upd M s (sto t61.2)) s = some (sto t61.2) := upd_same
        have hB : ∀ a u, a ≠ s → M0 a = some u → (upd M s (sto t61.2)) a = some u := (hB_draw hB)
        have hp_l_steps : (upd M s (sto t61.2)) p_l_steps = some (.lst vs_l_steps) := (up_ne n_l_steps_l_store hp_l_steps)
        have hp_l_arrows_here : (upd M s (sto t61.2)) p_l_arrows_here = some (.lst vs_l_arrows_here) := (up_ne n_l_arrows_here_l_store hp_l_arrows_here)
        obtain ⟨M, eM⟩ : ∃ m, m = (upd M s (sto t61.2)) := ⟨_, rfl⟩
        rw [← eM] at ok hs hB hp_l_steps hp_l_arrows_here
        clear eM
        obtain ⟨t62, e_t62, hm⟩ := bs hm
        obtain ⟨t72, e_t72, hm⟩ := bs hm
        refine q_set (σ' := fun v => [some (.ref s), some v_l_sizes_here, some (.ref p_l_steps), some (.ref p_l_arrows_here), some (.int fin40), y_l_turn, y_l_at, y_l_figure, y_l_k, some v_l_arrow_here, some v]) (ev_tupL (ea_d (EvL.ev (el_lcM (ea := Dat.int) (eb := Dat.int) (xs := t62) (ys := t72) (hf := e_t72) (src_rngO e_t62 (ea_d (ev_int (K := K)) ea_nil)) (fun x63 _ Mx67 _ _ he68 sM66 sG65 hv64 => by (obtain ⟨t69, e_t69, he68⟩ := bs he68); (obtain ⟨t70, e_t70, he68⟩ := bs he68); (obtain ⟨t71, e_t71, he68⟩ := bs he68); cases he68; exact (tg_name ⟨rfl, (ev_modO e_t71 (ev_ixTM (e := Dat.int) e_t69 (ev_d (K := K) rfl (dp_up sG65 _ h_l_arrow_here)) (ev_d (K := K) rfl hv64)) (ev_ixOM (e := Dat.int) e_t70 (sM66 _ _ hp_l_steps) (dpAll_up sG65 _ hd_l_steps) (ev_own rfl) (ev_d (K := K) rfl hv64)))⟩)))) ea_nil)) ok (fun _ => rfl) (fun v_l_due G H s1 ok h_l_due => ?_)
        have h_l_sizes_here := dp_up s1 _ h_l_sizes_here
        have hd_l_steps := dpAll_up s1 _ hd_l_steps
        have hd_l_arrows_here := dpAll_up s1 _ hd_l_arrows_here
        have h_l_arrow_here := dp_up s1 _ h_l_arrow_here
        have sg := sg.trans s1
        obtain ⟨t73, e_t73, hm⟩ := bs hm
        obtain ⟨t74, e_t74, hm⟩ := bs hm
        refine q_if (et_not (et_B (ev_callP (a := ((Dat.int t73), (Dat.int fin40))) e_t74 (ea_d (ev_callP (a := (t9.1, fin12.2.1)) e_t73 (ea_d (ev_d (K := K) rfl h_l_sizes_here) (ea_d (ev_tupO hp_l_arrows_here hd_l_arrows_here (ea_cons mo_ow (ev_own rfl) ea_nil)) ea_nil))) (ea_d (ev_d (K := K) rfl (.int _)) ea_nil))))) ok (fun hb G H s1 ok => ?_) (fun hb G H s1 ok => ?_)
        · have hm := cond_t hb hm
          have h_l_sizes_here := dp_up s1 _ h_l_sizes_here
          have hd_l_steps := dpAll_up s1 _ hd_l_steps
          have hd_l_arrows_here := dpAll_up s1 _ hd_l_arrows_here
          have h_l_arrow_here := dp_up s1 _ h_l_arrow_here
          have h_l_due := dp_up s1 _ h_l_due
          have sg := sg.trans s1
          refine q_ret (ev_bl (K := K)) ok (fun v G H s1 ok hv => ?_)
          have sg := sg.trans s1
          cases hm
          exact q v G H sg (ok.less (same_fin hB hs)) hv
        · have hm := cond_f hb hm
          have h_l_sizes_here := dp_up s1 _ h_l_sizes_here
          have hd_l_steps := dpAll_up s1 _ hd_l_steps
          have hd_l_arrows_here := dpAll_up s1 _ hd_l_arrows_here
          have h_l_arrow_here := dp_up s1 _ h_l_arrow_here
          have h_l_due := dp_up s1 _ h_l_due
          have sg := sg.trans s1
          refine q_nilU ?_
          obtain ⟨t75, e_t75, hm⟩ := bs hm
          obtain ⟨t76, e_t76, hm⟩ := bs hm
          refine q_ret (ev_callP (a := (((eT Dat.int) t75), ((eT Dat.int) t72))) e_t76 (ea_d (ev_callP (a := (t9.1, fin12.2.1, t61.1)) e_t75 (ea_d (ev_d (K := K) rfl h_l_sizes_here) (ea_d (ev_tupO hp_l_arrows_here hd_l_arrows_here (ea_cons mo_ow (ev_own rfl) ea_nil)) (ea_d (ev_d (K := K) rfl h_l_arrow_here) ea_nil)))) (ea_d (ev_d (K := K) rfl h_l_due) ea_nil))) ok (fun v G H s1 ok hv => ?_)
          have sg := sg.trans s1
          cases hm
          exact q v G H sg (ok.less (same_fin hB hs)) hv
theorem kwp_least_vector_moduli_vectors {K : PySem.W.Frag} {G : Hp} {vs : List V} {a : (List Int) × (List (List Int)) × (List Int)} (h : (conP (DD K ((eT Dat.int) a.2.2)) (conP (DD K ((eT Dat.int) a.1)) (conP (DD K ((eT (eT Dat.int)) a.2.1)) (nilP)))) vs G) : vs.length = 3 ∧ a_least K a (kw_least_vector_moduli_vectors vs) G := by
  obtain ⟨v_vector, _, rfl, h_vector, v_moduli, _, rfl, h_moduli, v_vectors, _, rfl, h_vectors, rfl⟩ := h
  exact ⟨rfl, v_moduli, _, rfl, h_moduli, v_vectors, _, rfl, h_vectors, v_vector, _, rfl, h_vector, rfl⟩
theorem kwp_spanned_vectors_moduli {K : PySem.W.Frag} {G : Hp} {vs : List V} {a : (List Int) × (List (List Int))} (h : (conP (DD K ((eT (eT Dat.int)) a.2)) (conP (DD K ((eT Dat.int) a.1)) (nilP))) vs G) : vs.length = 2 ∧ a_spanned K a (kw_spanned_vectors_moduli vs) G := by
  obtain ⟨v_vectors, _, rfl, h_vectors, v_moduli, _, rfl, h_moduli, rfl⟩ := h
  exact ⟨rfl, v_moduli, _, rfl, h_moduli, v_vectors, _, rfl, h_vectors, rfl⟩
/-! ### _law_small_right -/
theorem sc__law_small_right : FnScope ["_law_sizes_here", "_law_arrows_here", "_law_some", "_law_span_here", "_law_turn", "_law_told", "_law_arrow_here", "_law_due", "_law_found", "_law_old"] ["_law_sizes_here", "_law_arrows_here", "_law_some"] (defScope s__law_small_right) := ⟨rfl, rfl, rfl, by decide +kernel, rfl, by decide +kernel, by decide +kernel⟩
def a__law_small_right (K : PySem.W.Frag) (a : (List Int) × (List (List Int)) × (List (List Int))) : List V → Hp → Prop := conP (DD K ((eT Dat.int) a.1)) (conP (DD K ((eT (eT Dat.int)) a.2.1)) (conP (DD K ((eL (eT Dat.int)) a.2.2)) (nilP)))
def m__law_small_right (a : (List Int) × (List (List Int)) × (List (List Int))) : Option Bool :=
  (m__law_span (a.1, a.2.1)).bind fun t1 => (rngO (2 : Int)).bind fun t2 => (forR (R := Bool) (fun (st4 : Unit) (x5 : Int) => (m_spanned (a.1, a.2.1)).bind fun t10 => (m_spanned (a.1, a.2.1)).bind fun t11 => (lcO (fun x12 : Int => (m__law_same 12 ((Dat.int x12), (Dat.int (t1.length : Int)))).bind fun t18 => some t18) ([t10, t11] : (List Int))).bind fun t19 => cond (!(t19.all id)) (some (.inr false)) ((forR (R := Bool) (fun (st21 : Unit) (x22 : (List Int)) => (lcO (fun x27 : (List Int) => (m__law_summed (a.1, (false, ([x22, x27] : (List (List Int)))), (false, ([(1 : Int), (1 : Int)] : (List Int))))).bind fun t33 => some t33) t1).bind fun t34 => (minR t34).bind fun t35 => (m_least (a.1, a.2.1, x22)).bind fun t36 => (m_least (a.1, a.2.1, x22)).bind fun t37 => (lcO (fun x38 : (List Int) => (m__law_same 12 (((eT Dat.int) x38), ((eT Dat.int) t35))).bind fun t44 => some t44) ([t36, t37] : (List (List Int)))).bind fun t45 => cond (!(t45.all id)) (some (.inr false)) (some (.inl ()))) a.2.2 ()).bind fun fin20 => orR fin20 (fun fin20s => some (.inl ())) (fun r => some (.inr r)))) t2 ()).bind fun fin3 => orR fin3 (fun fin3s => some true) (fun r => some r)
abbrev sp__law_small_right (K : PySem.W.Frag) : Sp := spP (a__law_small_right K) (m__law_small_right) fun r => DD K (Dat.bool r)
theorem ok__law_small_right {P : Program} {w : World} {K : PySem.W.Frag} {mg : Str → Option Value} {base : Heap} (T : Txt K mg) (O__law_span : FnOk P w K mg base CX0 2 T.a__law_span T.d__law_span ["_law_sizes_here", "_law_arrows_here"] (sp__law_span K)) (O_spanned : FnOk P w K mg base CX0 5 T.a_spanned T.d_spanned ["moduli", "vectors"] (sp_spanned K)) (O__law_same : FnOk P w K mg base CX0 13 T.a__law_same T.d__law_same ["_law_found", "_law_due"] (sp__law_same K 12)) (O__law_summed : FnOk P w K mg base CX0 1 T.a__law_summed T.d__law_summed ["_law_sizes_here", "_law_arrows_here", "_law_often"] (sp__law_summed K)) (O_least : FnOk P w K mg base CX0 6 T.a_least T.d_least ["moduli", "vectors", "vector"] (sp_least K)) : FnOk P w K mg base CX0 (14) T.a__law_small_right T.d__law_small_right ["_law_sizes_here", "_law_arrows_here", "_law_some"] (sp__law_small_right K) := by
  refine T.F__law_small_right.ok sc__law_small_right (fun vs H Q E h => ?_) (fun cdv A outer s0 H vs Q E hr h => ?_)
  · obtain ⟨G, M0, a, r, ok, ⟨v_l_sizes_here, _, rfl, h_l_sizes_here, v_l_arrows_here, _, rfl, h_l_arrows_here, v_l_some, _, rfl, h_l_some, rfl⟩, hm, q⟩ := h
    rfl
  · obtain ⟨G, M0, a, r, ok, ⟨v_l_sizes_here, _, rfl, h_l_sizes_here, v_l_arrows_here, _, rfl, h_l_arrows_here, v_l_some, _, rfl, h_l_some, rfl⟩, hm, q⟩ := h
    unfold m__law_small_right at hm
    have sg := Same.refl G
    have hB := Same.refl M0
    refine ⟨_, (pss_cons (ps_set (i := 3) sc__law_small_right.nd rfl (.inr rfl) (pe_call O__law_span (hr.mono (by decide)) (by rfl) T.g__law_span T.F__law_span.kp T.b__law_span .nil pass0 (pa_cons (pv 0) (pa_cons (pv 1) pa_nil)))) (pss_cons (ps_for PassesOwn.never rfl (pi_range1 (by rfl) T.n_range (pa_cons pe_int pa_nil)) (pg_name (i := 4) sc__law_small_right.nd rfl (.inl rfl)) (pss_cons (ps_set (i := 5) sc__law_small_right.nd rfl (.inl rfl) (pe_lst (pa_cons (pe_call O_spanned (hr.mono (by decide)) (by rfl) T.g_spanned T.F_spanned.kp T.b_spanned .nil pass0 (pa_cons (pv 0) (pa_cons (pv 1) pa_nil))) (pa_cons (pe_callKw (g := @kw_spanned_vectors_moduli) O_spanned (hr.mono (by decide)) (by rfl) T.g_spanned T.F_spanned.kp T.kb_spanned_vectors_moduli pass0 (pk_cons (pv 1) (pk_cons (pv 0) pk_nil))) pa_nil)))) (pss_cons (ps_if (pt_not (pt_val (pe_callB (cr_allK (K := K) rfl) (by rfl) T.n_all (by decide +kernel) (pa_cons (pe_lc (own := [("_law_found", 8)]) (g := (gName 8)) (tt := tYes) rfl sc__law_small_right.nd (pi_listK (K := K) (pv 5)) (blkOk_by (own := [("_law_found", 8)]) (N := ["_law_sizes_here", "_law_arrows_here", "_law_some", "_law_span_here", "_law_turn", "_law_told", "_law_arrow_here", "_law_due", "_law_found", "_law_old"]) (sc := defScope s__law_small_right) (by decide +kernel)) (fun _ _ _ _ _ => (pg_name (i := 8) sc__law_small_right.nd rfl (by first | exact .inl rfl | exact .inr rfl))) (fun _ _ _ _ _ => pts_nil) (fun _ _ _ _ _ => (pe_call O__law_same (hr.mono (by decide)) (by rfl) T.g__law_same T.F__law_same.kp T.b__law_same .nil pass0 (pa_cons (pv 8) (pa_cons (pe_callB (cl_lenK (K := K)) (by rfl) T.n_len (by decide +kernel) (pa_cons (pv 3) pa_nil)) pa_nil))))) pa_nil)))) (pss_cons (ps_ret pe_bl) pss_nil) pss_nil) (pss_cons (ps_for PassesOwn.never rfl (pi_listK (K := K) (pv 2)) (pg_name (i := 6) sc__law_small_right.nd rfl (.inr rfl)) (pss_cons (ps_set (i := 7) sc__law_small_right.nd rfl (.inr rfl) (pe_callB (cr_minTK (K := K) rfl hr.units) (by rfl) T.n_min (by decide +kernel) (pa_cons (pe_lc (own := [("_law_old", 9)]) (g := (gName 9)) (tt := tYes) rfl sc__law_small_right.nd (pi_listK (K := K) (pv 3)) (blkOk_by (own := [("_law_old", 9)]) (N := ["_law_sizes_here", "_law_arrows_here", "_law_some", "_law_span_here", "_law_turn", "_law_told", "_law_arrow_here", "_law_due", "_law_found", "_law_old"]) (sc := defScope s__law_small_right) (by decide +kernel)) (fun _ _ _ _ _ => (pg_name (i := 9) sc__law_small_right.nd rfl (by first | exact .inl rfl | exact .inr rfl))) (fun _ _ _ _ _ => pts_nil) (fun _ _ _ _ _ => (pe_call O__law_summed (hr.mono (by decide)) (by rfl) T.g__law_summed T.F__law_summed.kp T.b__law_summed .nil pass0 (pa_cons (pv 0) (pa_cons (pe_lst (pa_cons (pv 6) (pa_cons (pv 9) pa_nil))) (pa_cons (pe_lst (pa_cons pe_int (pa_cons pe_int pa_nil))) pa_nil)))))) pa_nil))) (pss_cons (ps_set (i := 5) sc__law_small_right.nd rfl (.inl rfl) (pe_lst (pa_cons (pe_call O_least (hr.mono (by decide)) (by rfl) T.g_least T.F_least.kp T.b_least .nil pass0 (pa_cons (pv 0) (pa_cons (pv 1) (pa_cons (pv 6) pa_nil)))) (pa_cons (pe_callKw (g := @kw_least_vector_moduli_vectors) O_least (hr.mono (by decide)) (by rfl) T.g_least T.F_least.kp T.kb_least_vector_moduli_vectors pass0 (pk_cons (pv 6) (pk_cons (pv 0) (pk_cons (pv 1) pk_nil)))) pa_nil)))) (pss_cons (ps_if (pt_not (pt_val (pe_callB (cr_allK (K := K) rfl) (by rfl) T.n_all (by decide +kernel) (pa_cons (pe_lc (own := [("_law_found", 8)]) (g := (gName 8)) (tt := tYes) rfl sc__law_small_right.nd (pi_listK (K := K) (pv 5)) (blkOk_by (own := [("_law_found", 8)]) (N := ["_law_sizes_here", "_law_arrows_here", "_law_some", "_law_span_here", "_law_turn", "_law_told", "_law_arrow_here", "_law_due", "_law_found", "_law_old"]) (sc := defScope s__law_small_right) (by decide +kernel)) (fun _ _ _ _ _ => (pg_name (i := 8) sc__law_small_right.nd rfl (by first | exact .inl rfl | exact .inr rfl))) (fun _ _ _ _ _ => pts_nil) (fun _ _ _ _ _ => (pe_call O__law_same (hr.mono (by decide)) (by rfl) T.g__law_same T.F__law_same.kp T.b__law_same .nil pass0 (pa_cons (pv 8) (pa_cons (pv 7) pa_nil))))) pa_nil)))) (pss_cons (ps_ret pe_bl) pss_nil) pss_nil) pss_nil)))) pss_nil)))) (pss_cons (ps_ret pe_bl) pss_nil))), ?_⟩
    refine nrm (σ' := [some v_l_sizes_here, some v_l_arrows_here, some v_l_some, none, none, none, none, none, none, none]) rfl ?_
    obtain ⟨t1, e_t1, hm⟩ := bs hm
    refine q_set (σ' := fun v => [some v_l_sizes_here, some v_l_arrows_here, some v_l_some, some v, none, none, none, none, none, none]) (ev_callP (a := (a.1, a.2.1)) e_t1 (ea_d (ev_d (K := K) rfl h_l_sizes_here) (ea_d (ev_d (K := K) rfl h_l_arrows_here) ea_nil))) ok (fun _ => rfl) (fun v_l_span_here G H s1 ok h_l_span_here => ?_)
    have h_l_sizes_here := dp_up s1 _ h_l_sizes_here
    have h_l_arrows_here := dp_up s1 _ h_l_arrows_here
    have h_l_some := dp_up s1 _ h_l_some
    have sg := sg.trans s1
    obtain ⟨t2, e_t2, hm⟩ := bs hm
    obtain ⟨fin3, e_fin3, hm⟩ := bs hm
    have hmo6 := hm
    refine q_forR (ea := Dat.int) (src_rngO e_t2 (ea_d (ev_int (K := K)) ea_nil)) ok (fun (st4 : Unit) σ1 G1 M1 => ∃ (y_l_told : Option V) (y_l_arrow_here : Option V) (y_l_due : Option V) (y_l_turn : Option V), σ1 = [some v_l_sizes_here, some v_l_arrows_here, some v_l_some, some v_l_span_here, y_l_turn, y_l_told, y_l_arrow_here, y_l_due, none, none] ∧ (Same M0 M1)) e_fin3 (fun G1 s1 => ⟨_, _, _, _, rfl, hB⟩) (by rintro _ _ _ _ _ ⟨y_l_told, y_l_arrow_here, y_l_due, y_l_turn, rfl, hB⟩ s2; exact ⟨_, _, _, _, rfl, hB⟩) (fun x5 xv8 st4 st' σ1 G M H N hm hret7 hj s1 ok hv hN => ?_) (fun fin3s σ1 G M H hfin s1 ok hj => ?_)
    · obtain ⟨y_l_told, y_l_arrow_here, y_l_due, y_l_turn, rfl, hB⟩ := hj
      have h_l_sizes_here := dp_up s1 _ h_l_sizes_here
      have h_l_arrows_here := dp_up s1 _ h_l_arrows_here
      have h_l_some := dp_up s1 _ h_l_some
      have h_l_span_here := dp_up s1 _ h_l_span_here
      have sg := sg.trans s1
      have sl9 := Same.refl G
      refine gn ?_
      have h_l_turn := hv
      cases h_l_turn
      refine nrm (σ' := [some v_l_sizes_here, some v_l_arrows_here, some v_l_some, some v_l_span_here, some (.int x5), y_l_told, y_l_arrow_here, y_l_due, none, none]) rfl ?_
      obtain ⟨t10, e_t10, hm⟩ := bs hm
      obtain ⟨t11, e_t11, hm⟩ := bs hm
      refine q_set (σ' := fun v => [some v_l_sizes_here, some v_l_arrows_here, some v_l_some, some v_l_span_here, some (.int x5), some v, y_l_arrow_here, y_l_due, none, none]) (EvL.ev (el_lst (ea_consD (ev_callP (a := (a.1, a.2.1)) e_t10 (ea_d (ev_d (K := K) rfl h_l_sizes_here) (ea_d (ev_d (K := K) rfl h_l_arrows_here) ea_nil))) (ea_consD (ev_callKP (a := (a.1, a.2.1)) e_t11 (fun _ _ h => kwp_spanned_vectors_moduli h) (ea_d (ev_d (K := K) rfl h_l_arrows_here) (ea_d (ev_d (K := K) rfl h_l_sizes_here) ea_nil))) (ea_nilD (K := K)))))) ok (fun _ => rfl) (fun v_l_told G H s1 ok h_l_told => ?_)
      have h_l_sizes_here := dp_up s1 _ h_l_sizes_here
      have h_l_arrows_here := dp_up s1 _ h_l_arrows_here
      have h_l_some := dp_up s1 _ h_l_some
      have h_l_span_here := dp_up s1 _ h_l_span_here
      have sg := sg.trans s1
      have sl9 := sl9.trans s1
      obtain ⟨t19, e_t19, hm⟩ := bs hm
      refine q_if (et_not (et_B (ev_allL (ea_d (EvL.ev (el_lcM (ea := Dat.int) (eb := Dat.bool) (xs := ([t10, t11] : (List Int))) (ys := t19) (hf := e_t19) (src_list (ev_d (K := K) rfl h_l_told)) (fun x12 _ Mx16 _ _ he17 sM15 sG14 hv13 => by (obtain ⟨t18, e_t18, he17⟩ := bs he17); cases he17; exact (tg_name ⟨rfl, (ev_callP (a := ((Dat.int x12), (Dat.int (t1.length : Int)))) e_t18 (ea_d (ev_d (K := K) rfl hv13) (ea_d (ev_lenLM (e := (eT Dat.int)) (ea_d (ev_d (K := K) rfl (dp_up sG14 _ h_l_span_here)) ea_nil)) ea_nil)))⟩)))) ea_nil)))) ok (fun hb G H s1 ok => ?_) (fun hb G H s1 ok => ?_)
      · have hm := cond_t hb hm
        have h_l_sizes_here := dp_up s1 _ h_l_sizes_here
        have h_l_arrows_here := dp_up s1 _ h_l_arrows_here
        have h_l_some := dp_up s1 _ h_l_some
        have h_l_span_here := dp_up s1 _ h_l_span_here
        have h_l_told := dp_up s1 _ h_l_told
        have sg := sg.trans s1
        have sl9 := sl9.trans s1
        refine q_ret (ev_bl (K := K)) ok (fun v G H s1 ok hv => ?_)
        have sg := sg.trans s1
        cases hm
        have hf0 := hret7 _ rfl
        rw [hf0] at hmo6
        have hmx0 := hmo6
        cases hmx0
        exact q v G H sg (ok.less hB) hv
      · have hm := cond_f hb hm
        have h_l_sizes_here := dp_up s1 _ h_l_sizes_here
        have h_l_arrows_here := dp_up s1 _ h_l_arrows_here
        have h_l_some := dp_up s1 _ h_l_some
        have h_l_span_here := dp_up s1 _ h_l_span_here
        have h_l_told := dp_up s1 _ h_l_told
        have sg := sg.trans s1
        have sl9 := sl9.trans s1
        refine q_nilU ?_
        obtain ⟨fin20, e_fin20, hm⟩ := bs hm
        have hmo23 := hm
        refine q_forR (ea := (eT Dat.int)) (src_list (ev_d (K := K) rfl h_l_some)) ok (fun (st21 : Unit) σ1 G1 M1 => ∃ (y_l_due : Option V) (y_l_told : Option V) (y_l_arrow_here : Option V), σ1 = [some v_l_sizes_here, some v_l_arrows_here, some v_l_some, some v_l_span_here, some (.int x5), y_l_told, y_l_arrow_here, y_l_due, none, none] ∧ (Same M0 M1)) e_fin20 (fun G1 s1 => ⟨_, _, _, rfl, hB⟩) (by rintro _ _ _ _ _ ⟨y_l_due, y_l_told, y_l_arrow_here, rfl, hB⟩ s2; exact ⟨_, _, _, rfl, hB⟩) (fun x22 xv25 st21 st' σ1 G M H N hm hret24 hj s1 ok hv hN => ?_) (fun fin20s σ1 G M H hfin s1 ok hj => ?_)
        · obtain ⟨y_l_due, y_l_told, y_l_arrow_here, rfl, hB⟩ := hj
          have h_l_sizes_here := dp_up s1 _ h_l_sizes_here
          have h_l_arrows_here := dp_up s1 _ h_l_arrows_here
          have h_l_some := dp_up s1 _ h_l_some
          have h_l_span_here := dp_up s1 _ h_l_span_here
          have h_l_told := dp_up s1 _ h_l_told
          have sg := sg.trans s1
          have sl9 := sl9.trans s1
          have sl26 := Same.refl G
          refine gn ?_
          have h_l_arrow_here := hv
          refine nrm (σ' := [some v_l_sizes_here, some v_l_arrows_here, some v_l_some, some v_l_span_here, some (.int x5), y_l_told, some xv25, y_l_due, none, none]) rfl ?_
          obtain ⟨t34, e_t34, hm⟩ := bs hm
          obtain ⟨t35, e_t35, hm⟩ := bs hm
          refine q_set (σ' := fun v => [some v_l_sizes_here, some v_l_arrows_here, some v_l_some, some v_l_span_here, some (.int x5), y_l_told, some xv25, some v, none, none]) (ev_minT e_t35 (ea_d (EvL.ev (el_lcM (ea := (eT Dat.int)) (eb := (eT Dat.int)) (xs := t1) (ys := t34) (hf := e_t34) (src_list (ev_d (K := K) rfl h_l_span_here)) (fun x27 _ Mx31 _ _ he32 sM30 sG29 hv28 => by (obtain ⟨t33, e_t33, he32⟩ := bs he32); cases he32; exact (tg_name ⟨rfl, (ev_callP (a := (a.1, (false, ([x22, x27] : (List (List Int)))), (false, ([(1 : Int), (1 : Int)] : (List Int))))) e_t33 (ea_d (ev_d (K := K) rfl (dp_up sG29 _ h_l_sizes_here)) (ea_d (EvL.ev (el_lst (ea_consD (ev_d (K := K) rfl (dp_up sG29 _ h_l_arrow_here)) (ea_consD (ev_d (K := K) rfl hv28) (ea_nilD (K := K)))))) (ea_d (EvL.ev (el_lst (ea_consD (ev_int (K := K)) (ea_consD (ev_int (K := K)) (ea_nilD (K := K)))))) ea_nil))))⟩)))) ea_nil)) ok (fun _ => rfl) (fun v_l_due G H s1 ok h_l_due => ?_)
          have h_l_sizes_here := dp_up s1 _ h_l_sizes_here
          have h_l_arrows_here := dp_up s1 _ h_l_arrows_here
          have h_l_some := dp_up s1 _ h_l_some
          have h_l_span_here := dp_up s1 _ h_l_span_here
          have h_l_arrow_here := dp_up s1 _ h_l_arrow_here
          have sg := sg.trans s1
          have sl26 := sl26.trans s1
          have sl9 := sl9.trans s1
          obtain ⟨t36, e_t36, hm⟩ := bs hm
          obtain ⟨t37, e_t37, hm⟩ := bs hm
          refine q_set (σ' := fun v => [some v_l_sizes_here, some v_l_arrows_here, some v_l_some, some v_l_span_here, some (.int x5), some v, some xv25, some v_l_due, none, none]) (EvL.ev (el_lst (ea_consD (ev_callP (a := (a.1, a.2.1, x22)) e_t36 (ea_d (ev_d (K := K) rfl h_l_sizes_here) (ea_d (ev_d (K := K) rfl h_l_arrows_here) (ea_d (ev_d (K := K) rfl h_l_arrow_here) ea_nil)))) (ea_consD (ev_callKP (a := (a.1, a.2.1, x22)) e_t37 (fun _ _ h => kwp_least_vector_moduli_vectors h) (ea_d (ev_d (K := K) rfl h_l_arrow_here) (ea_d (ev_d (K := K) rfl h_l_sizes_here) (ea_d (ev_d (K := K) rfl h_l_arrows_here) ea_nil)))) (ea_nilD (K := K)))))) ok (fun _ => rfl) (fun v_l_told G H s1 ok h_l_told => ?_)
          have h_l_sizes_here := dp_up s1 _ h_l_sizes_here
          have h_l_arrows_here := dp_up s1 _ h_l_arrows_here
          have h_l_some := dp_up s1 _ h_l_some
          have h_l_span_here := dp_up s1 _ h_l_span_here
          have h_l_arrow_here := dp_up s1 _ h_l_arrow_here
          have h_l_due := dp_up s1 _ h_l_due
          have sg := sg.trans s1
          have sl26 := sl26.trans s1
          have sl9 := sl9.trans s1
          obtain ⟨t45, e_t45, hm⟩ := bs hm
          refine q_if (et_not (et_B (ev_allL (ea_d (EvL.ev (el_lcM (ea := (eT Dat.int)) (eb := Dat.bool) (xs := ([t36, t37] : (List (List Int)))) (ys := t45) (hf := e_t45) (src_list (ev_d (K := K) rfl h_l_told)) (fun x38 _ Mx42 _ _ he43 sM41 sG40 hv39 => by (obtain ⟨t44, e_t44, he43⟩ := bs he43); cases he43; exact (tg_name ⟨rfl, (ev_callP (a := (((eT Dat.int) x38), ((eT Dat.int) t35))) e_t44 (ea_d (ev_d (K := K) rfl hv39) (ea_d (ev_d (K := K) rfl (dp_up sG40 _ h_l_due)) ea_nil)))⟩)))) ea_nil)))) ok (fun hb G H s1 ok => ?_) (fun hb G H s1 ok => ?_)
          · have hm := cond_t hb hm
            have h_l_sizes_here := dp_up s1 _ h_l_sizes_here
            have h_l_arrows_here := dp_up s1 _ h_l_arrows_here
            have h_l_some := dp_up s1 _ h_l_some
            have h_l_span_here := dp_up s1 _ h_l_span_here
            have h_l_arrow_here := dp_up s1 _ h_l_arrow_here
            have h_l_due := dp_up s1 _ h_l_due
            have h_l_told := dp_up s1 _ h_l_told
            have sg := sg.trans s1
            have sl26 := sl26.trans s1
            have sl9 := sl9.trans s1
            refine q_ret (ev_bl (K := K)) ok (fun v G H s1 ok hv => ?_)
            have sg := sg.trans s1
            cases hm
            have hf0 := hret24 _ rfl
            rw [hf0] at hmo23
            have hmx0 := hmo23
            cases hmx0
            have hf1 := hret7 _ rfl
            rw [hf1] at hmo6
            have hmx1 := hmo6
            cases hmx1
            exact q v G H sg (ok.less hB) hv
          · have hm := cond_f hb hm
            have h_l_sizes_here := dp_up s1 _ h_l_sizes_here
            have h_l_arrows_here := dp_up s1 _ h_l_arrows_here
            have h_l_some := dp_up s1 _ h_l_some
            have h_l_span_here := dp_up s1 _ h_l_span_here
            have h_l_arrow_here := dp_up s1 _ h_l_arrow_here
            have h_l_due := dp_up s1 _ h_l_due
            have h_l_told := dp_up s1 _ h_l_told
            have sg := sg.trans s1
            have sl26 := sl26.trans s1
            have sl9 := sl9.trans s1
            refine q_nilU ?_
            refine q_nil ?_
            cases hm
            exact hN _ _ _ _ _ rfl sl26 ok ⟨_, _, _, rfl, hB⟩
        · obtain ⟨y_l_due, y_l_told, y_l_arrow_here, rfl, hB⟩ := hj
          have h_l_sizes_here := dp_up s1 _ h_l_sizes_here
          have h_l_arrows_here := dp_up s1 _ h_l_arrows_here
          have h_l_some := dp_up s1 _ h_l_some
          have h_l_span_here := dp_up s1 _ h_l_span_here
          have h_l_told := dp_up s1 _ h_l_told
          have sg := sg.trans s1
          have sl9 := sl9.trans s1
          rw [hfin] at hm
          have hm := orR_l hm
          refine q_nil ?_
          cases hm
          exact hN _ _ _ _ _ rfl sl9 ok ⟨_, _, _, _, rfl, hB⟩
    · obtain ⟨y_l_told, y_l_arrow_here, y_l_due, y_l_turn, rfl, hB⟩ := hj
      have h_l_sizes_here := dp_up s1 _ h_l_sizes_here
      have h_l_arrows_here := dp_up s1 _ h_l_arrows_here
      have h_l_some := dp_up s1 _ h_l_some
      have h_l_span_here := dp_up s1 _ h_l_span_here
      have sg := sg.trans s1
      rw [hfin] at hm
      have hm := orR_l hm
      refine q_ret (ev_bl (K := K)) ok (fun v G H s1 ok hv => ?_)
      have sg := sg.trans s1
      cases hm
      exact q v G H sg (ok.less hB) hv
/-! ### _law_right -/
theorem sc__law_right : FnScope ["_law_store", "_law_turn", "_law_sizes_here", "_law_arrows_here", "_law_some", "_law_k"] ["_law_store"] (defScope s__law_right) := ⟨rfl, rfl, rfl, by decide +kernel, rfl, by decide +kernel, by decide +kernel⟩
def a__law_right (K : PySem.W.Frag) (a : Unit) : List V → Hp → Prop := nilP
def m__law_right (a : Unit) (z : Sto) : Option (Bool × Sto) :=
  (rngO (3 : Int)).bind fun t1 => (forR (R := Bool × Sto) (fun (st3 : Sto) (x4 : Int) => (m__law_sizes ((4 : Int), (9 : Int), (240 : Int)) st3).bind fun t9 => (m__law_arrows (t9.1, (5 : Int)) t9.2).bind fun t10 => (rngO (3 : Int)).bind fun t11 => (lcS (fun (x12 : Int) (x12z : Sto) => (m__law_arrow t9.1 x12z).bind fun t18 => some (t18.1, t18.2)) t11 t10.2).bind fun t19 => (catO t19.1 (cut t10.1 none (some (2 : Int)))).bind fun t20 => (m__law_small_right (t9.1, t10.1, t20)).bind fun t21 => cond (!t21) (some (.inr (false, t19.2))) (some (.inl t19.2))) t1 z).bind fun fin2 => orR fin2 (fun fin2s => (m__law_great_right () fin2s).bind fun t22 => some (t22.1, t22.2)) (fun r => some r)
abbrev sp__law_right (K : PySem.W.Frag) : Sp := spD (a__law_right K) (m__law_right) fun r => DD K (Dat.bool r)
theorem ok__law_right {P : Program} {w : World} {K : PySem.W.Frag} {mg : Str → Option Value} {base : Heap} (T : Txt K mg) (O__law_sizes : FnOk P w K mg base CX0 2 T.a__law_sizes T.d__law_sizes ["_law_store", "_law_many", "_law_most", "_law_bulk"] (sp__law_sizes K)) (O__law_arrows : FnOk P w K mg base CX0 3 T.a__law_arrows T.d__law_arrows ["_law_store", "_law_sizes_here", "_law_most"] (sp__law_arrows K)) (O__law_arrow : FnOk P w K mg base CX0 2 T.a__law_arrow T.d__law_arrow ["_law_store", "_law_sizes_here"] (sp__law_arrow K)) (O__law_small_right : FnOk P w K mg base CX0 14 T.a__law_small_right T.d__law_small_right ["_law_sizes_here", "_law_arrows_here", "_law_some"] (sp__law_small_right K)) (O__law_great_right : FnOk P w K mg base CX0 14 T.a__law_great_right T.d__law_great_right ["_law_store"] (sp__law_great_right K)) : FnOk P w K mg base CX0 (15) T.a__law_right T.d__law_right ["_law_store"] (sp__law_right K) := by
  refine T.F__law_right.ok sc__law_right (fun vs H Q E h => ?_) (fun cdv A outer s0 H vs Q E hr h => ?_)
  · obtain ⟨G, M0, s, z, z1, a, r, ws, rfl, ok, hs, rfl, hm, q⟩ := h
    rfl
  · obtain ⟨G, M0, s, z, z1, a, r, ws, rfl, ok, hs, rfl, hm, q⟩ := h
    unfold m__law_right at hm
    have sg := Same.refl G
    have hB : ∀ a u, a ≠ s → M0 a = some u → M0 a = some u := fun _ _ _ h => h
    refine ⟨_, (pss_cons (ps_for PassesOwn.never rfl (pi_range1 (by rfl) T.n_range (pa_cons pe_int pa_nil)) (pg_name (i := 1) sc__law_right.nd rfl (.inl rfl)) (pss_cons (ps_set (i := 2) sc__law_right.nd rfl (.inr rfl) (pe_call O__law_sizes (hr.mono (by decide)) (by rfl) T.g__law_sizes T.F__law_sizes.kp T.b__law_sizes .nil pass0 (pa_cons (pv 0) (pa_cons pe_int (pa_cons pe_int (pa_cons pe_int pa_nil)))))) (pss_cons (ps_par (i := 3) (j := 4) rfl sc__law_right.nd rfl rfl (by decide) rfl rfl (pa_cons (pe_call O__law_arrows (hr.mono (by decide)) (by rfl) T.g__law_arrows T.F__law_arrows.kp T.b__law_arrows .nil pass0 (pa_cons (pv 0) (pa_cons (pv 2) (pa_cons pe_int pa_nil)))) (pa_cons (pe_lc (own := [("_law_k", 5)]) (g := (gName 5)) (tt := tYes) rfl sc__law_right.nd (pi_range1 (by rfl) T.n_range (pa_cons pe_int pa_nil)) (blkOk_by (own := [("_law_k", 5)]) (N := ["_law_store", "_law_turn", "_law_sizes_here", "_law_arrows_here", "_law_some", "_law_k"]) (sc := defScope s__law_right) (by decide +kernel)) (fun _ _ _ _ _ => (pg_name (i := 5) sc__law_right.nd rfl (by first | exact .inl rfl | exact .inr rfl))) (fun _ _ _ _ _ => pts_nil) (fun _ _ _ _ _ => (pe_call O__law_arrow (hr.mono (by decide)) (by rfl) T.g__law_arrow T.F__law_arrow.kp T.b__law_arrow .nil pass0 (pa_cons (pv 0) (pa_cons (pv 2) pa_nil))))) pa_nil)) (by rfl)) (pss_cons (ps_if (pt_not (pt_val (pe_call O__law_small_right (hr.mono (by decide)) (by rfl) T.g__law_small_right T.F__law_small_right.kp T.b__law_small_right .nil pass0 (pa_cons (pv 2) (pa_cons (pv 3) (pa_cons (pe_op op_cat (pv 4) (pe_slice (sl_listK (K := K)) (pe_callTy (cl_listK (K := K)) (by rfl) T.n_list (by decide +kernel) (pa_cons (pv 3) pa_nil)) po_none (po_some pe_int))) pa_nil)))))) (pss_cons (ps_ret pe_bl) pss_nil) pss_nil) pss_nil)))) (pss_cons (ps_ret (pe_call O__law_great_right (hr.mono (by decide)) (by rfl) T.g__law_great_right T.F__law_great_right.kp T.b__law_great_right .nil pass0 (pa_cons (pv 0) pa_nil))) pss_nil)), ?_⟩
    refine nrm (σ' := [some (.ref s), none, none, none, none, none]) rfl ?_
    obtain ⟨t1, e_t1, hm⟩ := bs hm
    obtain ⟨fin2, e_fin2, hm⟩ := bs hm
    have hmo5 := hm
    refine q_forR (ea := Dat.int) (src_rngO e_t1 (ea_d (ev_int (K := K)) ea_nil)) ok (fun (st3 : Sto) σ1 G1 M1 => ∃ (y_l_sizes_here : Option V) (y_l_arrows_here : Option V) (y_l_some : Option V) (y_l_turn : Option V), σ1 = [some (.ref s), y_l_turn, y_l_sizes_here, y_l_arrows_here, y_l_some, none] ∧ (M1 s = some (sto st3)) ∧ (∀ a u, a ≠ s → M0 a = some u → M1 a = some u)) e_fin2 (fun G1 s1 => ⟨_, _, _, _, rfl, hs, hB⟩) (by rintro _ _ _ _ _ ⟨y_l_sizes_here, y_l_arrows_here, y_l_some, y_l_turn, rfl, hs, hB⟩ s2; exact ⟨_, _, _, _, rfl, hs, hB⟩) (fun x4 xv7 st3 st' σ1 G M H N hm hret6 hj s1 ok hv hN => ?_) (fun fin2s σ1 G M H hfin s1 ok hj => ?_)
    · obtain ⟨y_l_sizes_here, y_l_arrows_here, y_l_some, y_l_turn, rfl, hs, hB⟩ := hj
      have sg := sg.trans s1
      have sl8 := Same.refl G
      refine gn ?_
      have h_l_turn := hv
      cases h_l_turn
      refine nrm (σ' := [some (.ref s), some (.int x4), y_l_sizes_here, y_l_arrows_here, y_l_some, none]) rfl ?_
      obtain ⟨t9, e_t9, hm⟩ := bs hm
      refine q_set (σ' := fun v => [some (.ref s), some (.int x4), some v, y_l_arrows_here, y_l_some, none]) (ev_callD (a := ((4 : Int), (9 : Int), (240 : Int))) (r := t9.1) (z' := t9.2) hs e_t9 (ea_cons mo_ow (ev_own rfl) (ea_d (ev_int (K := K)) (ea_d (ev_int (K := K)) (ea_d (ev_int (K := K)) ea_nil))))) ok (fun _ => rfl) (fun v_l_sizes_here G H s1 ok h_l_sizes_here => ?_)
      have sg := sg.trans s1
      have sl8 := sl8.trans s1
      have ok : Ok _ (upd M s (sto t9.2)) _ := ok
      have hs : (upd M s (sto t9.2)) s = some (sto t9.2) := upd_same
      have hB : ∀ a u, a ≠ s → M0 a = some u → (upd M s (sto t9.2)) a = some u := (hB_draw hB)
      obtain ⟨M, eM⟩ : ∃ m, m = (upd M s (sto t9.2)) := ⟨_, rfl⟩
      rw [← eM] at ok hs hB
      clear eM
      obtain ⟨t10, e_t10, hm⟩ := bs hm
      obtain ⟨t11, e_t11, hm⟩ := bs hm
      obtain ⟨t19, e_t19, hm⟩ := bs hm
      refine q_par (σ' := fun v w => [some (.ref s), some (.int x4), some v_l_sizes_here, some v, some w, none]) (ea_d (ev_callD (a := (t9.1, (5 : Int))) (r := t10.1) (z' := t10.2) hs e_t10 (ea_cons mo_ow (ev_own rfl) (ea_d (ev_d (K := K) rfl h_l_sizes_here) (ea_d (ev_int (K := K)) ea_nil)))) (ea_d (EvL.ev (el_lcMD (ea := Dat.int) (eb := (eT Dat.int)) (xs := t11) (r := t19) (hf := e_t19) (src_rngO e_t11 (ea_d (ev_int (K := K)) ea_nil)) upd_same (fun x12 _ x12z _ Mx16 _ _ he17 sM15 hzx12 sG14 hv13 => by (obtain ⟨t18, e_t18, he17⟩ := bs he17); cases he17; exact (tg_name ⟨rfl, (ev_callD (a := t9.1) (r := t18.1) (z' := t18.2) hzx12 e_t18 (ea_cons mo_ow (ev_own rfl) (ea_d (ev_d (K := K) rfl (dp_up sG14 _ h_l_sizes_here)) ea_nil)))⟩)))) ea_nil)) ok (fun _ _ => rfl) (fun v_l_arrows_here v_l_some G H s1 ok h_l_arrows_here h_l_some => ?_)
      have h_l_sizes_here := dp_up s1 _ h_l_sizes_here
      have sg := sg.trans s1
      have sl8 := sl8.trans s1
      have ok : Ok _ (upd (upd M s (sto t10.2)) s (sto t19.2)) _ := ok
      have hs : (upd (upd M s (sto t10.2)) s (sto t19.2)) s = some (sto t19.2) := upd_same
      have hB : ∀ a u, a ≠ s → M0 a = some u → (upd (upd M s (sto t10.2)) s (sto t19.2)) a = some u := (hB_draw (hB_draw hB))
      obtain ⟨M, eM⟩ : ∃ m, m = (upd (upd M s (sto t10.2)) s (sto t19.2)) := ⟨_, rfl⟩
      rw [← eM] at ok hs hB
      clear eM
      obtain ⟨t20, e_t20, hm⟩ := bs hm
      obtain ⟨t21, e_t21, hm⟩ := bs hm
      refine q_if (et_not (et_B (ev_callP (a := (t9.1, t10.1, t20)) e_t21 (ea_d (ev_d (K := K) rfl h_l_sizes_here) (ea_d (ev_d (K := K) rfl h_l_arrows_here) (ea_d (EvL.ev (el_catO (e := (eT Dat.int)) e_t20 (ev_d (K := K) rfl h_l_some) (EvL.ev (el_slLM (e := (eT Dat.int)) (EvL.ev (el_listT (ea_d (ev_d (K := K) rfl h_l_arrows_here) ea_nil))) eo_none (eo_some (ev_int (K := K))))))) ea_nil)))))) ok (fun hb G H s1 ok => ?_) (fun hb G H s1 ok => ?_)
      · have hm := cond_t hb hm
        have h_l_sizes_here := dp_up s1 _ h_l_sizes_here
        have h_l_arrows_here := dp_up s1 _ h_l_arrows_here
        have h_l_some := dp_up s1 _ h_l_some
        have sg := sg.trans s1
        have sl8 := sl8.trans s1
        refine q_ret (ev_bl (K := K)) ok (fun v G H s1 ok hv => ?_)
        have sg := sg.trans s1
        cases hm
        have hf0 := hret6 _ rfl
        rw [hf0] at hmo5
        have hmx0 := hmo5
        cases hmx0
        exact q v G H sg (ok.less (same_fin hB hs)) hv
      · have hm := cond_f hb hm
        have h_l_sizes_here := dp_up s1 _ h_l_sizes_here
        have h_l_arrows_here := dp_up s1 _ h_l_arrows_here
        have h_l_some := dp_up s1 _ h_l_some
        have sg := sg.trans s1
        have sl8 := sl8.trans s1
        refine q_nilU ?_
        refine q_nil ?_
        cases hm
        exact hN _ _ _ _ _ rfl sl8 ok ⟨_, _, _, _, rfl, hs, hB⟩
    · obtain ⟨y_l_sizes_here, y_l_arrows_here, y_l_some, y_l_turn, rfl, hs, hB⟩ := hj
      have sg := sg.trans s1
      rw [hfin] at hm
      have hm := orR_l hm
      obtain ⟨t22, e_t22, hm⟩ := bs hm
      refine q_ret (ev_callD (a := ()) (r := t22.1) (z' := t22.2) hs e_t22 (ea_cons mo_ow (ev_own rfl) ea_nil)) ok (fun v G H s1 ok hv => ?_)
      have sg := sg.trans s1
      have ok : Ok _ (upd M s (sto t22.2)) _ := ok
      have hs : (upd M s (sto t22.2)) s = some (sto t22.2) := upd_same
      have hB : ∀ a u, a ≠ s → M0 a = some u → (upd M s (sto t22.2)) a = some u := (hB_draw hB)
      obtain ⟨M, eM⟩ : ∃ m, m = (upd M s (sto t22.2)) := ⟨_, rfl⟩
      rw [← eM] at ok hs hB
      clear eM
      cases hm
      exact q v G H sg (ok.less (same_fin hB hs)) hv
/-! ### law -/
theorem sc_law : FnScope ["_law_script", "_law_k"] ["_law_script"] (defScope s_law) := ⟨rfl, rfl, rfl, by decide +kernel, rfl, by decide +kernel, by decide +kernel⟩
def a_law (K : PySem.W.Frag) (a : (List Int)) : List V → Hp → Prop := conP (SCP K a) (nilP)
def m_law (a : (List Int)) : Option Bool :=
  (rngO (if (if (6 : Int) < (a.length : Int) then (6 : Int) else (a.length : Int)) > (2 : Int) then (if (6 : Int) < (a.length : Int) then (6 : Int) else (a.length : Int)) else (2 : Int))).bind fun t1 => (lcO (fun x2 : Int => (m__law_opened (a, x2)).bind fun t8 => (m__law_right () t8).bind fun t9 => some t9.1) t1).bind fun t10 => some (t10.all id)
abbrev sp_law (K : PySem.W.Frag) : Sp := spP (a_law K) (m_law) fun r => DD K (Dat.bool r)
theorem ok_law {P : Program} {w : World} {K : PySem.W.Frag} {mg : Str → Option Value} {base : Heap} (T : Txt K mg) (O__law_right : FnOk P w K mg base CX0 15 T.a__law_right T.d__law_right ["_law_store"] (sp__law_right K)) (O__law_opened : FnOk P w K mg base CX0 1 T.a__law_opened T.d__law_opened ["_law_script", "_law_k"] (sp__law_opened K)) : FnOk P w K mg base CX0 (16) T.a_law T.d_law ["_law_script"] (sp_law K) := by
  refine T.F_law.ok sc_law (fun vs H Q E h => ?_) (fun cdv A outer s0 H vs Q E hr h => ?_)
  · obtain ⟨G, M0, a, r, ok, ⟨v_l_script, _, rfl, h_l_script, rfl⟩, hm, q⟩ := h
    rfl
  · obtain ⟨G, M0, a, r, ok, ⟨v_l_script, _, rfl, h_l_script, rfl⟩, hm, q⟩ := h
    unfold m_law at hm
    have sg := Same.refl G
    have hB := Same.refl M0
    refine ⟨_, (pss_cons (ps_ret (pe_callB (cr_allK (K := K) rfl) (by rfl) T.n_all (by decide +kernel) (pa_cons (pe_lc (own := [("_law_k", 1)]) (g := (gName 1)) (tt := tYes) rfl sc_law.nd (pi_range1 (by rfl) T.n_range (pa_cons (pe_callB (cl_max2 rfl) (by rfl) T.n_max (by decide +kernel) (pa_cons pe_int (pa_cons (pe_callB (cl_min2 rfl) (by rfl) T.n_min (by decide +kernel) (pa_cons (pe_callB (cl_lenK (K := K)) (by rfl) T.n_len (by decide +kernel) (pa_cons (pv 0) pa_nil)) (pa_cons pe_int pa_nil))) pa_nil))) pa_nil)) (blkOk_by (own := [("_law_k", 1)]) (N := ["_law_script", "_law_k"]) (sc := defScope s_law) (by decide +kernel)) (fun _ _ _ _ _ => (pg_name (i := 1) sc_law.nd rfl (by first | exact .inl rfl | exact .inr rfl))) (fun _ _ _ _ _ => pts_nil) (fun _ _ _ _ _ => (pe_call O__law_right (hr.mono (by decide)) (by rfl) T.g__law_right T.F__law_right.kp T.b__law_right .nil pass0 (pa_cons (pe_call O__law_opened (hr.mono (by decide)) (by rfl) T.g__law_opened T.F__law_opened.kp T.b__law_opened .nil pass0 (pa_cons (pv 0) (pa_cons (pv 1) pa_nil))) pa_nil)))) pa_nil))) pss_nil), ?_⟩
    refine nrm (σ' := [some v_l_script, none]) rfl ?_
    obtain ⟨t1, e_t1, hm⟩ := bs hm
    obtain ⟨t10, e_t10, hm⟩ := bs hm
    refine q_ret (ev_allL (ea_d (EvL.ev (el_lcM (ea := Dat.int) (eb := Dat.bool) (xs := t1) (ys := t10) (hf := e_t10) (src_rngO e_t1 (ea_d (ev_max2 (ea_d (ev_int (K := K)) (ea_d (ev_min2 (ea_d (ev_lenScr (ea_cons mo_scp (ev_var rfl mo_scp h_l_script) ea_nil)) (ea_d (ev_int (K := K)) ea_nil))) ea_nil))) ea_nil)) (fun x2 _ Mx6 _ _ he7 sM5 sG4 hv3 => by (obtain ⟨t8, e_t8, he7⟩ := bs he7); (obtain ⟨t9, e_t9, he7⟩ := bs he7); cases he7; exact (tg_name ⟨rfl, (ev_open (a := (a, x2)) e_t8 e_t9 (fun _ => rfl) (ea_cons mo_scp (ev_var rfl mo_scp (mo_scp _ _ _ sG4 h_l_script)) (ea_cons mo_dd (ev_d (K := K) rfl hv3) ea_nil)))⟩)))) ea_nil)) ok (fun v G H s1 ok hv => ?_)
    have sg := sg.trans s1
    cases hm
    exact q v G H sg (ok.less hB) hv
end K32

end

section
set_option maxHeartbeats 2000000
namespace Mx
open PySem L2 Kx
/-! ### what a mirror tells, by what is wanted of it -/
def Wp {α : Type} (o : Option α) (P : α → Prop) : Prop := ∃ r, o = some r ∧ P r
section
variable {α β γ S R : Type}
theorem wp_some {r : α} {P : α → Prop} (h : P r) : Wp (some r) P := ⟨r, rfl, h⟩
theorem wp_bind {o : Option α} {f : α → Option β} {P : α → Prop} {Q : β → Prop} (h : Wp o P) (k : ∀ r, P r → Wp (f r) Q) : Wp (o.bind f) Q := by
  obtain ⟨r, e, p⟩ := h
  obtain ⟨s, e2, q⟩ := k r p
  exact ⟨s, by rw [e]; exact e2, q⟩
theorem Wp.imp {o : Option α} {P Q : α → Prop} (h : Wp o P) (k : ∀ r, P r → Q r) : Wp o Q := by
  obtain ⟨r, e, p⟩ := h
  exact ⟨r, e, k r p⟩
theorem wp_cond {b : Bool} {x y : Option α} {P : α → Prop} (h1 : b = true → Wp x P) (h2 : b = false → Wp y P) : Wp (cond b x y) P := by
  cases b with
  | true => exact h1 rfl
  | false => exact h2 rfl
theorem wp_grd {p : Prop} [Decidable p] (h : p) : Wp (grd p) fun _ => True := ⟨(), grd_yes h, trivial⟩
theorem wp_mulO {i j : Int} {P : Int → Prop} (h : CMulO i j) (k : P (i * j)) : Wp (mulO i j) P := wp_bind (wp_grd h) fun _ _ => wp_some k
theorem wp_fdivO {i j : Int} {P : Int → Prop} (h : CDivN i j) (k : P (i.fdiv j)) : Wp (fdivO i j) P := wp_bind (wp_grd (.inl h)) fun _ _ => wp_some k
theorem wp_fdivW {i j : Int} {P : Int → Prop} (h : CDivW i j) (k : P (i.fdiv j)) : Wp (fdivO i j) P := wp_bind (wp_grd (.inr h)) fun _ _ => wp_some k
theorem wp_modO {i j : Int} {P : Int → Prop} (h : j ≠ 0) (k : P (i.fmod j)) : Wp (modO i j) P := wp_bind (wp_grd h) fun _ _ => wp_some k
theorem wp_powO {i j : Int} {P : Int → Prop} (h : CPow i j) (k : P (i ^ j.toNat)) : Wp (powO i j) P := wp_bind (wp_grd h) fun _ _ => wp_some k
theorem cdivw {i j : Int} {n : Nat} (h1 : 0 < j) (h2 : j < 2 ^ 200) : CDivW i j := ⟨h1, Nat.lt_of_lt_of_le (PySem.Flt.log2_lt_of (k := 200) (by decide) (by omega)) (by decide)⟩
theorem wp_dmO {i j : Int} {P : Int × Int → Prop} (h : CDivW i j) (k : P (i / j, i % j)) : Wp (dmO i j) P := wp_bind (wp_grd h) fun _ _ => wp_some k
theorem wp_is {o : Option α} {x : α} {P : α → Prop} (h : o = some x) (k : P x) : Wp o P := ⟨x, h, k⟩
theorem wp_appO {xs : List α} {x : α} {P : List α → Prop} (h : xs.length < 16777216) (k : P (xs ++ [x])) : Wp (appO xs x) P := wp_bind (wp_grd h) fun _ _ => wp_some k
theorem wp_catO {xs ys : List α} {P : List α → Prop} (h : xs.length + ys.length ≤ 16777216) (k : P (xs ++ ys)) : Wp (catO xs ys) P := wp_bind (wp_grd h) fun _ _ => wp_some k
theorem wp_repO {x : α} {n : Int} {P : List α → Prop} (h : -16777216 ≤ n ∧ n < 16777216) (k : P (List.replicate n.toNat x)) : Wp (repO x n) P := wp_bind (wp_grd h) fun _ _ => wp_some k
theorem wp_rngO {n : Int} {P : List Int → Prop} (h : -(2 ^ 62) ≤ n ∧ n < 2 ^ 62) (k : P (irange 0 n)) : Wp (rngO n) P := wp_bind (wp_grd h) fun _ _ => wp_some k
theorem wp_rng2O {m n : Int} {P : List Int → Prop} (h : (-(2 ^ 62) ≤ m ∧ m < 2 ^ 62) ∧ -(2 ^ 62) ≤ n ∧ n < 2 ^ 62) (k : P (irange m n)) : Wp (rng2O m n) P := wp_bind (wp_grd h) fun _ _ => wp_some k
theorem wp_rngN {n : Nat} {P : List Int → Prop} (h : n ≤ 16777216) (k : P (irange 0 (n : Int))) : Wp (rngO (n : Int)) P := wp_rngO (by omega) k
theorem wp_setO {xs : List α} {i : Nat} {x : α} {P : List α → Prop} (h : i < xs.length) (k : P (xs.set i x)) : Wp (setO xs (i : Int) x) P := by
  unfold setO ixN
  rw [if_pos (by omega), if_pos (by omega)]
  exact wp_some k
theorem atI_nat' {xs : List α} {i : Nat} (h : i < xs.length) : atI xs (i : Int) = some xs[i] := by
  unfold atI ixN
  rw [if_pos (by omega), if_pos (by omega)]
  show xs[(i : Int).toNat]? = _
  rw [Int.toNat_natCast]
  exact List.getElem?_eq_getElem h
theorem wp_atI {xs : List α} {i : Nat} {P : α → Prop} (h : i < xs.length) (k : P xs[i]) : Wp (atI xs (i : Int)) P := ⟨_, atI_nat' h, k⟩
/-- a comprehension: each element by what is wanted of it -/
theorem wp_mapO {f : α → Option β} {T : α → β → Prop} : ∀ {xs : List α}, (∀ x ∈ xs, Wp (f x) (T x)) → Wp (mapO f xs) fun ys => ys.length = xs.length ∧ ∀ (i : Nat) (x : α) (y : β), xs[i]? = some x → ys[i]? = some y → T x y
  | [], _ => wp_some ⟨rfl, fun i x y h => by simp at h⟩
  | a :: xs, h => by
    refine wp_bind (h a List.mem_cons_self) fun b hb => wp_bind (wp_mapO fun x hx => h x (List.mem_cons_of_mem _ hx)) fun ys hys => wp_some ⟨congrArg (· + 1) hys.1, fun i x y hx hy => ?_⟩
    cases i with
    | zero => simp at hx hy; subst hx; subst hy; exact hb
    | succ i => exact hys.2 i x y (by simpa using hx) (by simpa using hy)
theorem wp_lcO {f : α → Option β} {xs : List α} {P : List β → Prop} (T : α → β → Prop) (hl : xs.length ≤ 16777216) (h : ∀ x ∈ xs, Wp (f x) (T x)) (k : ∀ ys, ys.length = xs.length → (∀ (i : Nat) (x : α) (y : β), xs[i]? = some x → ys[i]? = some y → T x y) → P ys) : Wp (lcO f xs) P :=
  wp_bind (wp_grd hl) fun _ _ => (wp_mapO h).imp fun ys hy => k ys hy.1 hy.2
/-- its elements are a function of the items -/
theorem wp_lcO_map {f : α → Option β} {xs : List α} {P : List β → Prop} (g : α → β) (hl : xs.length ≤ 16777216) (h : ∀ x ∈ xs, f x = some (g x)) (k : P (xs.map g)) : Wp (lcO f xs) P :=
  wp_lcO (fun x y => y = g x) hl (fun x hx => ⟨g x, h x hx, rfl⟩) fun ys h1 h2 => by
    have : ys = xs.map g := by
      apply List.ext_getElem?
      intro i
      rw [List.getElem?_map]
      by_cases hi : i < xs.length
      · rw [List.getElem?_eq_getElem hi, List.getElem?_eq_getElem (by omega)]
        exact congrArg some (h2 i xs[i] ys[i] (List.getElem?_eq_getElem hi) (List.getElem?_eq_getElem (by omega)))
      · rw [List.getElem?_eq_none (by omega), List.getElem?_eq_none (by omega)]
        rfl
    rw [this]
    exact k
theorem wp_mapS {f : α → Sto → Option (β × Sto)} {T : α → β → Prop} : ∀ {xs : List α} {z : Sto}, (∀ x ∈ xs, ∀ z, Wp (f x z) fun r => T x r.1) → Wp (mapS f xs z) fun r => r.1.length = xs.length ∧ ∀ (i : Nat) (x : α) (y : β), xs[i]? = some x → r.1[i]? = some y → T x y
  | [], z, _ => wp_some ⟨rfl, fun i x y h => by simp at h⟩
  | a :: xs, z, h => by
    refine wp_bind (h a List.mem_cons_self z) fun b hb => wp_bind (wp_mapS fun x hx => h x (List.mem_cons_of_mem _ hx)) fun ys hys => wp_some ⟨congrArg (· + 1) hys.1, fun i x y hx hy => ?_⟩
    cases i with
    | zero => simp at hx hy; subst hx; subst hy; exact hb
    | succ i => exact hys.2 i x y (by simpa using hx) (by simpa using hy)
theorem wp_lcS {f : α → Sto → Option (β × Sto)} {xs : List α} {z : Sto} {P : List β × Sto → Prop} (T : α → β → Prop) (hl : xs.length ≤ 16777216) (h : ∀ x ∈ xs, ∀ z, Wp (f x z) fun r => T x r.1) (k : ∀ r : List β × Sto, r.1.length = xs.length → (∀ (i : Nat) (x : α) (y : β), xs[i]? = some x → r.1[i]? = some y → T x y) → P r) : Wp (lcS f xs z) P :=
  wp_bind (wp_grd hl) fun _ _ => (wp_mapS h).imp fun ys hy => k ys hy.1 hy.2
/-- a for, by an invariant over the turn -/
theorem wp_forO_at {f : S → α → Option S} {xs : List α} {P : S → Prop} (I : Nat → S → Prop) (hs : ∀ (i : Nat) (x : α) (s : S), xs[i]? = some x → I i s → Wp (f s x) (I (i + 1))) (hd : ∀ s, I xs.length s → P s) : ∀ (i : Nat) (s : S), i ≤ xs.length → I i s → Wp (forO f (xs.drop i) s) P := by
  intro i
  generalize hn : xs.length - i = n
  induction n generalizing i with
  | zero =>
    intro s hi h
    have e : i = xs.length := by omega
    subst e
    rw [List.drop_length]
    exact wp_some (hd s h)
  | succ n ih =>
    intro s hi h
    have hlt : i < xs.length := by omega
    rw [List.drop_eq_getElem_cons hlt]
    exact wp_bind (hs i xs[i] s (List.getElem?_eq_getElem hlt) h) fun s' h' => ih (i + 1) (by omega) s' (by omega) h'
theorem wp_forO {f : S → α → Option S} {xs : List α} {s : S} {P : S → Prop} (I : Nat → S → Prop) (h0 : I 0 s) (hs : ∀ (i : Nat) (x : α) (s : S), xs[i]? = some x → I i s → Wp (f s x) (I (i + 1))) (hd : ∀ s, I xs.length s → P s) : Wp (forO f xs s) P :=
  wp_forO_at I hs hd 0 s (Nat.zero_le _) h0
/-- a for that may return: J of what is handed on, Pr of what is returned -/
theorem wp_forR {f : S → α → Option (S ⊕ R)} {xs : List α} {s : S} {P : S ⊕ R → Prop} (I : S → Prop) (h0 : I s) (hs : ∀ x ∈ xs, ∀ s, I s → Wp (f s x) fun r => ∃ s', r = .inl s' ∧ I s') (hd : ∀ s, I s → P (.inl s)) : Wp (forR f xs s) P := by
  induction xs generalizing s with
  | nil => exact wp_some (hd s h0)
  | cons a xs ih =>
    refine wp_bind (hs a List.mem_cons_self s h0) fun r hr => ?_
    obtain ⟨s', rfl, h'⟩ := hr
    exact ih h' fun x hx => hs x (List.mem_cons_of_mem _ hx)
theorem wp_whileO {c : S → Option Bool} {f : S → Option S} {P : S → Prop} (I : S → Prop) (μ : S → Nat) (hs : ∀ s, I s → Wp (c s) fun b => (b = true → Wp (f s) fun s' => I s' ∧ μ s' < μ s) ∧ (b = false → P s)) : ∀ (n : Nat) (s : S), I s → μ s < n → Wp (whileO c f n s) P
  | 0, s, _, h => absurd h (Nat.not_lt_zero _)
  | n + 1, s, hI, h => by
    refine wp_bind (hs s hI) fun b hb => wp_cond (fun e => ?_) (fun e => wp_some (hb.2 e))
    exact wp_bind (hb.1 e) fun s' h' => wp_whileO I μ hs n s' h'.1 (by omega)
end
/-! ### ranges -/
theorem irange_nat (n : Nat) : irange 0 (n : Int) = (List.range n).map fun k : Nat => (k : Int) := by
  unfold irange
  rw [Int.sub_zero, Int.toNat_natCast]
  apply List.map_congr_left
  intro a _
  exact Int.zero_add _
theorem irange_nat_len (n : Nat) : (irange 0 (n : Int)).length = n := by rw [irange_len]; omega
theorem irange_at {n i : Nat} {x : Int} (h : (irange 0 (n : Int))[i]? = some x) : i < n ∧ x = (i : Int) := by
  have hl : i < (irange 0 (n : Int)).length := (List.getElem?_eq_some_iff.mp h).1
  rw [irange_nat_len] at hl
  rw [irange_get (by omega)] at h
  cases h
  exact ⟨hl, by omega⟩
theorem irange_mem {n : Nat} {x : Int} (h : x ∈ irange 0 (n : Int)) : ∃ i : Nat, i < n ∧ x = (i : Int) := by
  obtain ⟨i, hi, e⟩ := List.mem_iff_getElem.mp h
  exact ⟨i, irange_at (by rw [← e]; exact List.getElem?_eq_getElem hi)⟩
theorem irange2_at {m n i : Nat} {x : Int} (h : (irange (m : Int) (n : Int))[i]? = some x) : m + i < n ∧ x = ((m + i : Nat) : Int) := by
  have hl : i < (irange (m : Int) (n : Int)).length := (List.getElem?_eq_some_iff.mp h).1
  rw [irange_len] at hl
  rw [irange_get hl] at h
  cases h
  exact ⟨by omega, by omega⟩
theorem irange2_len {m n : Nat} : (irange (m : Int) (n : Int)).length = n - m := by rw [irange_len]; omega
theorem enum_at {α : Type} {xs : List α} {i : Nat} {p : Int × α} (h : (enum xs)[i]? = some p) : ∃ x, xs[i]? = some x ∧ p = ((i : Int), x) := by
  unfold enum at h
  rw [List.getElem?_mapIdx] at h
  cases e : xs[i]? with
  | none => rw [e] at h; cases h
  | some x => rw [e] at h; cases h; exact ⟨x, rfl, rfl⟩
theorem enum_len {α : Type} {xs : List α} : (enum xs).length = xs.length := by unfold enum; simp
theorem cut_from {α : Type} (xs : List α) (p : Nat) : cut xs (some (p : Int)) none = xs.drop p := by
  unfold cut
  rw [HT.sIx_none, HT.sIx_nat, show List.take (xs.length - min p xs.length) (List.drop (min p xs.length) xs) = List.drop (min p xs.length) xs from List.take_of_length_le (by rw [List.length_drop]; omega)]
  by_cases h : p ≤ xs.length
  · rw [Nat.min_eq_left h]
  · rw [Nat.min_eq_right (by omega), List.drop_length, List.drop_of_length_le (by omega)]
theorem cut_to {α : Type} (xs : List α) (p : Nat) : cut xs none (some (p : Int)) = xs.take p := by
  unfold cut
  rw [HT.sIx_none, HT.sIx_nat, List.drop_zero, Nat.sub_zero]
  by_cases h : p ≤ xs.length
  · rw [Nat.min_eq_left h]
  · rw [Nat.min_eq_right (by omega), List.take_length, List.take_of_length_le (by omega)]
end Mx

end

section
set_option maxHeartbeats 2000000
namespace Mx
/-! ### rows of numbers as functions -/
abbrev Vc := Nat → Int
def vf (l : List Int) : Vc := fun i => l.getD i 0
theorem vf_at {l : List Int} {i : Nat} (h : i < l.length) : vf l i = l[i] := by unfold vf; simp [List.getD, h]
theorem vf_get {l : List Int} {i : Nat} {x : Int} (h : l[i]? = some x) : vf l i = x := by unfold vf; simp [List.getD, h]
theorem vf_out {l : List Int} {i : Nat} (h : l.length ≤ i) : vf l i = 0 := by unfold vf; simp [List.getD, h]
theorem vf_ext {l l' : List Int} (hl : l.length = l'.length) (h : ∀ i, i < l.length → vf l i = vf l' i) : l = l' := by
  apply List.ext_getElem hl
  intro i h1 h2
  have := h i h1
  rw [vf_at h1, vf_at h2] at this
  exact this
theorem vf_zero (n i : Nat) : vf (List.replicate n 0) i = 0 := by
  by_cases h : i < n
  · rw [vf_at (by rw [List.length_replicate]; exact h)]; simp
  · exact vf_out (by rw [List.length_replicate]; omega)
/-- sums: so often each of the rows -/
def lin : List Int → List (List Int) → Nat → Int
  | c :: cs, v :: vs, i => c * vf v i + lin cs vs i
  | _, _, _ => 0
theorem lin_less {t : Int} {i : Nat} : ∀ {a b r : List Int} {vs : List (List Int)}, a.length = vs.length → b.length = vs.length → r.length = vs.length → (∀ j, vf r j = vf a j - t * vf b j) → lin r vs i = lin a vs i - t * lin b vs i
  | [], [], [], [], _, _, _, _ => by simp [lin]
  | x :: a, y :: b, z :: r, v :: vs, h1, h2, h3, h => by
    have e0 : z = x - t * y := h 0
    have ih := lin_less (t := t) (i := i) (a := a) (b := b) (r := r) (vs := vs) (by simpa using h1) (by simpa using h2) (by simpa using h3) (fun j => h (j + 1))
    simp only [lin]
    rw [ih, e0, Int.sub_mul, Int.mul_add, Int.mul_assoc]
    omega
  | [], [], _ :: _, [], _, _, h, _ => by simp at h
  | [], _ :: _, _, [], _, h, _, _ => by simp at h
  | _ :: _, _, _, [], h, _, _, _ => by simp at h
  | [], _, _, _ :: _, h, _, _, _ => by simp at h
  | _ :: _, [], _, _ :: _, _, h, _, _ => by simp at h
  | _ :: _, _ :: _, [], _ :: _, _, _, h, _ => by simp at h
theorem lin_zero {i : Nat} : ∀ (n : Nat) (vs : List (List Int)), lin (List.replicate n 0) vs i = 0
  | 0, vs => by simp [lin]
  | n + 1, [] => by simp [lin]
  | n + 1, v :: vs => by
    rw [List.replicate_succ]
    simp only [lin]
    rw [lin_zero n vs]
    omega
/-- one of them, once -/
theorem lin_unit {i k : Nat} {v : List Int} : ∀ {cs : List Int} {vs : List (List Int)}, cs.length = vs.length → vs[k]? = some v → (∀ j, j < cs.length → vf cs j = if j = k then 1 else 0) → lin cs vs i = vf v i
  | [], [], _, h, _ => by simp at h
  | c :: cs, w :: vs, hl, h, hc => by
    simp only [lin]
    have c0 := hc 0 (by simp)
    cases k with
    | zero =>
      simp at h
      subst h
      have e : c = 1 := by simpa [vf] using c0
      have z : ∀ (cs : List Int) (vs : List (List Int)), (∀ j, j < cs.length → vf cs j = 0) → lin cs vs i = 0 := by
        intro cs
        induction cs with
        | nil => intro vs _; simp [lin]
        | cons d ds ih =>
          intro vs hz
          cases vs with
          | nil => simp [lin]
          | cons u us =>
            simp only [lin]
            have e0 : d = 0 := by simpa [vf] using hz 0 (by simp)
            rw [e0, ih us fun j hj => by simpa [vf] using hz (j + 1) (by simpa using hj)]
            omega
      rw [z cs vs fun j hj => by
        have := hc (j + 1) (by simpa using hj)
        simpa [vf] using this, e]
      omega
    | succ k =>
      have e : c = 0 := by simpa [vf] using c0
      have ih := lin_unit (i := i) (k := k) (v := v) (cs := cs) (vs := vs) (by simpa using hl) (by simpa using h) fun j hj => by
        have := hc (j + 1) (by simpa using hj)
        simpa [vf] using this
      rw [ih, e]
      omega
  | [], _ :: _, h, _, _ => by simp at h
  | _ :: _, [], h, _, _ => by simp at h
/-! ### all that is spanned -/
inductive Spn (S : Vc → Prop) : Vc → Prop
  | zero : Spn S fun _ => 0
  | add {x g : Vc} : Spn S x → S g → Spn S fun i => x i + g i
  | sub {x g : Vc} : Spn S x → S g → Spn S fun i => x i - g i
section
variable {S T : Vc → Prop}
theorem Spn.is {x y : Vc} (h : Spn S x) (e : ∀ i, x i = y i) : Spn S y := by
  have : x = y := funext e
  exact this ▸ h
theorem Spn.of {g : Vc} (h : S g) : Spn S g := (Spn.add .zero h).is fun i => by (try dsimp only); omega
theorem Spn.plus {x y : Vc} (hx : Spn S x) (hy : Spn S y) : Spn S fun i => x i + y i := by
  induction hy with
  | zero => exact hx.is fun i => by (try dsimp only); omega
  | add _ hg ih => exact (Spn.add ih hg).is fun i => by (try dsimp only); omega
  | sub _ hg ih => exact (Spn.sub ih hg).is fun i => by (try dsimp only); omega
theorem Spn.neg {x : Vc} (hx : Spn S x) : Spn S fun i => - x i := by
  induction hx with
  | zero => exact Spn.zero.is fun i => by (try dsimp only); omega
  | add _ hg ih => exact (Spn.sub ih hg).is fun i => by (try dsimp only); omega
  | sub _ hg ih => exact (Spn.add ih hg).is fun i => by (try dsimp only); omega
theorem Spn.minus {x y : Vc} (hx : Spn S x) (hy : Spn S y) : Spn S fun i => x i - y i := (hx.plus hy.neg).is fun i => by (try dsimp only); omega
theorem Spn.nat {x : Vc} (hx : Spn S x) : ∀ n : Nat, Spn S fun i => (n : Int) * x i
  | 0 => Spn.zero.is fun i => by simp
  | n + 1 => ((Spn.nat hx n).plus hx).is fun i => by
    rw [show ((n + 1 : Nat) : Int) = (n : Int) + 1 by omega, Int.add_mul]
    omega
theorem Spn.mul {x : Vc} (hx : Spn S x) (c : Int) : Spn S fun i => c * x i := by
  by_cases h : 0 ≤ c
  · exact (hx.nat c.toNat).is fun i => by rw [Int.toNat_of_nonneg h]
  · exact (hx.nat (-c).toNat).neg.is fun i => by rw [Int.toNat_of_nonneg (by omega), Int.neg_mul]; omega
theorem Spn.into {x : Vc} (h : Spn S x) (k : ∀ g, S g → Spn T g) : Spn T x := by
  induction h with
  | zero => exact .zero
  | add _ hg ih => exact ih.plus (k _ hg)
  | sub _ hg ih => exact ih.minus (k _ hg)
/-- a closed thing that holds of the generators holds of all spanned -/
theorem Spn.ind {x : Vc} {P : Vc → Prop} (h : Spn S x) (z : P fun _ => 0) (a : ∀ x y, P x → P y → P fun i => x i + y i) (n : ∀ x, P x → P fun i => - x i) (g : ∀ g, S g → P g) : P x := by
  induction h with
  | zero => exact z
  | add _ hg ih => exact a _ _ ih (g _ hg)
  | @sub x g' _ hg ih =>
    have := a _ _ ih (n _ (g _ hg))
    have e : (fun i => x i + -g' i) = fun i => x i - g' i := funext fun i => by (try dsimp only); omega
    rw [e] at this
    exact this
end
/-! ### rungs: noughts ahead, a step above 0 at the place -/
structure Tri (n : Nat) (r : Nat → Vc) : Prop where
  ahead : ∀ p, p < n → ∀ i, i < p → r p i = 0
  pos : ∀ p, p < n → 0 < r p p
  out : ∀ p, p < n → ∀ i, n ≤ i → r p i = 0
def RungsS (n : Nat) (r : Nat → Vc) (k : Nat) : Vc → Prop := fun g => ∃ p, k ≤ p ∧ p < n ∧ ∀ i, g i = r p i
/-- by place: what can be gone down to nothing -/
def Down (n : Nat) (r : Nat → Vc) : Nat → Nat → Vc → Prop
  | 0, _, x => ∀ i, x i = 0
  | m + 1, p, x => ∃ c : Int, x p = c * r p p ∧ Down n r m (p + 1) fun i => x i - c * r p i
theorem Down.is {n : Nat} {r : Nat → Vc} : ∀ {m p : Nat} {x y : Vc}, Down n r m p x → (∀ i, x i = y i) → Down n r m p y := fun {m p x y} h e => by
  have : x = y := funext e
  exact this ▸ h
theorem down_zero {n : Nat} {r : Nat → Vc} : ∀ (m p : Nat), Down n r m p fun _ => 0
  | 0, _ => fun _ => rfl
  | m + 1, p => ⟨0, by (try dsimp only); omega, (down_zero m (p + 1)).is fun i => by (try dsimp only); omega⟩
theorem down_add {n : Nat} {r : Nat → Vc} : ∀ {m p : Nat} {x y : Vc}, Down n r m p x → Down n r m p y → Down n r m p fun i => x i + y i
  | 0, _, _, _, h1, h2 => fun i => by have := h1 i; have := h2 i; (try dsimp only); omega
  | m + 1, p, x, y, ⟨c, e1, d1⟩, ⟨d, e2, d2⟩ => ⟨c + d, by (try dsimp only); rw [Int.add_mul]; omega, (down_add d1 d2).is fun i => by (try dsimp only); rw [Int.add_mul]; omega⟩
theorem down_neg {n : Nat} {r : Nat → Vc} : ∀ {m p : Nat} {x : Vc}, Down n r m p x → Down n r m p fun i => - x i
  | 0, _, _, h => fun i => by have := h i; (try dsimp only); omega
  | m + 1, p, x, ⟨c, e1, d1⟩ => ⟨-c, by (try dsimp only); rw [Int.neg_mul]; omega, (down_neg d1).is fun i => by (try dsimp only); rw [Int.neg_mul]; omega⟩
theorem down_rung {n : Nat} {r : Nat → Vc} (t : Tri n r) : ∀ {m p q : Nat}, p + m = n → p ≤ q → q < n → Down n r m p (r q)
  | 0, p, q, h, h1, h2 => by omega
  | m + 1, p, q, h, h1, h2 => by
    by_cases e : p = q
    · subst e
      exact ⟨1, by (try dsimp only); omega, (down_zero m (p + 1)).is fun i => by (try dsimp only); omega⟩
    · refine ⟨0, ?_, ?_⟩
      · rw [t.ahead q h2 p (by omega)]; omega
      · exact (down_rung t (q := q) (by omega) (by omega) h2).is fun i => by (try dsimp only); omega
theorem down_of {n : Nat} {r : Nat → Vc} (t : Tri n r) {x : Vc} (h : Spn (RungsS n r 0) x) : Down n r n 0 x :=
  h.ind (down_zero n 0) (fun _ _ => down_add) (fun _ => down_neg) fun g ⟨p, _, hp, e⟩ => (down_rung t (m := n) (p := 0) (q := p) (by omega) (Nat.zero_le _) hp).is fun i => (e i).symm
/-- what is spanned and below the steps is nothing -/
theorem down_small {n : Nat} {r : Nat → Vc} (t : Tri n r) : ∀ {m p : Nat} {x : Vc}, p + m = n → Down n r m p x → (∀ i, p ≤ i → i < n → 0 ≤ x i ∧ x i < r i i) → (∀ i, x i = 0)
  | 0, _, _, _, h, _ => h
  | m + 1, p, x, hn, ⟨c, e, d⟩, hb => by
    have b := hb p (Nat.le_refl _) (by omega)
    have pp := t.pos p (by omega)
    have c0 : c = 0 := by
      rw [e] at b
      have h1 : 0 ≤ c := by
        by_cases h : 0 ≤ c
        · exact h
        · have : c * r p p < 0 := Int.mul_neg_of_neg_of_pos (by omega) pp
          omega
      have h2 : c < 1 := by
        by_cases h : c < 1
        · exact h
        · have : 1 * r p p ≤ c * r p p := Int.mul_le_mul_of_nonneg_right (by omega) (by omega)
          omega
      omega
    subst c0
    have d' : Down n r m (p + 1) x := d.is fun i => by (try dsimp only); omega
    exact down_small t (by omega) d' fun i h1 h2 => hb i (by omega) h2
/-- the coefficients of what has noughts ahead of k begin at k -/
theorem down_tail {n : Nat} {r : Nat → Vc} (t : Tri n r) : ∀ {m p k : Nat} {x : Vc}, p + m = n → p ≤ k → Down n r m p x → (∀ i, i < k → x i = 0) → Spn (RungsS n r k) x
  | 0, _, _, _, _, _, h, _ => Spn.zero.is fun i => (h i).symm
  | m + 1, p, k, x, hn, hk, ⟨c, e, d⟩, h0 => by
    by_cases hpk : p < k
    · have pp := t.pos p (by omega)
      have c0 : c = 0 := by
        rw [h0 p hpk] at e
        rcases Int.mul_eq_zero.mp e.symm with h | h
        · exact h
        · omega
      subst c0
      exact down_tail t (p := p + 1) (by omega) (by omega) (d.is fun i => by (try dsimp only); omega) h0
    · have e' : p = k := by omega
      subst e'
      have s := down_tail t (p := p + 1) (k := p + 1) (by omega) (Nat.le_refl _) d fun i hi => by
        by_cases hip : i = p
        · subst hip; omega
        · rw [h0 i (by omega), t.ahead p (by omega) i (by omega)]; omega
      have s2 : Spn (RungsS n r p) fun i => x i - c * r p i := s.into fun g ⟨q, h1, h2, h3⟩ => .of ⟨q, by omega, h2, h3⟩
      have s3 : Spn (RungsS n r p) fun i => c * r p i := (Spn.of (S := RungsS n r p) (g := r p) ⟨p, Nat.le_refl _, by omega, fun _ => rfl⟩).mul c
      exact (s2.plus s3).is fun i => by (try dsimp only); omega
end Mx

end

section
set_option maxHeartbeats 2000000
namespace K32
open PySem L2 Kx Mx
theorem fm {a b : Int} (h : 0 < b) : a.fmod b = a % b := Int.fmod_eq_emod_of_nonneg a (by omega)
theorem fd {a b : Int} (h : 0 < b) : a.fdiv b = a / b := Int.fdiv_eq_ediv_of_nonneg a (by omega)
theorem dvd_emod {d a b : Int} (h1 : d ∣ a) (h2 : d ∣ b) : d ∣ a % b := by
  rw [Int.emod_def]
  exact Int.dvd_sub h1 (Int.dvd_mul_of_dvd_left h2)
theorem dvd_of_emod {d a b : Int} (h1 : d ∣ a % b) (h2 : d ∣ b) : d ∣ a := by
  have e : a = a % b + b * (a / b) := (Int.emod_add_mul_ediv a b).symm
  rw [e]
  exact Int.dvd_add h1 (Int.dvd_mul_of_dvd_left h2)
theorem dvd_sub_mod (a b : Int) : b ∣ a - a % b := by
  rw [Int.emod_def]
  exact ⟨a / b, by omega⟩
/-- moduli -/
structure Mdl (m : List Int) : Prop where
  l1 : 1 ≤ m.length
  l2 : m.length ≤ 12
  b : ∀ x ∈ m, 1 ≤ x ∧ x ≤ 99
theorem Mdl.at {m : List Int} (h : Mdl m) {i : Nat} (hi : i < m.length) : 1 ≤ vf m i ∧ vf m i ≤ 99 := by
  rw [vf_at hi]
  exact h.b _ (List.getElem_mem hi)
theorem small_mul {i j : Int} (h : -(2 ^ 64) < j ∧ j < 2 ^ 64) : CMulO i j := .inl (.inr h)
theorem small_mul' {i j : Int} (h : -(2 ^ 64) < i ∧ i < 2 ^ 64) : CMulO i j := .inl (.inl h)
end K32

end

section
set_option maxHeartbeats 2000000
namespace K32
open PySem L2 Kx Mx
/-! ### the checks -/
structure Vcs (m : List Int) (vs : List (List Int)) : Prop where
  l : vs.length ≤ 40
  e : ∀ v ∈ vs, v.length = m.length
theorem whole_spec (x : Int) : m_is_whole x = some true := rfl
theorem within_spec {x a b : Int} (h : a ≤ x ∧ x ≤ b) : m_is_within (x, a, b) = some true := by
  unfold m_is_within
  rw [whole_spec]
  simp [h.1, h.2]
theorem all_true {α : Type} {xs : List α} : ((xs.map fun _ => true).all id) = true := by simp
theorem check_moduli_spec {m : List Int} (h : Mdl m) : m_check_moduli m = some () := by
  unfold m_check_moduli
  have h1 := h.l1
  have h2 := h.l2
  rw [show (!true || !(decide ((1 : Int) ≤ (m.length : Int)) && decide ((m.length : Int) ≤ 12))) = false by simp; omega]
  show (lcO _ m).bind _ = _
  obtain ⟨r, e, p⟩ := wp_lcO_map (f := fun x1 : Int => (m_is_within (x1, (1 : Int), (99 : Int))).bind fun t7 => some t7) (xs := m) (P := fun r => r = m.map fun _ => true) (fun _ => true) (by omega) (fun x hx => by rw [within_spec (h.b x hx)]; rfl) rfl
  rw [e, p]
  show cond (!((m.map fun _ => true).all id)) none (some ()) = _
  rw [all_true]
  rfl
theorem is_vector_spec {m v : List Int} (hm : m.length ≤ 12) (h : v.length = m.length) : m_is_vector (m, v) = some true := by
  unfold m_is_vector
  obtain ⟨r, e, p⟩ := wp_lcO_map (f := fun x1 : Int => (m_is_whole x1).bind fun t7 => some t7) (xs := v) (P := fun r => r = v.map fun _ => true) (fun _ => true) (by omega) (fun x hx => rfl) rfl
  show (cond true ((cond (decide ((v.length : Int) = (m.length : Int))) ((lcO (fun x1 : Int => (m_is_whole x1).bind fun t7 => some t7) v).bind fun t8 => some (t8.all id)) (some false)).bind fun t9 => some t9) (some false)).bind (fun t10 => some t10) = _
  rw [e, p, h]
  simp
theorem check_vectors_spec {m : List Int} {vs : List (List Int)} (h : Mdl m) (hv : Vcs m vs) : m_check_vectors (m, vs) = some () := by
  unfold m_check_vectors
  rw [check_moduli_spec h]
  have h1 := hv.l
  show cond (!true || decide ((40 : Int) < (vs.length : Int))) none _ = _
  rw [show (!true || decide ((40 : Int) < (vs.length : Int))) = false by simp; omega]
  show (forO _ (enum vs) ()).bind _ = _
  obtain ⟨r, e, p⟩ := wp_forO (f := fun (st3 : Unit) (x4 : (Int × (List Int))) => (m_is_vector (m, x4.2)).bind fun t12 => cond (!t12) (none) (some ())) (xs := enum vs) (s := ()) (P := fun _ => True) (fun _ _ => True) trivial (fun i x s hx _ => by
    obtain ⟨v, hv1, rfl⟩ := enum_at hx
    rw [is_vector_spec h.l2 (hv.e v (List.mem_of_getElem? hv1))]
    exact wp_some trivial) (fun _ _ => trivial)
  rw [e]
  rfl
end K32

end

section
set_option maxHeartbeats 2000000
namespace K32
open PySem L2 Kx Mx
theorem check_vector_spec {m : List Int} {vs : List (List Int)} {v : List Int} (h : Mdl m) (hv : Vcs m vs) (hl : v.length = m.length) : m_check_vector (m, vs, v) = some () := by
  unfold m_check_vector
  rw [check_vectors_spec h hv]
  show (m_is_vector (m, v)).bind _ = _
  rw [is_vector_spec h.l2 hl]
  rfl
end K32

end

section
set_option maxHeartbeats 2000000
namespace K32
open PySem L2 Kx Mx
/-! ### less, by_rests -/
theorem less_spec {one other : List Int} {t : Int} (hl : one.length = other.length) (hn : one.length ≤ 1000) (hc : ∀ i, i < other.length → CMulO t (vf other i)) :
    Wp (m_less (one, other, t)) fun r => r.length = one.length ∧ ∀ i, vf r i = vf one i - t * vf other i := by
  unfold m_less
  refine wp_bind (P := fun r : List Int => r.length = one.length ∧ ∀ i, vf r i = vf one i - t * vf other i) ?_ fun r h => wp_some h
  refine wp_lcO (fun (x : Int × Int) y => y = x.1 - t * x.2) (by show (one.zip other).length ≤ _; rw [List.length_zip]; omega) ?_ ?_
  · rintro ⟨x, y⟩ hx
    obtain ⟨i, hi, e⟩ := List.mem_iff_getElem.mp hx
    have hi2 : i < (one.zip other).length := hi
    rw [List.length_zip] at hi2
    have e2 : y = other[i]'(by omega) := by
      have : (one.zip other)[i] = (x, y) := e
      rw [List.getElem_zip] at this
      exact (congrArg Prod.snd this).symm
    have := hc i (by omega)
    rw [vf_at (by omega), ← e2] at this
    exact wp_bind (wp_mulO (P := fun r => r = t * y) this rfl) fun r hr => wp_some (by subst hr; rfl)
  · intro ys h1 h2
    have h1' : ys.length = one.length := by
      rw [show ys.length = (one.zip other).length from h1, List.length_zip]; omega
    refine ⟨h1', fun i => ?_⟩
    by_cases hi : i < one.length
    · have := h2 i (one[i], other[i]'(by omega)) (ys[i]'(by omega)) (by show (one.zip other)[i]? = _; rw [List.getElem?_eq_getElem (by rw [List.length_zip]; omega), List.getElem_zip]) (List.getElem?_eq_getElem _)
      rw [vf_at (by omega), vf_at hi, vf_at (by omega)]
      exact this
    · rw [vf_out (by omega), vf_out (by omega), vf_out (by omega)]
      omega
theorem by_rests_spec {row m : List Int} {p : Nat} (hl : row.length = m.length) (hn : row.length ≤ 1000) (hm : ∀ i, i < m.length → 1 ≤ vf m i) :
    Wp (m_by_rests (row, m, (p : Int))) fun r => r.length = row.length ∧ (∀ i, i ≤ p → vf r i = vf row i) ∧ ∀ i, p < i → i < row.length → vf r i = vf row i % vf m i := by
  unfold m_by_rests
  have e1 : ((p : Int) + 1) = ((p + 1 : Nat) : Int) := by omega
  show Wp ((lcO _ ((cut row (some ((p : Int) + 1)) none).zip (cut m (some ((p : Int) + 1)) none))).bind fun t10 => (catO (cut row none (some ((p : Int) + 1))) t10).bind fun t11 => some t11) _
  rw [e1, cut_from, cut_from, cut_to]
  refine wp_bind (P := fun ys : List Int => ys.length = row.length - (p + 1) ∧ ∀ j, j < ys.length → vf ys j = vf row (p + 1 + j) % vf m (p + 1 + j)) ?_ fun ys ⟨l1, l2⟩ => wp_bind (wp_catO (P := fun r => r = row.take (p + 1) ++ ys) (by rw [List.length_take]; omega) rfl) fun r hr => wp_some ?_
  · refine wp_lcO (fun (x : Int × Int) y => y = x.1.fmod x.2) (by rw [List.length_zip, List.length_drop, List.length_drop]; omega) ?_ ?_
    · rintro ⟨x, y⟩ hx
      obtain ⟨i, hi, e⟩ := List.mem_iff_getElem.mp hx
      have hi2 := hi
      rw [List.length_zip, List.length_drop, List.length_drop] at hi2
      rw [List.getElem_zip] at e
      have e2 : y = m[p + 1 + i]'(by omega) := by
        have := congrArg Prod.snd e
        simp only [List.getElem_drop] at this
        exact this.symm
      have := hm (p + 1 + i) (by omega)
      rw [vf_at (by omega), ← e2] at this
      exact wp_bind (wp_modO (P := fun r => r = x.fmod y) (by show y ≠ 0; omega) rfl) fun r hr => wp_some hr
    · intro ys h1 h2
      rw [List.length_zip, List.length_drop, List.length_drop] at h1
      refine ⟨by omega, fun j hj => ?_⟩
      have := h2 j (row[p + 1 + j]'(by omega), m[p + 1 + j]'(by omega)) (ys[j]'hj) (by
        rw [List.getElem?_eq_getElem (by rw [List.length_zip, List.length_drop, List.length_drop]; omega), List.getElem_zip, List.getElem_drop, List.getElem_drop]) (List.getElem?_eq_getElem _)
      have mp := hm (p + 1 + j) (by omega)
      rw [vf_at hj, this, vf_at (l := row) (by omega), vf_at (l := m) (by omega)]
      rw [vf_at (by omega)] at mp
      exact fm (by omega)
  · subst hr
    refine ⟨by rw [List.length_append, List.length_take]; omega, fun i hi => ?_, fun i h1 h2 => ?_⟩
    · unfold vf
      by_cases hr : i < row.length
      · rw [List.getD, List.getD, List.getElem?_append_left (by rw [List.length_take]; omega), List.getElem?_take_of_lt (by omega)]
      · rw [List.getD, List.getD, List.getElem?_eq_none (by rw [List.length_append, List.length_take]; omega), List.getElem?_eq_none (by omega)]
    · have := l2 (i - (p + 1)) (by omega)
      rw [show p + 1 + (i - (p + 1)) = i by omega] at this
      rw [← this]
      unfold vf
      rw [List.getD, List.getD, List.getElem?_append_right (by rw [List.length_take]; omega), List.length_take, Nat.min_eq_left (by omega)]
/-! ### a row with how often each vector is taken for it -/
structure Rw (m : List Int) (vs : List (List Int)) (B : Nat) (row counts : List Int) : Prop where
  l : row.length = m.length
  c : counts.length = vs.length
  rel : ∀ i, i < m.length → vf m i ∣ vf row i - lin counts vs i
  b : ∀ j, (vf counts j).natAbs < 2 ^ B
theorem pow2 {a b : Nat} (h : a ≤ b) : 2 ^ a ≤ 2 ^ b := Nat.pow_le_pow_right (by decide) h
theorem Rw.up {m : List Int} {vs : List (List Int)} {B C : Nat} {row counts : List Int} (h : Rw m vs B row counts) (hb : B ≤ C) : Rw m vs C row counts := ⟨h.l, h.c, h.rel, fun j => Nat.lt_of_lt_of_le (h.b j) (pow2 hb)⟩
theorem nat_less {x y t : Int} {B T : Nat} (hx : x.natAbs < 2 ^ B) (hy : y.natAbs < 2 ^ B) (ht : t.natAbs < 2 ^ T) : (x - t * y).natAbs < 2 ^ (B + T + 1) := by
  have h1 : (x - t * y).natAbs ≤ x.natAbs + (t * y).natAbs := Int.natAbs_sub_le _ _
  rw [Int.natAbs_mul] at h1
  have h2 : t.natAbs * y.natAbs ≤ 2 ^ T * 2 ^ B := Nat.mul_le_mul (by omega) (by omega)
  have h3 : 2 ^ T * 2 ^ B = 2 ^ (B + T) := by rw [← Nat.pow_add, Nat.add_comm]
  have h4 : 2 ^ B ≤ 2 ^ (B + T) := pow2 (by omega)
  have h5 : 2 ^ (B + T + 1) = 2 * 2 ^ (B + T) := by rw [Nat.pow_succ, Nat.mul_comm]
  omega
theorem bits_mul {i j : Int} {a b : Nat} (ha : i.natAbs < 2 ^ a) (hb : j.natAbs < 2 ^ b) (h : a + b ≤ 134217728) : CMulO i j := .inr (mulx_ok ha hb h)
/-- one row less another one so often, the counts too -/
theorem rw_less {m : List Int} {vs : List (List Int)} {B C : Nat} {t : Int} {a ca b cb r cr : List Int} (ha : Rw m vs B a ca) (hb : Rw m vs B b cb) (hr : r.length = m.length) (h1 : ∀ i, i < m.length → vf m i ∣ vf r i - (vf a i - t * vf b i)) (hcr : cr.length = ca.length) (h2 : ∀ i, vf cr i = vf ca i - t * vf cb i)
    (hC : ∀ j, (vf ca j - t * vf cb j).natAbs < 2 ^ C) : Rw m vs C r cr := by
  refine ⟨hr, by rw [hcr, ha.c], fun i hi => ?_, fun j => by rw [h2]; exact hC j⟩
  rw [lin_less (t := t) ha.c hb.c (by rw [hcr, ha.c]) h2]
  obtain ⟨x, hx⟩ := ha.rel i hi
  obtain ⟨y, hy⟩ := hb.rel i hi
  obtain ⟨z, hz⟩ := h1 i hi
  refine ⟨z + x - t * y, ?_⟩
  rw [Int.mul_sub, Int.mul_add, Int.mul_left_comm, ← hy, ← hx, ← hz, Int.mul_sub]
  omega
def unit (q : Nat) (x : Int) : Vc := fun i => if i = q then x else 0
/-- the moduli's own behind a place -/
def MS (m : List Int) (p : Nat) : Vc → Prop := fun g => ∃ q, p < q ∧ q < m.length ∧ ∀ i, g i = unit q (vf m q) i
theorem spn_units {S : Vc → Prop} {m : List Int} {p : Nat} (hS : ∀ q, p < q → q < m.length → Spn S (unit q (vf m q))) (k : Nat → Int) : ∀ n, n ≤ m.length → Spn S fun i => if p < i ∧ i < n then k i * vf m i else 0
  | 0, _ => Spn.zero.is fun i => by simp
  | n + 1, h => by
    by_cases hp : p < n
    · refine ((spn_units hS k n (by omega)).plus ((hS n hp (by omega)).mul (k n))).is fun i => ?_
      unfold unit
      by_cases e : i = n
      · subst e
        simp [hp]
      · by_cases h1 : p < i ∧ i < n
        · rw [if_pos h1, if_neg e, if_pos ⟨h1.1, by omega⟩]; omega
        · rw [if_neg h1, if_neg e, if_neg (by omega)]; omega
    · refine (spn_units hS k n (by omega)).is fun i => ?_
      rw [if_neg (by omega), if_neg (by omega)]
end K32

end

section
set_option maxHeartbeats 2000000
namespace K32
open PySem L2 Kx Mx
/-- a row as it is met at a place: noughts ahead, numbers from 0 to 99 -/
structure At (m : List Int) (p : Nat) (row : List Int) : Prop where
  z : ∀ i, i < p → vf row i = 0
  b : ∀ i, 0 ≤ vf row i ∧ vf row i ≤ 99
/-- what two rows and the moduli behind a place span -/
def S2 (m : List Int) (p : Nat) (one other : List Int) : Vc → Prop := fun g => (∀ i, g i = vf one i) ∨ (∀ i, g i = vf other i) ∨ MS m p g
structure Met (m : List Int) (vs : List (List Int)) (p : Nat) (o1 o2 : List Int) (B : Nat) (st : List Int × List Int × List Int × List Int) : Prop where
  r1 : Rw m vs (B + 8 * (100 - (vf st.2.1 p).toNat)) st.1 st.2.2.1
  r2 : Rw m vs (B + 8 * (100 - (vf st.2.1 p).toNat)) st.2.1 st.2.2.2
  a1 : At m p st.1
  a2 : At m p st.2.1
  pos : 0 < vf st.1 p
  s1 : Spn (S2 m p st.1 st.2.1) (vf o1)
  s2 : Spn (S2 m p st.1 st.2.1) (vf o2)
theorem S2.one {m : List Int} {p : Nat} {a b : List Int} : Spn (S2 m p a b) (vf a) := .of (.inl fun _ => rfl)
theorem S2.two {m : List Int} {p : Nat} {a b : List Int} : Spn (S2 m p a b) (vf b) := .of (.inr (.inl fun _ => rfl))
theorem met_turn {m : List Int} {vs : List (List Int)} {p B : Nat} {o1 o2 : List Int} (hm : Mdl m) (hv : vs.length ≤ 40) (hp : p < m.length) (hB : B + 800 ≤ 100000000) {st : List Int × List Int × List Int × List Int} (h : Met m vs p o1 o2 B st) (hne : vf st.2.1 p ≠ 0) :
    Wp ((atI st.1 (p : Int)).bind fun t17 => (atI st.2.1 (p : Int)).bind fun t18 => (fdivO t17 t18).bind fun t19 => (m_less (st.1, st.2.1, t19)).bind fun t20 => (m_by_rests (t20, m, (p : Int))).bind fun t21 => (m_less (st.2.2.1, st.2.2.2, t19)).bind fun t22 => some (st.2.1, t21, st.2.2.2, t22))
      fun s' => Met m vs p o1 o2 B s' ∧ (vf s'.2.1 p).toNat < (vf st.2.1 p).toNat := by
  obtain ⟨one, other, mine, yours⟩ := st
  obtain ⟨r1, r2, a1, a2, pos, s1, s2⟩ := h
  dsimp only at *
  have l1 := r1.l
  have l2 := r2.l
  have hml := hm.l2
  have b1 := a1.b p
  have b2 := a2.b p
  have po : 0 < vf other p := by omega
  refine wp_bind (wp_atI (i := p) (P := fun t => t = vf one p) (by omega) (vf_at (by omega)).symm) fun t17 e17 => wp_bind (wp_atI (i := p) (P := fun t => t = vf other p) (by omega) (vf_at (by omega)).symm) fun t18 e18 => ?_
  subst e17; subst e18
  refine wp_bind (wp_fdivO (P := fun t => t = vf one p / vf other p) ⟨by omega, by omega⟩ (fd po)) fun t ht => ?_
  have t0 : 0 ≤ t := by rw [ht]; exact Int.ediv_nonneg (by omega) (by omega)
  have t99 : t ≤ 99 := by rw [ht]; exact Int.le_trans (Int.ediv_le_self _ (by omega)) (by omega)
  have em : vf one p - t * vf other p = vf one p % vf other p := by
    rw [Int.emod_def, ht, Int.mul_comm]
  refine wp_bind (less_spec (by omega) (by omega) fun i hi => small_mul' ⟨by omega, by omega⟩) fun t20 ⟨h20, e20⟩ => ?_
  refine wp_bind (by_rests_spec (p := p) (by omega) (by omega) fun i hi => (hm.at hi).1) fun t21 ⟨h21, e21, f21⟩ => ?_
  refine wp_bind (less_spec (by rw [r1.c, r2.c]) (by rw [r1.c]; omega) fun i hi => small_mul' ⟨by omega, by omega⟩) fun t22 ⟨h22, e22⟩ => wp_some ?_
  have m1 := Int.emod_nonneg (vf one p) (show vf other p ≠ 0 by omega)
  have m2 := Int.emod_lt_of_pos (vf one p) po
  have ep : vf t21 p = vf one p % vf other p := by rw [e21 p (Nat.le_refl _), e20, em]
  have lt : (vf t21 p).toNat < (vf other p).toNat := by rw [ep]; omega
  -- the new row, place by place
  have small : ∀ i, i < p → vf t21 i = 0 := fun i hi => by rw [e21 i (by omega), e20, a1.z i hi, a2.z i hi]; omega
  have big : ∀ i, p < i → i < m.length → vf t21 i = (vf one i - t * vf other i) % vf m i := fun i h1 h2 => by rw [f21 i h1 (by omega), e20]
  have out : ∀ i, m.length ≤ i → vf t21 i = 0 := fun i hi => vf_out (by omega)
  have cong : ∀ i, i < m.length → vf m i ∣ vf t21 i - (vf one i - t * vf other i) := fun i hi => by
    by_cases h1 : i ≤ p
    · rw [e21 i h1, e20, Int.sub_self]
      exact Int.dvd_zero _
    · rw [big i (by omega) hi]
      have := dvd_sub_mod (vf one i - t * vf other i) (vf m i)
      obtain ⟨c, hc⟩ := this
      exact ⟨-c, by rw [Int.mul_neg, ← hc]; omega⟩
  have exp : B + 8 * (100 - (vf other p).toNat) + 7 + 1 ≤ B + 8 * (100 - (vf t21 p).toNat) := by omega
  refine ⟨⟨r2.up (by dsimp only; omega), ?_, a2, ⟨small, fun i => ?_⟩, po, ?_, ?_⟩, lt⟩
  · refine rw_less (t := t) r1 r2 (by dsimp only; omega) cong h22 e22 fun j => ?_
    exact Nat.lt_of_lt_of_le (nat_less (T := 7) (r1.b j) (r2.b j) (by omega)) (pow2 exp)
  · show 0 ≤ vf t21 i ∧ vf t21 i ≤ 99
    by_cases h1 : i < p
    · rw [small i h1]; omega
    · by_cases h2 : i = p
      · subst h2; rw [ep]; omega
      · by_cases h3 : i < m.length
        · have := hm.at h3
          rw [big i (by omega) h3]
          have g1 := Int.emod_nonneg (vf one i - t * vf other i) (show vf m i ≠ 0 by omega)
          have g2 := Int.emod_lt_of_pos (vf one i - t * vf other i) (show 0 < vf m i by omega)
          omega
        · rw [out i (by omega)]; omega
  all_goals
    -- the old rows by the new ones
    have key : Spn (S2 m p other t21) (vf one) := by
      have u := spn_units (S := S2 m p other t21) (m := m) (p := p) (fun q h1 h2 => .of (.inr (.inr ⟨q, h1, h2, fun _ => rfl⟩))) (fun i => (vf one i - t * vf other i) / vf m i) m.length (Nat.le_refl _)
      refine ((S2.two.plus (S2.one.mul t)).plus u).is fun i => ?_
      by_cases h1 : p < i ∧ i < m.length
      · rw [if_pos h1, big i h1.1 h1.2]
        have := Int.emod_add_mul_ediv (vf one i - t * vf other i) (vf m i)
        rw [Int.mul_comm (vf m i)] at this
        omega
      · rw [if_neg h1]
        by_cases h2 : i ≤ p
        · rw [e21 i h2, e20]; omega
        · rw [out i (by omega), vf_out (l := one) (by omega), vf_out (l := other) (by omega)]; omega
    have into : ∀ g, S2 m p one other g → Spn (S2 m p other t21) g := fun g hg => by
      rcases hg with h | h | h
      · exact key.is fun i => (h i).symm
      · exact S2.one.is fun i => (h i).symm
      · exact .of (.inr (.inr h))
    first
      | exact s1.into into
      | exact s2.into into
theorem met_spec {m : List Int} {vs : List (List Int)} {p B : Nat} {one mine other yours : List Int} (hm : Mdl m) (hv : vs.length ≤ 40) (hp : p < m.length) (hB : B + 800 ≤ 100000000) (r1 : Rw m vs B one mine) (r2 : Rw m vs B other yours) (a1 : At m p one) (a2 : At m p other) (pos : 0 < vf one p) :
    Wp (m_met ((one, mine), (other, yours), m, (p : Int))) fun r => Rw m vs (B + 800) r.1.1 r.1.2 ∧ Rw m vs (B + 800) r.2.1 r.2.2 ∧ At m p r.1.1 ∧ At m (p + 1) r.2.1 ∧ 0 < vf r.1.1 p ∧ Spn (S2 m p r.1.1 r.2.1) (vf one) ∧ Spn (S2 m p r.1.1 r.2.1) (vf other) := by
  unfold m_met
  refine wp_bind (P := fun st : List Int × List Int × List Int × List Int => Met m vs p one other B st ∧ vf st.2.1 p = 0) ?_ fun st ⟨h, h0⟩ => wp_some ?_
  · refine wp_whileO (Met m vs p one other B) (fun st => (vf st.2.1 p).toNat) ?_ 1000 _ ⟨r1.up (by omega), r2.up (by omega), a1, a2, pos, S2.one, S2.two⟩ ?_
    · intro st h
      have l2 := h.r2.l
      refine wp_bind (wp_atI (i := p) (P := fun t => t = vf st.2.1 p) (by omega) (vf_at (by omega)).symm) fun t15 e15 => wp_some ⟨fun e => ?_, fun e => ?_⟩
      · refine met_turn hm hv hp hB h fun z => ?_
        rw [e15, z] at e
        simp at e
      · refine ⟨h, ?_⟩
        rw [← e15]
        simpa using e
    · have := a2.b p
      show (vf other p).toNat < 1000
      omega
  · have e : B + 8 * (100 - (vf st.2.1 p).toNat) = B + 800 := by rw [h0]; rfl
    refine ⟨e ▸ h.r1, e ▸ h.r2, h.a1, ⟨fun i hi => ?_, h.a2.b⟩, h.pos, h.s1, h.s2⟩
    by_cases hip : i = p
    · subst hip; exact h0
    · exact h.a2.z i (by omega)
end K32

end

section
set_option maxHeartbeats 2000000
namespace K32
open PySem L2 Kx Mx
abbrev Rungs := List (List Int × List Int)
def rg (R : Rungs) (p : Nat) : List Int × List Int := R.getD p ([], [])
abbrev rr (R : Rungs) (p : Nat) : Vc := vf (rg R p).1
theorem rg_at {R : Rungs} {p : Nat} (h : p < R.length) : rg R p = R[p] := by unfold rg; simp [List.getD, h]
theorem rg_set {R : Rungs} {p q : Nat} {x : List Int × List Int} (h : p < R.length) : rg (R.set p x) q = if q = p then x else rg R q := by
  unfold rg
  rw [List.getD, List.getD]
  by_cases e : q = p
  · subst e; rw [if_pos rfl, List.getElem?_set_self h]; rfl
  · rw [if_neg e, List.getElem?_set_ne (Ne.symm e)]
structure Rg (m : List Int) (vs : List (List Int)) (B : Nat) (R : Rungs) : Prop where
  len : R.length = m.length
  rw_ : ∀ p, p < m.length → Rw m vs B (rg R p).1 (rg R p).2
  at_ : ∀ p, p < m.length → At m p (rg R p).1
  pos : ∀ p, p < m.length → 0 < rr R p p
theorem Rg.tri {m : List Int} {vs : List (List Int)} {B : Nat} {R : Rungs} (h : Rg m vs B R) : Tri m.length (rr R) :=
  ⟨fun p hp i hi => (h.at_ p hp).z i hi, h.pos, fun p hp i hi => vf_out (by rw [(h.rw_ p hp).l]; exact hi)⟩
/-- all rungs' rows span the moduli's own -/
def Own (m : List Int) (R : Rungs) : Prop := ∀ q, q < m.length → Spn (RungsS m.length (rr R) 0) (unit q (vf m q))
theorem own_tail {m : List Int} {R : Rungs} (t : Tri m.length (rr R)) (h : Own m R) {q : Nat} (hq : q < m.length) : Spn (RungsS m.length (rr R) q) (unit q (vf m q)) :=
  down_tail t (m := m.length) (p := 0) (k := q) (by omega) (Nat.zero_le _) (down_of t (h q hq)) fun i hi => by unfold unit; rw [if_neg (by omega)]
theorem spn_all {S : Vc → Prop} {m : List Int} (hS : ∀ q, q < m.length → Spn S (unit q (vf m q))) (k : Nat → Int) : ∀ n, n ≤ m.length → Spn S fun i => if i < n then k i * vf m i else 0
  | 0, _ => Spn.zero.is fun i => by simp
  | n + 1, h => by
    refine ((spn_all hS k n (by omega)).plus ((hS n (by omega)).mul (k n))).is fun i => ?_
    unfold unit
    by_cases e : i = n
    · subst e; simp
    · by_cases h1 : i < n
      · rw [if_pos h1, if_neg e, if_pos (by omega)]; omega
      · rw [if_neg h1, if_neg e, if_neg (by omega)]; omega
/-! ### one vector -/
def Sx (m : List Int) (R : Rungs) (row : List Int) : Vc → Prop := fun g => RungsS m.length (rr R) 0 g ∨ ∀ i, g i = vf row i
structure Turn1 (m : List Int) (vs : List (List Int)) (B : Nat) (R0 : Rungs) (row0 : List Int) (p : Nat) (st : (List Int × List Int) × Rungs) : Prop where
  g : Rg m vs (B + 800 * p) st.2
  r : Rw m vs (B + 800 * p) st.1.1 st.1.2
  a : At m p st.1.1
  same : ∀ q, p ≤ q → rg st.2 q = rg R0 q
  sp : ∀ q, q < m.length → Spn (Sx m st.2 st.1.1) (rr R0 q)
  sr : Spn (Sx m st.2 st.1.1) (vf row0)
theorem turn1_step {m : List Int} {vs : List (List Int)} {B : Nat} {R0 : Rungs} {row0 : List Int} (hm : Mdl m) (hv : vs.length ≤ 40) (hB : B + 10000 ≤ 90000000) (g0 : Rg m vs B R0) (o0 : Own m R0) {p : Nat} (hp : p < m.length) {st : (List Int × List Int) × Rungs} (h : Turn1 m vs B R0 row0 p st) :
    Wp ((atI st.2 (p : Int)).bind fun t57 => (m_met (t57, st.1, m, (p : Int))).bind fun t58 => (setO st.2 (p : Int) t58.1).bind fun t63 => some (t58.2, t63)) (Turn1 m vs B R0 row0 (p + 1)) := by
  obtain ⟨⟨row, counts⟩, R⟩ := st
  obtain ⟨g, r, a, same, sp, sr⟩ := h
  dsimp only at *
  have hl := g.len
  have hml := hm.l2
  refine wp_bind (wp_atI (i := p) (P := fun t => t = rg R p) (by omega) (rg_at (by omega)).symm) fun t57 e57 => ?_
  subst e57
  refine wp_bind (met_spec (B := B + 800 * p) hm hv hp (by omega) (g.rw_ p hp) r (g.at_ p hp) a (g.pos p hp)) fun t58 ⟨w1, w2, a1, a2, ps, s1, s2⟩ => ?_
  refine wp_bind (wp_setO (i := p) (P := fun t => t = R.set p t58.1) (by omega) rfl) fun t63 e63 => wp_some ?_
  subst e63
  have es : ∀ q, rg (R.set p t58.1) q = if q = p then t58.1 else rg R q := fun q => rg_set (by omega)
  have B1 : B + 800 * p + 800 = B + 800 * (p + 1) := by omega
  rw [B1] at w1 w2
  -- what the two new rows and the moduli behind span
  have inS2 : ∀ x, S2 m p t58.1.1 t58.2.1 x → Spn (Sx m (R.set p t58.1) t58.2.1) x := fun x hx => by
    rcases hx with h | h | ⟨q, h1, h2, h3⟩
    · exact .of (.inl ⟨p, Nat.zero_le _, hp, fun i => by rw [h i]; show _ = vf (rg (R.set p t58.1) p).1 i; rw [es, if_pos rfl]⟩)
    · exact .of (.inr h)
    · refine Spn.is (Spn.into (own_tail g0.tri o0 h2) fun y ⟨q', k1, k2, k3⟩ => ?_) fun i => (h3 i).symm
      refine .of (.inl ⟨q', Nat.zero_le _, k2, fun i => ?_⟩)
      rw [k3 i]
      show vf (rg R0 q').1 i = vf (rg (R.set p t58.1) q').1 i
      rw [es, if_neg (by omega), same q' (by omega)]
  have inSx : ∀ x, Sx m R row x → Spn (Sx m (R.set p t58.1) t58.2.1) x := fun x hx => by
    rcases hx with ⟨q, _, h2, h3⟩ | h
    · by_cases e : q = p
      · subst e
        exact (s1.into inS2).is fun i => (h3 i).symm
      · refine .of (.inl ⟨q, Nat.zero_le _, h2, fun i => ?_⟩)
        rw [h3 i]
        show vf (rg R q).1 i = vf (rg (R.set p t58.1) q).1 i
        rw [es, if_neg e]
    · exact (s2.into inS2).is fun i => (h i).symm
  refine ⟨⟨by rw [List.length_set]; exact hl, fun q hq => ?_, fun q hq => ?_, fun q hq => ?_⟩, w2, a2, fun q hq => ?_, fun q hq => (sp q hq).into inSx, sr.into inSx⟩
  · rw [es]
    split
    · exact w1
    · exact (g.rw_ q hq).up (by omega)
  · rw [es]
    split
    · rename_i e; rw [e]; exact a1
    · exact g.at_ q hq
  · show 0 < vf (rg (R.set p t58.1) q).1 q
    rw [es]
    split
    · rename_i e; rw [e]; exact ps
    · exact g.pos q hq
  · rw [es, if_neg (by omega)]
    exact same q (by omega)
/-- how all stands behind some vectors -/
structure Lay (m : List Int) (vs : List (List Int)) (k : Nat) (R : Rungs) : Prop where
  g : Rg m vs (1 + 10000 * k) R
  o : Own m R
  v : ∀ (j : Nat) (v : List Int), j < k → vs[j]? = some v → Spn (RungsS m.length (rr R) 0) (vf v)
theorem vector_step {m : List Int} {vs : List (List Int)} (hm : Mdl m) (hv : Vcs m vs) {k : Nat} {v : List Int} (hk : vs[k]? = some v) {R : Rungs} (h : Lay m vs k R) :
    Wp ((lcO (fun x31 : (Int × Int) => (modO x31.1 x31.2).bind fun t39 => some t39) (v.zip m)).bind fun t40 => (rngO (vs.length : Int)).bind fun t41 => (lcO (fun x42 : Int => some (if (decide (x42 = (k : Int))) then 1 else 0 : Int)) t41).bind fun t48 => (rngO (m.length : Int)).bind fun t49 => (forO (fun (st51 : ((List Int) × (List Int)) × (List ((List Int) × (List Int)))) (x52 : Int) => (atI st51.2 x52).bind fun t57 => (m_met (t57, st51.1, m, x52)).bind fun t58 => (setO st51.2 x52 t58.1).bind fun t63 => some (t58.2, t63)) t49 ((t40, t48), R)).bind fun fin50 => some fin50.2) (Lay m vs (k + 1)) := by
  have hkl := (List.getElem?_eq_some_iff.mp hk).1
  have h40 := hv.l
  have hml := hm.l2
  have lv : v.length = m.length := hv.e v (List.mem_of_getElem? hk)
  refine wp_bind (P := fun r : List Int => r.length = m.length ∧ ∀ i, i < m.length → vf r i = vf v i % vf m i) ?_ fun row0 ⟨l0, e0⟩ => ?_
  · refine wp_lcO (fun (x : Int × Int) y => y = x.1.fmod x.2) (by rw [List.length_zip]; omega) ?_ ?_
    · rintro ⟨x, y⟩ hx
      have hy : y ∈ m := (List.of_mem_zip hx).2
      have := hm.b y hy
      exact wp_bind (wp_modO (P := fun r => r = x.fmod y) (by show y ≠ 0; omega) rfl) fun r hr => wp_some hr
    · intro ys h1 h2
      rw [List.length_zip] at h1
      refine ⟨by omega, fun i hi => ?_⟩
      have := h2 i (v[i]'(by omega), m[i]) (ys[i]'(by omega)) (by rw [List.getElem?_eq_getElem (by rw [List.length_zip]; omega), List.getElem_zip]) (List.getElem?_eq_getElem _)
      have mp := hm.at hi
      rw [vf_at (l := ys) (by omega), this, vf_at (l := v) (by omega), vf_at hi]
      rw [vf_at hi] at mp
      exact fm (by omega)
  refine wp_bind (wp_rngN (P := fun t => t = irange 0 (vs.length : Int)) (by omega) rfl) fun t41 e41 => ?_
  subst e41
  refine wp_bind (wp_lcO_map (P := fun r => r = (irange 0 (vs.length : Int)).map fun x : Int => (if (decide (x = (k : Int))) then 1 else 0 : Int)) (fun x : Int => (if (decide (x = (k : Int))) then 1 else 0 : Int)) (by rw [irange_nat_len]; omega) (fun x _ => rfl) rfl) fun t48 e48 => ?_
  have l48 : t48.length = vs.length := by rw [e48, List.length_map, irange_nat_len]
  have u48 : ∀ j, j < t48.length → vf t48 j = if j = k then 1 else 0 := fun j hj => by
    have : t48[j]? = some (if (decide ((j : Int) = (k : Int))) then 1 else 0 : Int) := by
      rw [e48, List.getElem?_map, irange_get (by omega)]
      show some _ = some _
      rw [Int.zero_add]
    rw [vf_get this]
    by_cases e : j = k
    · simp [e]
    · rw [if_neg e, if_neg (by simp; omega)]
  refine wp_bind (wp_rngN (P := fun t => t = irange 0 (m.length : Int)) (by omega) rfl) fun t49 e49 => ?_
  subst e49
  have r0 : Rw m vs (1 + 10000 * k) row0 t48 := by
    refine ⟨l0, l48, fun i hi => ?_, fun j => ?_⟩
    · rw [lin_unit (v := v) l48 hk u48, e0 i hi]
      obtain ⟨c, hc⟩ := dvd_sub_mod (vf v i) (vf m i)
      exact ⟨-c, by rw [Int.mul_neg, ← hc]; omega⟩
    · by_cases hj : j < t48.length
      · rw [u48 j hj]
        split
        · exact Nat.lt_of_lt_of_le (show (1 : Int).natAbs < 2 ^ 1 by decide) (pow2 (by omega))
        · exact Nat.pow_pos (by decide)
      · rw [vf_out (by omega)]
        exact Nat.pow_pos (by decide)
  have a0 : At m 0 row0 := by
    refine ⟨fun i hi => by omega, fun i => ?_⟩
    by_cases hi : i < m.length
    · have mp := hm.at hi
      rw [e0 i hi]
      have g1 := Int.emod_nonneg (vf v i) (show vf m i ≠ 0 by omega)
      have g2 := Int.emod_lt_of_pos (vf v i) (show 0 < vf m i by omega)
      omega
    · rw [vf_out (by omega)]; omega
  refine wp_bind (P := fun st : (List Int × List Int) × Rungs => Turn1 m vs (1 + 10000 * k) R row0 m.length st) ?_ fun st hst => wp_some ?_
  · refine wp_forO (fun p st => Turn1 m vs (1 + 10000 * k) R row0 p st) ?_ ?_ ?_
    · exact ⟨h.g, r0, a0, fun q _ => rfl, fun q hq => .of (.inl ⟨q, Nat.zero_le _, hq, fun _ => rfl⟩), .of (.inr fun _ => rfl)⟩
    · intro p x st hx hst
      obtain ⟨hp, rfl⟩ := irange_at hx
      exact turn1_step hm h40 (by omega) h.g h.o hp hst
    · intro st hst
      rw [irange_nat_len] at hst
      exact hst
  · obtain ⟨g, r, a, same, sp, sr⟩ := hst
    have row_zero : ∀ i, vf st.1.1 i = 0 := fun i => by
      by_cases hi : i < m.length
      · exact a.z i hi
      · exact vf_out (by rw [r.l]; omega)
    have into : ∀ x, Sx m st.2 st.1.1 x → Spn (RungsS m.length (rr st.2) 0) x := fun x hx => by
      rcases hx with h | h
      · exact .of h
      · exact Spn.zero.is fun i => by rw [h i, row_zero i]
    have old : ∀ x, Spn (RungsS m.length (rr R) 0) x → Spn (RungsS m.length (rr st.2) 0) x := fun x hx => hx.into fun y ⟨q, _, h2, h3⟩ => ((sp q h2).into into).is fun i => (h3 i).symm
    have own : Own m st.2 := fun q hq => old _ (h.o q hq)
    refine ⟨⟨g.len, fun p hp => (g.rw_ p hp).up (by omega), g.at_, g.pos⟩, own, fun j w hj hw => ?_⟩
    by_cases e : j = k
    · subst e
      rw [hk] at hw
      cases hw
      have u := spn_all (S := RungsS m.length (rr st.2) 0) own (fun i => vf v i / vf m i) m.length (Nat.le_refl _)
      refine ((sr.into into).plus u).is fun i => ?_
      by_cases hi : i < m.length
      · rw [if_pos hi, e0 i hi]
        have := Int.emod_add_mul_ediv (vf v i) (vf m i)
        rw [Int.mul_comm (vf m i)] at this
        omega
      · rw [if_neg hi, vf_out (l := row0) (by omega), vf_out (l := v) (by omega)]; omega
    · exact old _ (h.v j w (by omega) hw)
end K32

end

section
set_option maxHeartbeats 2000000
namespace K32
open PySem L2 Kx Mx
/-! ### the rungs at first -/
theorem first_spec {m : List Int} {vs : List (List Int)} (hm : Mdl m) (hv : Vcs m vs) :
    Wp ((rngO (m.length : Int)).bind fun t1 => lcO (fun x2 : Int => (rngO (m.length : Int)).bind fun t8 => (lcO (fun x9 : Int => (atI m x9).bind fun t15 => (mulO t15 (if (decide (x9 = x2)) then 1 else 0 : Int)).bind fun t16 => some t16) t8).bind fun t17 => (repO (0 : Int) (vs.length : Int)).bind fun t18 => some (t17, t18)) t1) (Lay m vs 0) := by
  have hml := hm.l2
  have h40 := hv.l
  refine wp_bind (wp_rngN (P := fun t => t = irange 0 (m.length : Int)) (by omega) rfl) fun t1 e1 => ?_
  subst e1
  refine wp_lcO (fun (x : Int) (y : List Int × List Int) => y.1.length = m.length ∧ (∀ p : Nat, x = (p : Int) → ∀ i, i < m.length → vf y.1 i = unit p (vf m p) i) ∧ y.2 = List.replicate vs.length 0) (by rw [irange_nat_len]; omega) ?_ ?_
  · intro x hx
    obtain ⟨p, hp, rfl⟩ := irange_mem hx
    refine wp_bind (wp_rngN (P := fun t => t = irange 0 (m.length : Int)) (by omega) rfl) fun t8 e8 => ?_
    subst e8
    refine wp_bind (P := fun r : List Int => r.length = m.length ∧ ∀ i, i < m.length → vf r i = unit p (vf m p) i) ?_ fun t17 ⟨l17, e17⟩ => wp_bind (wp_repO (P := fun t => t = List.replicate vs.length 0) ⟨by omega, by omega⟩ (by rw [Int.toNat_natCast])) fun t18 e18 => wp_some ⟨l17, fun q hq i hi => ?_, e18⟩
    · refine wp_lcO (fun (x : Int) (y : Int) => ∀ i : Nat, x = (i : Int) → y = unit p (vf m p) i) (by rw [irange_nat_len]; omega) ?_ ?_
      · intro y hy
        obtain ⟨i, hi, rfl⟩ := irange_mem hy
        refine wp_bind (wp_atI (i := i) (P := fun t => t = vf m i) hi (vf_at hi).symm) fun t15 e15 => ?_
        subst e15
        refine wp_bind (wp_mulO (P := fun t => t = vf m i * (if (decide ((i : Int) = (p : Int))) then 1 else 0 : Int)) (small_mul (by split <;> omega)) rfl) fun t16 e16 => wp_some fun j hj => ?_
        have ej : j = i := by omega
        subst ej
        rw [e16]
        unfold unit
        by_cases e : j = p
        · subst e; simp
        · rw [if_neg e, if_neg (by simp; omega)]; omega
      · intro ys h1 h2
        rw [irange_nat_len] at h1
        refine ⟨h1, fun i hi => ?_⟩
        have := h2 i (i : Int) (ys[i]'(by omega)) (by rw [irange_get (by omega)]; simp) (List.getElem?_eq_getElem _) i rfl
        rw [vf_at (by omega)]
        exact this
    · have : q = p := by omega
      subst this
      exact e17 i hi
  · intro R h1 h2
    rw [irange_nat_len] at h1
    have each : ∀ p, p < m.length → (rg R p).1.length = m.length ∧ (∀ i, i < m.length → rr R p i = unit p (vf m p) i) ∧ (rg R p).2 = List.replicate vs.length 0 := fun p hp => by
      have := h2 p (p : Int) (R[p]'(by omega)) (by rw [irange_get (by omega)]; simp) (List.getElem?_eq_getElem _)
      rw [← rg_at (by omega)] at this
      exact ⟨this.1, this.2.1 p rfl, this.2.2⟩
    have full : ∀ p, p < m.length → ∀ i, rr R p i = unit p (vf m p) i := fun p hp i => by
      by_cases hi : i < m.length
      · exact (each p hp).2.1 i hi
      · show vf (rg R p).1 i = _
        rw [vf_out (by rw [(each p hp).1]; omega)]
        unfold unit
        rw [if_neg (by omega)]
    refine ⟨⟨h1, fun p hp => ⟨(each p hp).1, by rw [(each p hp).2.2, List.length_replicate], fun i hi => ?_, fun j => ?_⟩, fun p hp => ⟨fun i hi => ?_, fun i => ?_⟩, fun p hp => ?_⟩, fun q hq => ?_, fun j v hj => by omega⟩
    · rw [(each p hp).2.2, lin_zero, show vf (rg R p).1 i = unit p (vf m p) i from full p hp i]
      unfold unit
      split
      · rename_i e; rw [e]; exact ⟨1, by omega⟩
      · exact ⟨0, by omega⟩
    · rw [(each p hp).2.2, vf_zero]
      exact Nat.pow_pos (by decide)
    · rw [show vf (rg R p).1 i = unit p (vf m p) i from full p hp i]
      unfold unit
      rw [if_neg (by omega)]
    · rw [show vf (rg R p).1 i = unit p (vf m p) i from full p hp i]
      have := hm.at hp
      unfold unit
      split <;> omega
    · rw [full p hp p]
      have := hm.at hp
      unfold unit
      rw [if_pos rfl]
      omega
    · exact .of ⟨q, Nat.zero_le _, hq, fun i => (full q hq i).symm⟩
/-! ### later numbers below the steps -/
theorem natAbs_ediv {a b : Int} (h : 0 < b) : (a / b).natAbs ≤ a.natAbs := by
  have h1 := Int.emod_nonneg a (show b ≠ 0 by omega)
  have h2 := Int.emod_lt_of_pos a h
  have h3 := Int.emod_add_mul_ediv a b
  generalize hq : a / b = q at *
  generalize hr : a % b = r at *
  by_cases h0 : 0 ≤ q
  · have : q ≤ b * q := by
      have := Int.mul_le_mul_of_nonneg_right (show 1 ≤ b by omega) h0
      omega
    omega
  · have : b * q ≤ q := by
      have := Int.mul_le_mul_of_nonneg_right (show 1 ≤ b by omega) (show 0 ≤ -q by omega)
      rw [Int.mul_neg, Int.mul_neg] at this
      omega
    have h5 : b * q ≤ b * (-1) := Int.mul_le_mul_of_nonneg_left (by omega) (by omega)
    have : a < 0 := by omega
    -- a = r + b q with 0 ≤ r < b, so a < b (q + 1) ≤ q + 1
    have h6 : b * (q + 1) ≤ q + 1 := by
      have := Int.mul_le_mul_of_nonneg_right (show 1 ≤ b by omega) (show 0 ≤ -(q + 1) by omega)
      rw [Int.mul_neg, Int.mul_neg] at this
      omega
    rw [Int.mul_add, Int.mul_one] at h6
    omega
/-- the bits of the counts, ahead of and behind the last turn -/
abbrev B1 : Nat := 500000
abbrev B2 : Nat := 500200
/-- a rung as it is told in the end, but for those before a place k of its row that stand below their steps -/
structure Fin1 (m : List Int) (vs : List (List Int)) (R : Rungs) (p : Nat) (k : Nat) : Prop where
  r : Rw m vs B2 (rg R p).1 (rg R p).2
  z : ∀ i, i < p → rr R p i = 0
  pos : 0 < rr R p p ∧ rr R p p ≤ 99
  b : ∀ i, (rr R p i).natAbs < 2 ^ 100
  red : ∀ i, p < i → i < k → 0 ≤ rr R p i ∧ rr R p i < rr R i i
structure Stage (m : List Int) (vs : List (List Int)) (R0 R : Rungs) (P : Nat) : Prop where
  len : R.length = m.length
  low : ∀ p, p < P → p < m.length → Fin1 m vs R p m.length
  high : ∀ p, P ≤ p → rg R p = rg R0 p
  diag : ∀ p, p < m.length → rr R p p = rr R0 p p
  sp : ∀ p, p < m.length → Spn (RungsS m.length (rr R) 0) (rr R0 p)
structure Inner (m : List Int) (vs : List (List Int)) (R0 Rs R : Rungs) (P k : Nat) : Prop where
  len : R.length = m.length
  other : ∀ q, q ≠ P → rg R q = rg Rs q
  r : Rw m vs (B1 + 110 + k) (rg R P).1 (rg R P).2
  z : ∀ i, i < P → rr R P i = 0
  d : rr R P P = rr R0 P P
  b : ∀ i, (rr R P i).natAbs < 2 ^ (7 + 8 * k)
  red : ∀ i, P < i → i < P + 1 + k → i < m.length → 0 ≤ rr R P i ∧ rr R P i < rr R0 i i
  sp : ∀ p, p < m.length → Spn (RungsS m.length (rr R) 0) (rr R0 p)
theorem inner_step {m : List Int} {vs : List (List Int)} (hm : Mdl m) (hv : Vcs m vs) {R0 Rs R : Rungs} {P k : Nat} (g0 : Rg m vs B1 R0) (st : Stage m vs R0 Rs P) (hP : P < m.length) (hk : P + 1 + k < m.length) (h : Inner m vs R0 Rs R P k) :
    Wp ((atI R (P : Int)).bind fun t81 => (atI t81.1 ((P + 1 + k : Nat) : Int)).bind fun t86 => (atI R ((P + 1 + k : Nat) : Int)).bind fun t87 => (atI t87.1 ((P + 1 + k : Nat) : Int)).bind fun t88 => (fdivO t86 t88).bind fun t89 => (atI R ((P + 1 + k : Nat) : Int)).bind fun t90 => (m_less (t81.1, t90.1, t89)).bind fun t91 => (atI R ((P + 1 + k : Nat) : Int)).bind fun t92 => (m_less (t81.2, t92.2, t89)).bind fun t93 => (setO R (P : Int) (t91, t93)).bind fun t94 => some t94) fun R' => Inner m vs R0 Rs R' P (k + 1) := by
  have hml := hm.l2
  have h40 := hv.l
  have hl := h.len
  generalize hq : P + 1 + k = q at *
  have eq_q : rg R q = rg R0 q := by rw [h.other q (by omega), st.high q (by omega)]
  have rq : Rw m vs B1 (rg R0 q).1 (rg R0 q).2 := g0.rw_ q (by omega)
  have aq : At m q (rg R0 q).1 := g0.at_ q (by omega)
  have pq : 0 < rr R0 q q := g0.pos q (by omega)
  have lP := h.r.l
  have lq := rq.l
  refine wp_bind (wp_atI (i := P) (P := fun t => t = rg R P) (by omega) (rg_at (by omega)).symm) fun t81 e81 => ?_
  subst e81
  refine wp_bind (wp_atI (i := q) (P := fun t => t = rr R P q) (by omega) (vf_at (by omega)).symm) fun t86 e86 => ?_
  subst e86
  refine wp_bind (wp_atI (i := q) (P := fun t => t = rg R0 q) (by omega) (by rw [← eq_q]; exact (rg_at (by omega)).symm)) fun t87 e87 => ?_
  subst e87
  refine wp_bind (wp_atI (i := q) (P := fun t => t = rr R0 q q) (by omega) (vf_at (by omega)).symm) fun t88 e88 => ?_
  subst e88
  have bq : 0 ≤ rr R0 q q ∧ rr R0 q q ≤ 99 := aq.b q
  have hB1 : B1 = 500000 := rfl
  refine wp_bind (wp_fdivO (P := fun t => t = rr R P q / rr R0 q q) ⟨by omega, by omega⟩ (fd pq)) fun t ht => ?_
  have tb : t.natAbs < 2 ^ (7 + 8 * k) := by rw [ht]; exact Nat.lt_of_le_of_lt (natAbs_ediv pq) (h.b q)
  refine wp_bind (wp_atI (i := q) (P := fun t => t = rg R0 q) (by omega) (by rw [← eq_q]; exact (rg_at (by omega)).symm)) fun t90 e90 => ?_
  subst e90
  refine wp_bind (less_spec (by omega) (by omega) fun i hi => small_mul ⟨by have := aq.b i; omega, by have := aq.b i; omega⟩) fun t91 ⟨l91, e91⟩ => ?_
  refine wp_bind (wp_atI (i := q) (P := fun t => t = rg R0 q) (by omega) (by rw [← eq_q]; exact (rg_at (by omega)).symm)) fun t92 e92 => ?_
  subst e92
  refine wp_bind (less_spec (by rw [h.r.c, rq.c]) (by rw [h.r.c]; omega) fun i hi => bits_mul tb (rq.b i) (by omega)) fun t93 ⟨l93, e93⟩ => ?_
  refine wp_bind (wp_setO (i := P) (P := fun t => t = R.set P (t91, t93)) (by omega) rfl) fun t94 e94 => wp_some ?_
  subst e94
  have es : ∀ p, rg (R.set P (t91, t93)) p = if p = P then (t91, t93) else rg R p := fun p => rg_set (by omega)
  have eP : ∀ i, rr (R.set P (t91, t93)) P i = rr R P i - t * rr R0 q i := fun i => by
    show vf (rg (R.set P (t91, t93)) P).1 i = _
    rw [es, if_pos rfl]
    exact e91 i
  have key : Spn (RungsS m.length (rr (R.set P (t91, t93))) 0) (rr R P) := by
    have s1 : Spn (RungsS m.length (rr (R.set P (t91, t93))) 0) (rr (R.set P (t91, t93)) P) := .of ⟨P, Nat.zero_le _, hP, fun _ => rfl⟩
    have s2 : Spn (RungsS m.length (rr (R.set P (t91, t93))) 0) (rr R0 q) := .of ⟨q, Nat.zero_le _, by omega, fun i => by
      show _ = vf (rg (R.set P (t91, t93)) q).1 i
      rw [es, if_neg (by omega), eq_q]⟩
    exact (s1.plus (s2.mul t)).is fun i => by rw [eP i]; omega
  have into : ∀ x, RungsS m.length (rr R) 0 x → Spn (RungsS m.length (rr (R.set P (t91, t93))) 0) x := fun x ⟨p, _, h2, h3⟩ => by
    by_cases e : p = P
    · subst e
      exact key.is fun i => (h3 i).symm
    · refine .of ⟨p, Nat.zero_le _, h2, fun i => ?_⟩
      rw [h3 i]
      show vf (rg R p).1 i = vf (rg (R.set P (t91, t93)) p).1 i
      rw [es, if_neg e]
  refine ⟨by rw [List.length_set]; exact hl, fun p hp => by rw [es, if_neg hp]; exact h.other p hp, ?_, fun i hi => ?_, ?_, fun i => ?_, fun i h1 h2 h3 => ?_, fun p hp => (h.sp p hp).into into⟩
  · rw [es, if_pos rfl]
    refine rw_less (B := B1 + 110 + k) (t := t) h.r (rq.up (by omega)) (by rw [l91]; exact lP) (fun i hi => by rw [e91, Int.sub_self]; exact Int.dvd_zero _) l93 e93 fun j => ?_
    have c1 := h.r.b j
    have c2 := rq.b j
    have h1 : (vf (rg R P).2 j - t * vf (rg R0 q).2 j).natAbs ≤ (vf (rg R P).2 j).natAbs + (t * vf (rg R0 q).2 j).natAbs := Int.natAbs_sub_le _ _
    rw [Int.natAbs_mul] at h1
    have h2 : t.natAbs * (vf (rg R0 q).2 j).natAbs ≤ 2 ^ (7 + 8 * k) * 2 ^ B1 := Nat.mul_le_mul (by omega) (by omega)
    rw [← Nat.pow_add] at h2
    have h3 : 2 ^ (7 + 8 * k + B1) ≤ 2 ^ (B1 + 110 + k) := pow2 (by omega)
    have h4 : 2 ^ (B1 + 110 + (k + 1)) = 2 * 2 ^ (B1 + 110 + k) := by rw [← Nat.add_assoc, Nat.pow_succ, Nat.mul_comm]
    omega
  · rw [eP i, h.z i hi, show rr R0 q i = 0 from aq.z i (by omega)]; omega
  · rw [eP P, h.d, show rr R0 q P = 0 from aq.z P (by omega)]; omega
  · rw [eP i]
    have c1 := h.b i
    have c2 : 0 ≤ rr R0 q i ∧ rr R0 q i ≤ 99 := aq.b i
    have h1 : (rr R P i - t * rr R0 q i).natAbs ≤ (rr R P i).natAbs + (t * rr R0 q i).natAbs := Int.natAbs_sub_le _ _
    rw [Int.natAbs_mul] at h1
    have h2 : t.natAbs * (rr R0 q i).natAbs ≤ 2 ^ (7 + 8 * k) * 99 := Nat.mul_le_mul (by omega) (by omega)
    have h4 : 2 ^ (7 + 8 * (k + 1)) = 256 * 2 ^ (7 + 8 * k) := by rw [show 7 + 8 * (k + 1) = 8 + (7 + 8 * k) by omega, Nat.pow_add]
    omega
  · rw [eP i]
    by_cases e : i = q
    · subst e
      have : rr R P i - t * rr R0 i i = rr R P i % rr R0 i i := by rw [Int.emod_def, ht, Int.mul_comm]
      rw [this]
      exact ⟨Int.emod_nonneg _ (by omega), Int.emod_lt_of_pos _ pq⟩
    · rw [show rr R0 q i = 0 from aq.z i (by omega)]
      have := h.red i h1 (by omega) h3
      omega
end K32

end

section
set_option maxHeartbeats 2000000
namespace K32
open PySem L2 Kx Mx
theorem wp_assoc {α β γ : Type} {o : Option α} {f : α → Option β} {g : β → Option γ} {P : β → Prop} {Q : γ → Prop} (h : Wp (o.bind f) P) (k : ∀ r, P r → Wp (g r) Q) : Wp (o.bind fun x => (f x).bind g) Q := by
  obtain ⟨r, e, p⟩ := h
  obtain ⟨s, e2, q⟩ := k r p
  refine ⟨s, ?_, q⟩
  cases o with
  | none => cases e
  | some x =>
    show (f x).bind g = some s
    rw [show f x = some r from e]
    exact e2
theorem nat_less2 {x y t : Int} {A T Y E : Nat} (hx : x.natAbs < 2 ^ A) (hy : y.natAbs < 2 ^ Y) (ht : t.natAbs < 2 ^ T) (h1 : A ≤ E) (h2 : T + Y ≤ E) : (x - t * y).natAbs < 2 ^ (E + 1) := by
  have a1 : (x - t * y).natAbs ≤ x.natAbs + (t * y).natAbs := Int.natAbs_sub_le _ _
  rw [Int.natAbs_mul] at a1
  have a2 : t.natAbs * y.natAbs ≤ 2 ^ T * 2 ^ Y := Nat.mul_le_mul (by omega) (by omega)
  rw [← Nat.pow_add] at a2
  have a3 : 2 ^ (T + Y) ≤ 2 ^ E := pow2 h2
  have a4 : 2 ^ A ≤ 2 ^ E := pow2 h1
  have a5 : 2 ^ (E + 1) = 2 * 2 ^ E := by rw [Nat.pow_succ, Nat.mul_comm]
  omega
/-- the rungs in the end -/
structure Laid (m : List Int) (vs : List (List Int)) (R : Rungs) : Prop where
  len : R.length = m.length
  f : ∀ p, p < m.length → Fin1 m vs R p m.length
  o : Own m R
  v : ∀ v ∈ vs, Spn (RungsS m.length (rr R) 0) (vf v)
theorem Laid.tri {m : List Int} {vs : List (List Int)} {R : Rungs} (h : Laid m vs R) : Tri m.length (rr R) :=
  ⟨fun p hp i hi => (h.f p hp).z i hi, fun p hp => (h.f p hp).pos.1, fun p hp i hi => vf_out (by rw [(h.f p hp).r.l]; exact hi)⟩
theorem stage_step {m : List Int} {vs : List (List Int)} (hm : Mdl m) (hv : Vcs m vs) {R0 Rs : Rungs} {P : Nat} (g0 : Rg m vs B1 R0) (hP : P < m.length) (st : Stage m vs R0 Rs P) :
    Wp ((rng2O ((P : Int) + (1 : Int)) (m.length : Int)).bind fun t73 => (forO (fun (st75 : (List ((List Int) × (List Int)))) (x76 : Int) => (atI st75 (P : Int)).bind fun t81 => (atI t81.1 x76).bind fun t86 => (atI st75 x76).bind fun t87 => (atI t87.1 x76).bind fun t88 => (fdivO t86 t88).bind fun t89 => (atI st75 x76).bind fun t90 => (m_less (t81.1, t90.1, t89)).bind fun t91 => (atI st75 x76).bind fun t92 => (m_less (t81.2, t92.2, t89)).bind fun t93 => (setO st75 (P : Int) (t91, t93)).bind fun t94 => some t94) t73 Rs).bind fun fin74 => some fin74) (Stage m vs R0 · (P + 1)) := by
  have hml := hm.l2
  have hB1 : B1 = 500000 := rfl
  have hB2 : B2 = 500200 := rfl
  have e1 : ((P : Int) + 1) = ((P + 1 : Nat) : Int) := by omega
  rw [e1]
  refine wp_bind (wp_rng2O (P := fun t => t = irange ((P + 1 : Nat) : Int) (m.length : Int)) ⟨⟨by omega, by omega⟩, by omega, by omega⟩ rfl) fun t73 e73 => ?_
  subst e73
  have eP : rg Rs P = rg R0 P := st.high P (Nat.le_refl _)
  have aP := g0.at_ P hP
  refine wp_bind (P := fun R => Inner m vs R0 Rs R P (m.length - (P + 1))) ?_ fun R h => wp_some ?_
  · refine wp_forO (fun k R => Inner m vs R0 Rs R P k) ?_ ?_ ?_
    · refine ⟨st.len, fun q _ => rfl, ?_, fun i hi => ?_, ?_, fun i => ?_, fun i h1 h2 => by omega, st.sp⟩
      · rw [eP]; exact (g0.rw_ P hP).up (by omega)
      · show vf (rg Rs P).1 i = 0
        rw [eP]; exact aP.z i hi
      · show vf (rg Rs P).1 P = _
        rw [eP]
      · show (vf (rg Rs P).1 i).natAbs < _
        rw [eP]
        have := aP.b i
        show _ < 128
        omega
    · intro k x R hx h
      obtain ⟨h1, h2⟩ := irange2_at hx
      rw [h2]
      exact inner_step hm hv g0 st hP h1 h
    · intro R h
      rw [irange2_len] at h
      exact h
  · refine ⟨h.len, fun p hp hpl => ?_, fun p hp => ?_, fun p hp => ?_, h.sp⟩
    · by_cases e : p = P
      · subst e
        refine ⟨h.r.up (by omega), h.z, ?_, fun i => Nat.lt_of_lt_of_le (h.b i) (pow2 (by omega)), fun i h1 h2 => ?_⟩
        · rw [h.d]
          have : 0 ≤ rr R0 p p ∧ rr R0 p p ≤ 99 := aP.b p
          exact ⟨g0.pos p hP, this.2⟩
        · have := h.red i h1 (by omega) h2
          have e2 : rr R i i = rr R0 i i := by
            show vf (rg R i).1 i = _
            rw [h.other i (by omega), st.high i (by omega)]
          rw [e2]
          exact this
      · have f := st.low p (by omega) hpl
        have ep : rg R p = rg Rs p := h.other p e
        have er : ∀ i, rr R p i = rr Rs p i := fun i => by show vf (rg R p).1 i = _; rw [ep]
        refine ⟨by rw [ep]; exact f.r, fun i hi => by rw [er]; exact f.z i hi, by rw [er]; exact f.pos, fun i => by rw [er]; exact f.b i, fun i h1 h2 => ?_⟩
        have := f.red i h1 h2
        rw [er]
        by_cases ei : i = P
        · rw [ei, h.d, ← st.diag P hP, ← ei]
          exact this
        · have : rr R i i = rr Rs i i := by show vf (rg R i).1 i = _; rw [h.other i ei]
          rw [this]
          assumption
    · rw [h.other p (by omega)]
      exact st.high p (by omega)
    · by_cases e : p = P
      · rw [e]; exact h.d
      · have : rr R p p = rr Rs p p := by show vf (rg R p).1 p = _; rw [h.other p e]
        rw [this]
        exact st.diag p hp
theorem laid_spec {m : List Int} {vs : List (List Int)} (hm : Mdl m) (hv : Vcs m vs) : Wp (m_laid (m, vs)) (Laid m vs) := by
  have hml := hm.l2
  have h40 := hv.l
  unfold m_laid
  dsimp only
  refine wp_assoc (first_spec hm hv) fun R hR => ?_
  refine wp_bind (P := Lay m vs vs.length) ?_ fun R0 h0 => ?_
  · refine wp_forO (fun k R => Lay m vs k R) hR ?_ ?_
    · intro k x R hx h
      obtain ⟨v, hv1, rfl⟩ := enum_at hx
      exact vector_step hm hv hv1 h
    · intro R h
      rw [enum_len] at h
      exact h
  · have g0 : Rg m vs B1 R0 := ⟨h0.g.len, fun p hp => (h0.g.rw_ p hp).up (by have : B1 = 500000 := rfl; omega), h0.g.at_, h0.g.pos⟩
    refine wp_bind (wp_rngN (n := m.length) (P := fun t => t = irange 0 (m.length : Int)) (by omega) rfl) fun t65 e65 => ?_
    subst e65
    refine wp_bind (P := fun R => Stage m vs R0 R m.length) ?_ fun R h => wp_some ?_
    · refine wp_forO (fun P R => Stage m vs R0 R P) ?_ ?_ ?_
      · exact ⟨g0.len, fun p hp => by omega, fun p _ => rfl, fun p _ => rfl, fun p hp => .of ⟨p, Nat.zero_le _, hp, fun _ => rfl⟩⟩
      · intro P x R hx h
        obtain ⟨hP, rfl⟩ := irange_at hx
        exact stage_step hm hv g0 hP h
      · intro R h
        rw [irange_nat_len] at h
        exact h
    · have into : ∀ x, Spn (RungsS m.length (rr R0) 0) x → Spn (RungsS m.length (rr R) 0) x := fun x hx => hx.into fun y ⟨p, _, h2, h3⟩ => (h.sp p h2).is fun i => (h3 i).symm
      refine ⟨h.len, fun p hp => h.low p hp hp, fun q hq => into _ (h0.o q hq), fun v hv1 => ?_⟩
      obtain ⟨j, hj, e⟩ := List.mem_iff_getElem.mp hv1
      exact into _ (h0.v j v hj (by rw [← e]; exact List.getElem?_eq_getElem hj))
end K32

end

section
set_option maxHeartbeats 2000000
namespace K32
open PySem L2 Kx Mx
/-! ### down the ladder -/
structure Dn (m : List Int) (vs : List (List Int)) (R : Rungs) (x : List Int) (X : Nat) (p : Nat) (st : List Int × List Int) : Prop where
  l : st.1.length = m.length
  c : st.2.length = vs.length
  rel : ∀ i, i < m.length → vf m i ∣ vf x i - vf st.1 i - lin st.2 vs i
  b : ∀ i, (vf st.1 i).natAbs < 2 ^ (X + 110 * p)
  cb : ∀ j, (vf st.2 j).natAbs < 2 ^ (X + 2000 + B2 + p)
  red : ∀ i, i < p → i < m.length → 0 ≤ vf st.1 i ∧ vf st.1 i < rr R i i
  sp : Spn (RungsS m.length (rr R) 0) fun i => vf x i - vf st.1 i
theorem gone_down_spec {m : List Int} {vs : List (List Int)} (hm : Mdl m) (hv : vs.length ≤ 40) {R : Rungs} (h : Laid m vs R) {x : List Int} (hx : x.length = m.length) {X : Nat} (hX : X ≤ 1000000) (bx : ∀ i, (vf x i).natAbs < 2 ^ X) :
    Wp (m_gone_down (R, x)) (Dn m vs R x X m.length) := by
  have hml := hm.l2
  have hm1 := hm.l1
  have hl := h.len
  have hB2 : B2 = 500200 := rfl
  unfold m_gone_down
  dsimp only
  refine wp_bind (wp_is (o := atI R 0) (x := rg R 0) (P := fun t => t = rg R 0) (by rw [show (0 : Int) = ((0 : Nat) : Int) from rfl, atI_nat' (by omega), rg_at (by omega)]) rfl) fun t1 e1 => ?_
  subst e1
  have c0 : (rg R 0).2.length = vs.length := (h.f 0 (by omega)).r.c
  refine wp_bind (wp_repO (P := fun t => t = List.replicate vs.length (0 : Int)) ⟨by omega, by omega⟩ (by rw [c0, Int.toNat_natCast])) fun t2 e2 => ?_
  subst e2
  refine wp_bind (P := fun st => Dn m vs R x X m.length st) ?_ fun st h => wp_some h
  refine wp_forO (fun p st => Dn m vs R x X p st) ?_ ?_ ?_
  · refine ⟨hx, List.length_replicate, fun i hi => ?_, fun i => by rw [Nat.mul_zero, Nat.add_zero]; exact bx i, fun j => by rw [vf_zero]; exact Nat.pow_pos (by decide), fun i hi => by omega, Spn.zero.is fun i => by dsimp only; omega⟩
    rw [lin_zero]
    exact ⟨0, by dsimp only; omega⟩
  · rintro p ⟨n1, rung⟩ ⟨row, counts⟩ hpx d
    obtain ⟨rung', hr, e⟩ := enum_at hpx
    cases e
    obtain ⟨l, c, rel, b, cb, red, sp⟩ := d
    dsimp only at *
    have hp : p < R.length := (List.getElem?_eq_some_iff.mp hr).1
    have er : rung = rg R p := by
      rw [rg_at hp]
      exact (Option.some.inj ((List.getElem?_eq_getElem hp).symm.trans hr)).symm
    subst er
    have f := h.f p (by omega)
    have lr := f.r.l
    have pp := f.pos
    refine wp_bind (wp_atI (i := p) (P := fun t => t = vf row p) (by omega) (vf_at (by omega)).symm) fun t18 e18 => ?_
    subst e18
    refine wp_bind (wp_atI (i := p) (P := fun t => t = rr R p p) (by omega) (vf_at (by omega)).symm) fun t19 e19 => ?_
    subst e19
    refine wp_bind (wp_fdivO (P := fun t => t = vf row p / rr R p p) ⟨by omega, by omega⟩ (fd pp.1)) fun t ht => ?_
    have tb : t.natAbs < 2 ^ (X + 110 * p) := by rw [ht]; exact Nat.lt_of_le_of_lt (natAbs_ediv pp.1) (b p)
    refine wp_bind (less_spec (by omega) (by omega) fun i hi => bits_mul tb (f.b i) (by omega)) fun r1 ⟨l1, e1⟩ => ?_
    refine wp_bind (less_spec (t := -t) (by rw [c, f.r.c]) (by rw [c]; omega) fun i hi => bits_mul (a := X + 110 * p) (by rw [Int.natAbs_neg]; exact tb) (f.r.b i) (by omega)) fun r2 ⟨l2, e2⟩ => wp_some ?_
    refine ⟨by dsimp only; omega, by dsimp only; omega, fun i hi => ?_, fun i => ?_, fun j => ?_, fun i h1 h2 => ?_, ?_⟩
    · dsimp only
      rw [lin_less (t := -t) c f.r.c (by omega) e2, e1 i]
      obtain ⟨u, hu⟩ := rel i hi
      obtain ⟨w, hw⟩ := f.r.rel i hi
      refine ⟨u + t * w, ?_⟩
      rw [Int.mul_add, Int.mul_left_comm, ← hw, ← hu, Int.mul_sub, Int.neg_mul]
      omega
    · dsimp only
      rw [e1 i]
      exact Nat.lt_of_lt_of_le (nat_less2 (E := X + 110 * p + 100) (b i) (f.b i) tb (by omega) (by omega)) (pow2 (by omega))
    · dsimp only
      rw [e2 j]
      exact Nat.lt_of_lt_of_le (nat_less2 (E := X + 2000 + B2 + p) (T := X + 110 * p) (cb j) (f.r.b j) (by rw [Int.natAbs_neg]; exact tb) (by omega) (by omega)) (pow2 (by omega))
    · dsimp only
      rw [e1 i]
      by_cases e : i = p
      · subst e
        have : vf row i - t * rr R i i = vf row i % rr R i i := by rw [Int.emod_def, ht, Int.mul_comm]
        rw [this]
        exact ⟨Int.emod_nonneg _ (by omega), Int.emod_lt_of_pos _ pp.1⟩
      · rw [show vf (rg R p).1 i = 0 from f.z i (by omega)]
        have := red i (by omega) h2
        omega
    · have s : Spn (RungsS m.length (rr R) 0) (rr R p) := .of ⟨p, Nat.zero_le _, by omega, fun _ => rfl⟩
      have e1' : ∀ i, vf r1 i = vf row i - t * rr R p i := e1
      exact (sp.plus (s.mul t)).is fun i => by dsimp only; rw [e1' i]; omega
  · intro st d
    rw [enum_len, hl] at d
    exact d
end K32

end

section
set_option maxHeartbeats 2000000
namespace K32
open PySem L2 Kx Mx
/-- what the vectors and the moduli's own span -/
def GenS (m : List Int) (vs : List (List Int)) : Vc → Prop := fun g => (∃ v, v ∈ vs ∧ ∀ i, g i = vf v i) ∨ ∃ q, q < m.length ∧ ∀ i, g i = unit q (vf m q) i
abbrev SP (m : List Int) (vs : List (List Int)) (f : Vc) : Prop := Spn (GenS m vs) f
theorem sp_own {m : List Int} {vs : List (List Int)} {q : Nat} (h : q < m.length) : SP m vs (unit q (vf m q)) := .of (.inr ⟨q, h, fun _ => rfl⟩)
theorem sp_vec {m : List Int} {vs : List (List Int)} {v : List Int} (h : v ∈ vs) : SP m vs (vf v) := .of (.inl ⟨v, h, fun _ => rfl⟩)
theorem spn_lin {S : Vc → Prop} : ∀ {cs : List Int} {vs : List (List Int)}, (∀ v ∈ vs, Spn S (vf v)) → Spn S fun i => lin cs vs i
  | [], vs, _ => Spn.zero.is fun i => by simp [lin]
  | c :: cs, [], _ => Spn.zero.is fun i => by simp [lin]
  | c :: cs, v :: vs, h => (((h v List.mem_cons_self).mul c).plus (spn_lin (cs := cs) (vs := vs) fun w hw => h w (List.mem_cons_of_mem _ hw))).is fun i => by simp only [lin]
theorem lin_out {n i : Nat} (hi : n ≤ i) : ∀ {cs : List Int} {vs : List (List Int)}, (∀ v ∈ vs, v.length = n) → lin cs vs i = 0
  | [], vs, _ => by simp [lin]
  | c :: cs, [], _ => by simp [lin]
  | c :: cs, v :: vs, h => by
    simp only [lin]
    rw [lin_out hi fun w hw => h w (List.mem_cons_of_mem _ hw), vf_out (by rw [h v List.mem_cons_self]; exact hi)]
    omega
theorem lin_congr {w d : Int} {i : Nat} (hd : d ∣ w) : ∀ {a b : List Int} {vs : List (List Int)}, a.length = b.length → (∀ j, w ∣ vf a j - vf b j) → d ∣ lin a vs i - lin b vs i
  | [], [], vs, _, _ => by simp [lin]
  | x :: a, y :: b, [], _, _ => by simp [lin]
  | x :: a, y :: b, v :: vs, hl, h => by
    simp only [lin]
    have h0 : w ∣ x - y := h 0
    have ih := lin_congr (vs := vs) (i := i) hd (a := a) (b := b) (by simpa using hl) fun j => h (j + 1)
    have e : x * vf v i + lin a vs i - (y * vf v i + lin b vs i) = (x - y) * vf v i + (lin a vs i - lin b vs i) := by rw [Int.sub_mul]; omega
    rw [e]
    exact Int.dvd_add (Int.dvd_mul_of_dvd_left (Int.dvd_trans hd h0)) ih
  | [], _ :: _, _, h, _ => by simp at h
  | _ :: _, [], _, h, _ => by simp at h
theorem sum_spn {m : List Int} {vs : List (List Int)} {R : Rungs} (h : Laid m vs R) {f : Vc} (s : SP m vs f) : Spn (RungsS m.length (rr R) 0) f :=
  s.into fun g hg => by
    rcases hg with ⟨v, hv, e⟩ | ⟨q, hq, e⟩
    · exact (h.v v hv).is fun i => (e i).symm
    · exact (h.o q hq).is fun i => (e i).symm
/-- a sum by the rests is spanned -/
theorem sp_lin {m : List Int} {vs : List (List Int)} {f : Vc} {cs : List Int} (hv : ∀ v ∈ vs, v.length = m.length) (hf : ∀ i, m.length ≤ i → f i = 0) (hr : ∀ i, i < m.length → vf m i ∣ f i - lin cs vs i) : SP m vs f := by
  have s1 := spn_lin (S := GenS m vs) (cs := cs) fun v hv => sp_vec hv
  have u := spn_all (S := GenS m vs) (fun q hq => sp_own hq) (fun i => (f i - lin cs vs i) / vf m i) m.length (Nat.le_refl _)
  refine (s1.plus u).is fun i => ?_
  by_cases hi : i < m.length
  · rw [if_pos hi, Int.ediv_mul_cancel (hr i hi)]; omega
  · rw [if_neg hi, lin_out (n := m.length) (by omega) hv, hf i (by omega)]; omega
end K32

end

section
set_option maxHeartbeats 2000000
namespace K32
open PySem L2 Kx Mx
theorem pull_spec {a : Int} (z : Sto) (h1 : 0 < a) (h2 : a < 2 ^ 200) : Wp (m__law_pull a z) fun r => 0 ≤ r.1 ∧ r.1 < a := by
  unfold m__law_pull pullM
  refine wp_cond (fun e => ?_) (fun e => ?_)
  · refine wp_bind (wp_dmO (P := fun t => t = (z.1 / a, z.1 % a)) (cdivw (n := 0) h1 h2) rfl) fun t ht => wp_some ?_
    subst ht
    exact ⟨Int.emod_nonneg _ (by omega), Int.emod_lt_of_pos _ h1⟩
  · refine wp_bind (wp_modO (P := fun t => 0 ≤ t ∧ t < 40961) (by decide) ?_) fun t1 ⟨g1, g2⟩ => ?_
    · rw [fm (by decide)]
      exact ⟨Int.emod_nonneg _ (by decide), Int.emod_lt_of_pos _ (by decide)⟩
    refine wp_bind (wp_mulO (P := fun _ => True) (small_mul ⟨by omega, by omega⟩) trivial) fun t2 _ => wp_bind (wp_mulO (P := fun _ => True) (small_mul' ⟨by decide, by decide⟩) trivial) fun t3 _ => ?_
    refine wp_bind (wp_modO (P := fun _ => True) (by decide) trivial) fun t4 _ => wp_bind (wp_fdivO (P := fun _ => True) ⟨by decide, by decide⟩ trivial) fun t5 _ => wp_bind (wp_modO (P := fun t => 0 ≤ t ∧ t < a) (by omega) ?_) fun t6 h6 => wp_some h6
    rw [fm h1]
    exact ⟨Int.emod_nonneg _ (by omega), Int.emod_lt_of_pos _ h1⟩
theorem opened_spec (ns : List Int) (k : Nat) : Wp (m__law_opened (ns, (k : Int))) fun _ => True := by
  unfold m__law_opened
  dsimp only
  refine wp_bind (wp_mulO (P := fun _ => True) (small_mul' ⟨by decide, by decide⟩) trivial) fun t1 _ => ?_
  refine wp_bind (P := fun _ => True) (wp_cond (fun e => ?_) (fun e => wp_some trivial)) fun j2 _ => ?_
  · have : (k : Int) < (ns.length : Int) := of_decide_eq_true e
    exact wp_bind (wp_atI (i := k) (P := fun _ => True) (by omega) trivial) fun t4 _ => wp_some trivial
  refine wp_bind (P := fun _ => True) (wp_cond (fun e => wp_some trivial) (fun e => wp_bind (wp_powO (P := fun _ => True) ⟨by decide, by decide, by decide⟩ trivial) fun t6 _ => wp_some trivial)) fun t7 _ => ?_
  refine wp_bind (wp_mulO (P := fun _ => True) (small_mul (by split <;> omega)) trivial) fun t8 _ => wp_bind (wp_mulO (P := fun _ => True) (small_mul' ⟨by decide, by decide⟩) trivial) fun t9 _ => wp_bind (wp_mulO (P := fun _ => True) (small_mul' ⟨by decide, by decide⟩) trivial) fun t10 _ => wp_bind (wp_modO (P := fun _ => True) (by decide) trivial) fun t11 _ => wp_some trivial
end K32

end

section
set_option maxHeartbeats 2000000
namespace K32
open PySem L2 Kx Mx
/-! ### the sizes -/
def prod : List Int → Int
  | [] => 1
  | x :: xs => x * prod xs
theorem prod_app : ∀ (xs : List Int) (y : Int), prod (xs ++ [y]) = prod xs * y
  | [], y => by simp [prod]
  | x :: xs, y => by
    show x * prod (xs ++ [y]) = x * prod xs * y
    rw [prod_app xs y, Int.mul_assoc]
structure Sz (m : List Int) (most bulk : Int) : Prop where
  l1 : 1 ≤ m.length
  l2 : m.length ≤ 12
  b : ∀ x ∈ m, 1 ≤ x ∧ x ≤ most
  p : prod m ≤ bulk
theorem sizes_spec {many most bulk : Int} (z : Sto) (h1 : 1 ≤ many ∧ many ≤ 12) (h2 : 1 ≤ most ∧ most ≤ 99) (h3 : 1 ≤ bulk ∧ bulk ≤ 1000) : Wp (m__law_sizes (many, most, bulk) z) fun r => Sz r.1 most bulk := by
  unfold m__law_sizes
  dsimp only
  refine wp_bind (pull_spec z (by omega) (by omega)) fun t1 ⟨g1, g2⟩ => ?_
  refine wp_bind (wp_rngO (P := fun t => t = irange 0 (1 + t1.1)) ⟨by omega, by omega⟩ rfl) fun t2 e2 => ?_
  subst e2
  have el : (irange 0 (1 + t1.1)).length ≤ 12 := by rw [irange_len]; omega
  refine wp_bind (P := fun st : Int × List Int × Sto => st.1 = prod st.2.1 ∧ 1 ≤ st.1 ∧ st.1 ≤ bulk ∧ st.2.1.length ≤ 12 ∧ ∀ x ∈ st.2.1, 1 ≤ x ∧ x ≤ most) ?_ fun st ⟨q1, q2, q3, q4, q5⟩ => wp_some ?_
  · refine wp_forO (fun i (st : Int × List Int × Sto) => st.1 = prod st.2.1 ∧ 1 ≤ st.1 ∧ st.1 ≤ bulk ∧ st.2.1.length ≤ i ∧ ∀ x ∈ st.2.1, 1 ≤ x ∧ x ≤ most) ⟨rfl, by show (1 : Int) ≤ 1; decide, by show (1 : Int) ≤ bulk; omega, Nat.le_refl _, fun x hx => by simp at hx⟩ ?_ ?_
    · rintro i x ⟨tm, found, z'⟩ hx ⟨q1, q2, q3, q4, q5⟩
      dsimp only at *
      have hi := (List.getElem?_eq_some_iff.mp hx).1
      refine wp_bind (pull_spec z' (by omega) (by omega)) fun t10 ⟨g3, g4⟩ => ?_
      refine wp_bind (wp_mulO (P := fun t => t = tm * (1 + t10.1)) (small_mul ⟨by omega, by omega⟩) rfl) fun t11 e11 => ?_
      subst e11
      refine wp_cond (fun e => ?_) (fun e => wp_some ⟨q1, q2, q3, by dsimp only; omega, q5⟩)
      have hle : tm * (1 + t10.1) ≤ bulk := of_decide_eq_true e
      refine wp_bind (wp_appO (P := fun t => t = found ++ [1 + t10.1]) (by omega) rfl) fun t12 e12 => wp_bind (wp_mulO (P := fun t => t = tm * (1 + t10.1)) (small_mul ⟨by omega, by omega⟩) rfl) fun t13 e13 => wp_some ?_
      subst e12; subst e13
      refine ⟨by dsimp only; rw [prod_app, q1], ?_, hle, by dsimp only; rw [List.length_append]; simp; omega, fun y hy => ?_⟩
      · show (1 : Int) ≤ tm * (1 + t10.1)
        have hp : 0 < tm * (1 + t10.1) := Int.mul_pos (by omega) (by omega)
        omega
      · dsimp only at hy
        rcases List.mem_append.mp hy with h | h
        · exact q5 y h
        · have : y = 1 + t10.1 := by simpa using h
          subst this
          omega
    · rintro st ⟨q1, q2, q3, q4, q5⟩
      exact ⟨q1, q2, q3, by omega, q5⟩
  · dsimp only
    by_cases e : st.2.1 = []
    · rw [e]
      show Sz [1] most bulk
      exact ⟨by decide, by decide, fun x hx => by
        have : x = 1 := by simpa using hx
        omega, by simp [prod]; omega⟩
    · rw [show (!decide (st.2.1 = [])) = true by simp [e]]
      exact ⟨by show 1 ≤ st.2.1.length; cases h : st.2.1 with | nil => exact absurd h e | cons a l => simp, q4, q5, by show prod st.2.1 ≤ bulk; omega⟩
end K32

end

section
set_option maxHeartbeats 2000000
namespace K32
open PySem L2 Kx Mx
/-! ### vectors drawn -/
theorem arrow_spec {m : List Int} (z : Sto) (hl : m.length ≤ 12) (h : ∀ x ∈ m, 1 ≤ x ∧ x ≤ 99) : Wp (m__law_arrow m z) fun r => r.1.length = m.length ∧ ∀ x ∈ r.1, -1000000 < x ∧ x < 1000000 := by
  unfold m__law_arrow
  refine wp_bind (pull_spec z (by decide) (by decide)) fun t1 ⟨g1, g2⟩ => ?_
  refine wp_bind (P := fun st : List Int × Sto => st.1.length = m.length ∧ ∀ x ∈ st.1, -1000000 < x ∧ x < 1000000) ?_ fun st h => wp_some h
  refine wp_forO (fun i (st : List Int × Sto) => st.1.length = i ∧ ∀ x ∈ st.1, -1000000 < x ∧ x < 1000000) ⟨rfl, fun x hx => by simp at hx⟩ ?_ (fun st h => h)
  rintro i x ⟨found, z'⟩ hx ⟨q1, q2⟩
  dsimp only at *
  have hi := (List.getElem?_eq_some_iff.mp hx).1
  have bx := h x (List.mem_of_getElem? hx)
  refine wp_bind (pull_spec z' (by omega) (by omega)) fun t9 ⟨a1, a2⟩ => ?_
  refine wp_bind (wp_powO (P := fun t => t = 1000000) ⟨by decide, by decide, by decide⟩ (by decide)) fun t10 e10 => ?_
  subst e10
  refine wp_bind (pull_spec t9.2 (by decide) (by decide)) fun t11 ⟨b1, b2⟩ => ?_
  refine wp_bind (wp_mulO (P := fun t => t = 3 * x) (small_mul' ⟨by decide, by decide⟩) rfl) fun t12 e12 => ?_
  subst e12
  refine wp_bind (pull_spec t11.2 (by omega) (by omega)) fun t13 ⟨c1, c2⟩ => ?_
  refine wp_bind (wp_is (x := t9.1) (P := fun t => t = t9.1) rfl rfl) fun t14 e14 => ?_
  subst e14
  refine wp_bind (pull_spec t13.2 (by decide) (by decide)) fun t15 ⟨d1, d2⟩ => ?_
  refine wp_bind (wp_mulO (P := fun t => t = t9.1 * (if (decide (t15.1 = (0 : Int))) then 1 else 0 : Int)) (small_mul (by split <;> omega)) rfl) fun t16 e16 => ?_
  have b16 : 0 ≤ t16 ∧ t16 < 1000000 := by
    rw [e16]
    split <;> omega
  refine wp_bind (wp_appO (P := fun t => t = [t9.1, t11.1, 0 - t13.1, t16]) (by simp) rfl) fun t17 e17 => ?_
  subst e17
  refine wp_bind (P := fun t : Int => -1000000 < t ∧ t < 1000000) ?_ fun t18 h18 => wp_bind (wp_appO (P := fun t => t = found ++ [t18]) (by omega) rfl) fun t19 e19 => wp_some ?_
  · have e : t1.1 = 0 ∨ t1.1 = 1 ∨ t1.1 = 2 ∨ t1.1 = 3 := by omega
    rcases e with e | e | e | e
    · rw [e]; exact wp_is rfl (by omega)
    · rw [e]; exact wp_is rfl (by omega)
    · rw [e]; exact wp_is rfl (by omega)
    · rw [e]; exact wp_is rfl (by omega)
  · subst e19
    refine ⟨by dsimp only; rw [List.length_append, q1]; rfl, fun y hy => ?_⟩
    dsimp only at hy
    rcases List.mem_append.mp hy with h | h
    · exact q2 y h
    · have : y = t18 := by simpa using h
      rw [this]; exact h18
/-- such as are drawn -/
structure Arr (m : List Int) (vs : List (List Int)) : Prop where
  e : ∀ v ∈ vs, v.length = m.length
  b : ∀ v ∈ vs, ∀ x ∈ v, -1000000 < x ∧ x < 1000000
theorem arrows_spec {m : List Int} {most : Int} (z : Sto) (hl : m.length ≤ 12) (h : ∀ x ∈ m, 1 ≤ x ∧ x ≤ 99) (hm : 0 ≤ most ∧ most ≤ 39) : Wp (m__law_arrows (m, most) z) fun r => Arr m r.1 ∧ (r.1.length : Int) ≤ most := by
  unfold m__law_arrows
  dsimp only
  refine wp_bind (pull_spec z (by omega) (by omega)) fun t1 ⟨g1, g2⟩ => ?_
  refine wp_bind (wp_rngO (P := fun t => t = irange 0 t1.1) ⟨by omega, by omega⟩ rfl) fun t2 e2 => ?_
  subst e2
  refine wp_bind (P := fun st : List (List Int) × Sto => Arr m st.1 ∧ (st.1.length : Int) ≤ most) ?_ fun st h => wp_some h
  refine wp_forO (fun i (st : List (List Int) × Sto) => Arr m st.1 ∧ st.1.length = i) ⟨⟨fun v hv => by simp at hv, fun v hv => by simp at hv⟩, rfl⟩ ?_ ?_
  · rintro i x ⟨found, z'⟩ hx ⟨q1, q2⟩
    dsimp only at *
    have hi := (List.getElem?_eq_some_iff.mp hx).1
    rw [irange_len] at hi
    refine wp_bind (arrow_spec z' hl h) fun t10 ⟨a1, a2⟩ => ?_
    refine wp_bind (wp_appO (P := fun t => t = found ++ [t10.1]) (by omega) rfl) fun t11 e11 => ?_
    have A : Arr m t11 := by
      subst e11
      refine ⟨fun v hv => ?_, fun v hv => ?_⟩
      · rcases List.mem_append.mp hv with h | h
        · exact q1.e v h
        · have : v = t10.1 := by simpa using h
          rw [this]; exact a1
      · rcases List.mem_append.mp hv with h | h
        · exact q1.b v h
        · have : v = t10.1 := by simpa using h
          rw [this]; exact a2
    have l11 : t11.length = i + 1 := by subst e11; rw [List.length_append, q2]; rfl
    refine wp_bind (pull_spec t10.2 (by decide) (by decide)) fun t12 ⟨b1, b2⟩ => wp_cond (fun e => ?_) (fun e => wp_some ⟨A, l11⟩)
    refine wp_bind (pull_spec t12.2 (by omega) (by omega)) fun t13 ⟨c1, c2⟩ => ?_
    obtain ⟨j, hj⟩ : ∃ j : Nat, t13.1 = (j : Int) := ⟨t13.1.toNat, by omega⟩
    rw [hj]
    refine wp_bind (wp_atI (i := j) (P := fun t => t ∈ t11) (by omega) (List.getElem_mem _)) fun t14 m14 => ?_
    refine wp_bind (P := fun t : List (List Int) => Arr m t ∧ t.length = i + 1) ?_ fun t15 h15 => wp_some h15
    unfold setO ixN
    rw [if_neg (by omega), if_pos (by omega)]
    refine wp_some ⟨⟨fun v hv => ?_, fun v hv => ?_⟩, by rw [List.length_set]; exact l11⟩
    · rcases List.mem_or_eq_of_mem_set hv with h | h
      · exact A.e v h
      · rw [h]; exact A.e _ m14
    · rcases List.mem_or_eq_of_mem_set hv with h | h
      · exact A.b v h
      · rw [h]; exact A.b _ m14
  · rintro st ⟨q1, q2⟩
    rw [irange_len] at q2
    exact ⟨q1, by omega⟩
end K32

end

section
set_option maxHeartbeats 2000000
namespace K32
open PySem L2 Kx Mx
theorem sum_lin {i : Nat} : ∀ {cs : List Int} {vs : List (List Int)} {ys : List Int}, cs.length = vs.length → ys.length = vs.length → (∀ j, j < vs.length → vf ys j = vf (vs.getD j []) i * vf cs j) → ys.sum = lin cs vs i
  | [], [], [], _, _, _ => by simp [lin]
  | c :: cs, v :: vs, y :: ys, h1, h2, h => by
    have e0 : y = vf v i * c := h 0 (by simp)
    have ih := sum_lin (i := i) (cs := cs) (vs := vs) (ys := ys) (by simpa using h1) (by simpa using h2) fun j hj => h (j + 1) (by simpa using hj)
    rw [List.sum_cons, ih]
    simp only [lin]
    rw [e0, Int.mul_comm]
  | [], [], _ :: _, _, h, _ => by simp at h
  | _ :: _, [], _, h, _, _ => by simp at h
  | [], _ :: _, _, h, _, _ => by simp at h
  | _ :: _, _ :: _, [], _, h, _ => by simp at h
theorem summed_spec {m : List Int} {b b' : Bool} {vs : List (List Int)} {cs : List Int} (hm : Mdl m) (hl : vs.length ≤ 1000) (he : ∀ v ∈ vs, v.length = m.length) (hc : cs.length = vs.length) (hg : ∀ v ∈ vs, ∀ c ∈ cs, ∀ x ∈ v, CMulO x c) :
    Wp (m__law_summed (m, (b, vs), (b', cs))) fun r => r.length = m.length ∧ ∀ i, i < m.length → vf r i = lin cs vs i % vf m i := by
  have hml := hm.l2
  unfold m__law_summed
  dsimp only
  refine wp_bind (wp_rngN (P := fun t => t = irange 0 (m.length : Int)) (by omega) rfl) fun t1 e1 => ?_
  subst e1
  refine wp_bind (P := fun r : List Int => r.length = m.length ∧ ∀ i, i < m.length → vf r i = lin cs vs i % vf m i) ?_ fun r h => wp_some h
  refine wp_forO (fun k (st : List Int) => st.length = k ∧ ∀ i, i < k → vf st i = lin cs vs i % vf m i) ⟨rfl, fun i hi => by omega⟩ ?_ (fun s h => by rw [irange_nat_len] at h; exact h)
  rintro k x st hx ⟨q1, q2⟩
  obtain ⟨hk, rfl⟩ := irange_at hx
  refine wp_bind (wp_rngN (P := fun t => t = irange 0 (vs.length : Int)) (by omega) rfl) fun t9 e9 => ?_
  subst e9
  refine wp_bind (P := fun t : List Int => t.sum = lin cs vs k) ?_ fun t20 h20 => ?_
  · refine wp_lcO (fun (x : Int) y => ∀ j : Nat, x = (j : Int) → y = vf (vs.getD j []) k * vf cs j) (by rw [irange_nat_len]; omega) ?_ ?_
    · intro x hx
      obtain ⟨j, hj, rfl⟩ := irange_mem hx
      have hvl := he vs[j] (List.getElem_mem hj)
      have g1 : vs.getD j [] = vs[j] := by simp [List.getD, hj]
      refine wp_bind (wp_atI (P := fun t => t = vs[j]) hj rfl) fun t16 e16 => ?_
      subst e16
      refine wp_bind (wp_atI (P := fun t => t = vf vs[j] k ∧ t ∈ vs[j]) (by omega) ⟨(vf_at (by omega)).symm, List.getElem_mem _⟩) fun t17 ⟨e17, m17⟩ => ?_
      refine wp_bind (wp_atI (P := fun t => t = vf cs j ∧ t ∈ cs) (by omega) ⟨(vf_at (by omega)).symm, List.getElem_mem _⟩) fun t18 ⟨e18, m18⟩ => ?_
      refine wp_bind (wp_mulO (P := fun t => t = t17 * t18) (hg _ (List.getElem_mem hj) _ m18 _ m17) rfl) fun t19 e19 => wp_some fun j' hj' => ?_
      have : j' = j := by omega
      subst this
      rw [g1, e19, e17, e18]
    · intro ys hy h
      rw [irange_nat_len] at hy
      refine sum_lin hc hy fun j hj => ?_
      have a : (irange 0 (vs.length : Int))[j]? = some (j : Int) := by
        rw [irange_nat, List.getElem?_map, List.getElem?_range hj]; rfl
      have b : ys[j]? = some ys[j] := List.getElem?_eq_getElem (by omega)
      rw [vf_get b]
      exact h j _ _ a b j rfl
  · refine wp_bind (wp_atI (P := fun t => t = vf m k) hk (vf_at hk).symm) fun t21 e21 => ?_
    have hp := hm.at hk
    refine wp_bind (wp_modO (P := fun t => t = t20.sum.fmod t21) (by omega) rfl) fun t22 e22 => ?_
    rw [h20, e21, fm (by omega)] at e22
    refine wp_bind (wp_appO (P := fun t => t = st ++ [t22]) (by omega) rfl) fun t23 e23 => wp_some ?_
    subst e23
    refine ⟨by rw [List.length_append, q1]; rfl, fun i hi => ?_⟩
    by_cases hik : i < k
    · rw [← q2 i hik]
      unfold vf
      simp [List.getD, List.getElem?_append, q1, hik]
    · have : i = k := by omega
      subst this
      rw [← e22]
      unfold vf
      simp [List.getD, List.getElem?_append, q1]
/-! ### boxes -/
def Box (m w : List Int) : Prop := w.length = m.length ∧ ∀ i, i < m.length → 0 ≤ vf w i ∧ vf w i < vf m i
theorem box_mod {m r : List Int} {f : Nat → Int} (hm : Mdl m) (h : r.length = m.length ∧ ∀ i, i < m.length → vf r i = f i % vf m i) : Box m r :=
  ⟨h.1, fun i hi => by
    have := hm.at hi
    rw [h.2 i hi]
    exact ⟨Int.emod_nonneg _ (by omega), Int.emod_lt_of_pos _ (by omega)⟩⟩
theorem box_eq {m w u : List Int} (hw : Box m w) (hu : Box m u) (h : ∀ i, i < m.length → vf m i ∣ vf w i - vf u i) : w = u := by
  refine vf_ext (by rw [hw.1, hu.1]) fun i hi => ?_
  rw [hw.1] at hi
  have a := hw.2 i hi
  have b := hu.2 i hi
  have c := Int.emod_emod_of_dvd (vf w i - vf u i) (h i hi)
  have d := (Int.emod_emod_of_dvd (vf w i) (Int.dvd_refl (vf m i)))
  have e : vf w i % vf m i = vf u i % vf m i := Int.emod_eq_emod_iff_emod_sub_eq_zero.mpr (Int.emod_eq_zero_of_dvd (h i hi))
  rw [Int.emod_eq_of_lt a.1 a.2, Int.emod_eq_of_lt b.1 b.2] at e
  exact e
def allBox : List Int → List (List Int)
  | [] => [[]]
  | x :: xs => (irange 0 x).flatMap fun y => (allBox xs).map (y :: ·)
theorem flat_len {α β : Type} {k : Nat} {f : α → List β} : ∀ {xs : List α}, (∀ x ∈ xs, (f x).length = k) → (xs.flatMap f).length = xs.length * k
  | [], _ => by simp
  | x :: xs, h => by
    rw [List.flatMap_cons, List.length_append, flat_len (xs := xs) fun y hy => h y (List.mem_cons_of_mem _ hy), h x List.mem_cons_self, List.length_cons, Nat.succ_mul]
    omega
theorem allBox_len : ∀ {m : List Int}, (∀ x ∈ m, 0 ≤ x) → ((allBox m).length : Int) = prod m
  | [], _ => rfl
  | x :: xs, h => by
    have h0 := h x List.mem_cons_self
    have ih := allBox_len (m := xs) fun y hy => h y (List.mem_cons_of_mem _ hy)
    show ((((irange 0 x).flatMap fun y => (allBox xs).map (y :: ·)).length : Nat) : Int) = x * prod xs
    rw [flat_len (k := (allBox xs).length) fun y hy => by rw [List.length_map], Int.natCast_mul, ih, irange_len]
    congr 1
    omega
theorem allBox_mem : ∀ {m w : List Int}, Box m w → w ∈ allBox m
  | [], [], _ => by simp [allBox]
  | x :: xs, y :: ys, h => by
    have h0 := h.2 0 (by simp)
    have e1 : vf (y :: ys) 0 = y := rfl
    have e2 : vf (x :: xs) 0 = x := rfl
    rw [e1, e2] at h0
    have ih := allBox_mem (m := xs) (w := ys) ⟨by simpa using h.1, fun i hi => h.2 (i + 1) (by simpa using hi)⟩
    show _ ∈ (irange 0 x).flatMap fun y => (allBox xs).map (y :: ·)
    rw [List.mem_flatMap]
    refine ⟨y, ?_, List.mem_map.mpr ⟨ys, ih, rfl⟩⟩
    have : x = ((x.toNat : Nat) : Int) := by omega
    rw [this, irange_nat, List.mem_map]
    exact ⟨y.toNat, List.mem_range.mpr (by omega), by omega⟩
  | [], _ :: _, h => by have := h.1; simp at this
  | _ :: _, [], h => by have := h.1; simp at this
theorem pigeon {α : Type} [DecidableEq α] : ∀ {l L : List α}, l.Nodup → (∀ x ∈ l, x ∈ L) → l.length ≤ L.length
  | [], _, _, _ => by simp
  | x :: xs, L, hn, h => by
    rw [List.nodup_cons] at hn
    have ih := pigeon (l := xs) (L := L.erase x) hn.2 fun y hy => by
      have ne : y ≠ x := by
        intro e
        rw [e] at hy
        exact hn.1 hy
      exact (List.mem_erase_of_ne ne).mpr (h y (List.mem_cons_of_mem _ hy))
    have hx := h x List.mem_cons_self
    rw [List.length_erase_of_mem hx] at ih
    have : 0 < L.length := List.length_pos_of_mem hx
    simp only [List.length_cons]
    omega
theorem box_few {m : List Int} {l : List (List Int)} (hm : ∀ x ∈ m, 0 ≤ x) (hn : l.Nodup) (h : ∀ w ∈ l, Box m w) : (l.length : Int) ≤ prod m := by
  have := pigeon hn fun w hw => allBox_mem (h w hw)
  have := allBox_len hm
  omega
/-! ### one vector more -/
theorem sp_cong {m : List Int} {vs : List (List Int)} {f g : Vc} (s : SP m vs f) (h : ∀ i, i < m.length → vf m i ∣ g i - f i) (ho : ∀ i, m.length ≤ i → g i = f i) : SP m vs g := by
  have u := spn_all (S := GenS m vs) (fun q hq => sp_own hq) (fun i => (g i - f i) / vf m i) m.length (Nat.le_refl _)
  refine (s.plus u).is fun i => ?_
  by_cases hi : i < m.length
  · rw [if_pos hi, Int.ediv_mul_cancel (h i hi)]; omega
  · rw [if_neg hi, ho i (by omega)]; omega
theorem sp_snoc {m : List Int} {vs : List (List Int)} {a : List Int} {f : Vc} : SP m (vs ++ [a]) f ↔ ∃ c : Int, SP m vs fun i => f i - c * vf a i := by
  constructor
  · intro s
    refine s.ind (P := fun f => ∃ c : Int, SP m vs fun i => f i - c * vf a i) ⟨0, Spn.zero.is fun i => by dsimp only; omega⟩ ?_ ?_ ?_
    · rintro x y ⟨c, hc⟩ ⟨d, hd⟩
      exact ⟨c + d, (hc.plus hd).is fun i => by dsimp only; rw [Int.add_mul]; omega⟩
    · rintro x ⟨c, hc⟩
      exact ⟨-c, hc.neg.is fun i => by dsimp only; rw [Int.neg_mul]; omega⟩
    · rintro g (⟨v, hv, e⟩ | ⟨q, hq, e⟩)
      · rcases List.mem_append.mp hv with h | h
        · exact ⟨0, (sp_vec h).is fun i => by rw [e]; omega⟩
        · have : v = a := by simpa using h
          subst this
          exact ⟨1, Spn.zero.is fun i => by rw [e]; omega⟩
      · exact ⟨0, (sp_own hq).is fun i => by rw [e]; omega⟩
  · rintro ⟨c, hc⟩
    have h1 : SP m (vs ++ [a]) fun i => f i - c * vf a i := hc.into fun g hg => by
      rcases hg with ⟨v, hv, e⟩ | ⟨q, hq, e⟩
      · exact .of (.inl ⟨v, List.mem_append_left _ hv, e⟩)
      · exact .of (.inr ⟨q, hq, e⟩)
    exact (h1.plus ((sp_vec (v := a) (by simp)).mul c)).is fun i => by (try dsimp only); omega
end K32

end

section
set_option maxHeartbeats 2000000
namespace K32
open PySem L2 Kx Mx
/-- all that lies in the box and is spanned -/
structure Fnd (m : List Int) (vs : List (List Int)) (found : List (List Int)) : Prop where
  n : found.Nodup
  i : ∀ w, w ∈ found ↔ Box m w ∧ SP m vs (vf w)
theorem vf_box_out {m w : List Int} (h : Box m w) {i : Nat} (hi : m.length ≤ i) : vf w i = 0 := vf_out (by rw [h.1]; exact hi)
theorem one_c : ∀ c ∈ ([1] : List Int), c = 1 := by simp
theorem one_cc : ∀ c ∈ ([1, 1] : List Int), c = 1 := by simp
theorem mul1 {x c : Int} (h : c = 1) : CMulO x c := small_mul (by subst h; decide)
/-- once a vector, by the rests -/
theorem summed1 {m v : List Int} {b b' : Bool} (hm : Mdl m) (hv : v.length = m.length) : Wp (m__law_summed (m, (b, [v]), (b', [1]))) fun r => Box m r ∧ ∀ i, i < m.length → vf m i ∣ vf r i - vf v i :=
  (summed_spec hm (by simp) (fun w hw => by have : w = v := by simpa using hw
                                            rw [this]; exact hv) (by simp) (fun _ _ c hc _ _ => mul1 (one_c c hc))).imp fun r h => ⟨box_mod hm h, fun i hi => by
    rw [h.2 i hi]
    have e : lin [1] [v] i = vf v i := by simp [lin]
    rw [e]
    have := dvd_sub_mod (vf v i) (vf m i)
    have := Int.dvd_neg.mpr this
    rw [show -(vf v i - vf v i % vf m i) = vf v i % vf m i - vf v i by omega] at this
    exact this⟩
theorem summed2 {m u v : List Int} {b b' : Bool} (hm : Mdl m) (hu : u.length = m.length) (hv : v.length = m.length) : Wp (m__law_summed (m, (b, [u, v]), (b', [1, 1]))) fun r => Box m r ∧ ∀ i, i < m.length → vf m i ∣ vf r i - (vf u i + vf v i) :=
  (summed_spec hm (by simp) (fun w hw => by
      rcases List.mem_cons.mp hw with h | h
      · rw [h]; exact hu
      · have : w = v := by simpa using h
        rw [this]; exact hv) (by simp) (fun _ _ c hc _ _ => mul1 (one_cc c hc))).imp fun r h => ⟨box_mod hm h, fun i hi => by
    rw [h.2 i hi]
    have e : lin [1, 1] [u, v] i = vf u i + vf v i := by simp [lin]
    rw [e]
    have := dvd_sub_mod (vf u i + vf v i) (vf m i)
    have := Int.dvd_neg.mpr this
    rw [show -(vf u i + vf v i - (vf u i + vf v i) % vf m i) = (vf u i + vf v i) % vf m i - (vf u i + vf v i) by omega] at this
    exact this⟩
/-- into the box -/
def boxed (m : List Int) (f : Vc) : List Int := (List.range m.length).map fun i => f i % vf m i
theorem boxed_at {m : List Int} {f : Vc} {i : Nat} (hi : i < m.length) : vf (boxed m f) i = f i % vf m i := by
  refine vf_get ?_
  unfold boxed
  rw [List.getElem?_map, List.getElem?_range hi]; rfl
theorem boxed_box {m : List Int} {f : Vc} (hm : Mdl m) : Box m (boxed m f) := box_mod (f := f) hm ⟨by unfold boxed; simp, fun i hi => boxed_at hi⟩
/-- where the steps are -/
structure Whl (m : List Int) (vs : List (List Int)) (a : List Int) (k : Nat) (here : List Int) (found : List (List Int)) : Prop where
  b : Box m here
  c : ∀ i, i < m.length → vf m i ∣ vf here i - ((k : Int) + 1) * vf a i
  n : found.Nodup
  i : ∀ w, w ∈ found ↔ Box m w ∧ ∃ j : Nat, j ≤ k ∧ SP m vs fun i => vf w i - (j : Int) * vf a i
  f : ∀ j : Nat, 1 ≤ j → j ≤ k → ¬ SP m vs fun i => (j : Int) * vf a i
theorem whl_step {m : List Int} {vs : List (List Int)} {a here next : List Int} {k : Nat} {ahead found new : List (List Int)} (hm : Mdl m) (ha : a.length = m.length) (A : Fnd m vs ahead) (h : Whl m vs a k here found)
    (hn : here ∉ ahead) (hl : new.length = ahead.length) (hw : ∀ (i : Nat) (x y : List Int), ahead[i]? = some x → new[i]? = some y → Box m y ∧ ∀ i, i < m.length → vf m i ∣ vf y i - (vf x i + vf here i))
    (nx : Box m next ∧ ∀ i, i < m.length → vf m i ∣ vf next i - (vf here i + vf a i)) : Whl m vs a (k + 1) next (found ++ new) := by
  have ao : ∀ i, m.length ≤ i → vf a i = 0 := fun i hi => vf_out (by rw [ha]; exact hi)
  have no : ¬ SP m vs fun i => ((k + 1 : Nat) : Int) * vf a i := fun s => hn ((A.i here).mpr ⟨h.b, sp_cong s (fun i hi => by have := h.c i hi; simpa using this) fun i hi => by
    rw [vf_box_out h.b hi, ao i hi]; omega⟩)
  have f' : ∀ j : Nat, 1 ≤ j → j ≤ k + 1 → ¬ SP m vs fun i => (j : Int) * vf a i := fun j h1 h2 => by
    by_cases e : j = k + 1
    · rw [e]; exact no
    · exact h.f j h1 (by omega)
  have mem : ∀ w, w ∈ new ↔ Box m w ∧ SP m vs fun i => vf w i - ((k + 1 : Nat) : Int) * vf a i := fun w => by
    constructor
    · intro hw'
      obtain ⟨i, hi⟩ := List.mem_iff_getElem?.mp hw'
      have hil := (List.getElem?_eq_some_iff.mp hi).1
      have hx : ahead[i]? = some ahead[i] := List.getElem?_eq_getElem (by omega)
      have ⟨B, C⟩ := hw i _ _ hx hi
      have S := ((A.i _).mp (List.mem_of_getElem? hx))
      refine ⟨B, sp_cong S.2 (fun t ht => ?_) fun t ht => ?_⟩
      · have := Int.dvd_add (C t ht) (h.c t ht)
        rw [show vf w t - (vf ahead[i] t + vf here t) + (vf here t - ((k : Int) + 1) * vf a t) = vf w t - ((k + 1 : Nat) : Int) * vf a t - vf ahead[i] t by rw [Int.natCast_add, Int.natCast_one]; omega] at this
        exact this
      · rw [vf_box_out B ht, ao t ht, vf_box_out S.1 ht]; omega
    · rintro ⟨B, S⟩
      have hb : boxed m (fun i => vf w i - vf here i) ∈ ahead := by
        refine (A.i _).mpr ⟨boxed_box hm, sp_cong S (fun t ht => ?_) fun t ht => ?_⟩
        · rw [boxed_at ht]
          have h1 := Int.dvd_neg.mpr (dvd_sub_mod (vf w t - vf here t) (vf m t))
          have h2 := Int.dvd_sub h1 (h.c t ht)
          rw [show -(vf w t - vf here t - (vf w t - vf here t) % vf m t) - (vf here t - ((k : Int) + 1) * vf a t) = (vf w t - vf here t) % vf m t - (vf w t - ((k + 1 : Nat) : Int) * vf a t) by rw [Int.natCast_add, Int.natCast_one]; omega] at h2
          exact h2
        · rw [vf_box_out (boxed_box hm) ht, vf_box_out B ht, ao t ht]; omega
      obtain ⟨i, hi⟩ := List.mem_iff_getElem?.mp hb
      have hil := (List.getElem?_eq_some_iff.mp hi).1
      have hy : new[i]? = some new[i] := List.getElem?_eq_getElem (by omega)
      have ⟨B', C⟩ := hw i _ _ hi hy
      have : w = new[i] := box_eq B B' fun t ht => by
        have c := C t ht
        rw [boxed_at ht] at c
        have h1 := dvd_sub_mod (vf w t - vf here t) (vf m t)
        have h2 := Int.dvd_sub h1 c
        rw [show vf w t - vf here t - (vf w t - vf here t) % vf m t - (vf new[i] t - ((vf w t - vf here t) % vf m t + vf here t)) = vf w t - vf new[i] t by omega] at h2
        exact h2
      rw [this]
      exact List.getElem_mem _
  refine ⟨nx.1, fun i hi => ?_, ?_, fun w => ?_, f'⟩
  · have := Int.dvd_add (nx.2 i hi) (h.c i hi)
    rw [show vf next i - (vf here i + vf a i) + (vf here i - ((k : Int) + 1) * vf a i) = vf next i - (((k + 1 : Nat) : Int) + 1) * vf a i by rw [Int.natCast_add, Int.add_mul (((k : Int)) + _)]; simp only [Int.natCast_one]; omega] at this
    exact this
  · rw [List.nodup_append]
    refine ⟨h.n, ?_, ?_⟩
    · rw [List.nodup_iff_pairwise_ne, List.pairwise_iff_getElem]
      intro i j hi hj hij e
      have ⟨B1, C1⟩ := hw i _ _ (List.getElem?_eq_getElem (by omega)) (List.getElem?_eq_getElem hi)
      have ⟨B2, C2⟩ := hw j _ _ (List.getElem?_eq_getElem (by omega)) (List.getElem?_eq_getElem hj)
      have e2 : ahead[i] = ahead[j] := box_eq ((A.i _).mp (List.getElem_mem _)).1 ((A.i _).mp (List.getElem_mem _)).1 fun t ht => by
        have h1 := Int.dvd_sub (C2 t ht) (C1 t ht)
        rw [e] at h1
        rw [show vf new[j] t - (vf ahead[j] t + vf here t) - (vf new[j] t - (vf ahead[i] t + vf here t)) = vf ahead[i] t - vf ahead[j] t by omega] at h1
        exact h1
      have := (List.nodup_iff_pairwise_ne.mp A.n)
      rw [List.pairwise_iff_getElem] at this
      exact this i j (by omega) (by omega) hij e2
    · intro w hw1 u hw2 e
      subst e
      obtain ⟨_, j, hj, s1⟩ := (h.i w).mp hw1
      have s2 := ((mem w).mp hw2).2
      refine f' (k + 1 - j) (by omega) (by omega) ((s1.minus s2).is fun i => ?_)
      rw [show ((k + 1 - j : Nat) : Int) = ((k + 1 : Nat) : Int) - (j : Int) by omega, Int.sub_mul]
      omega
  · rw [List.mem_append, h.i, mem]
    constructor
    · rintro (⟨B, j, hj, s⟩ | ⟨B, s⟩)
      · exact ⟨B, j, by omega, s⟩
      · exact ⟨B, k + 1, Nat.le_refl _, s⟩
    · rintro ⟨B, j, hj, s⟩
      by_cases e : j = k + 1
      · subst e; exact .inr ⟨B, s⟩
      · exact .inl ⟨B, j, by omega, s⟩
theorem whl_end {m : List Int} {vs : List (List Int)} {a here : List Int} {k : Nat} {ahead found : List (List Int)} (ha : a.length = m.length) (A : Fnd m vs ahead) (h : Whl m vs a k here found)
    (hn : here ∈ ahead) : Fnd m (vs ++ [a]) found := by
  have ao : ∀ i, m.length ≤ i → vf a i = 0 := fun i hi => vf_out (by rw [ha]; exact hi)
  have yes : SP m vs fun i => ((k : Int) + 1) * vf a i := sp_cong ((A.i here).mp hn).2 (fun i hi => by
      have := Int.dvd_neg.mpr (h.c i hi)
      rw [show -(vf here i - ((k : Int) + 1) * vf a i) = ((k : Int) + 1) * vf a i - vf here i by omega] at this
      exact this) fun i hi => by rw [vf_box_out h.b hi, ao i hi]; omega
  refine ⟨h.n, fun w => ?_⟩
  rw [h.i, sp_snoc]
  constructor
  · rintro ⟨B, j, hj, s⟩
    exact ⟨B, j, s⟩
  · rintro ⟨B, c, s⟩
    refine ⟨B, (c % ((k : Int) + 1)).toNat, ?_, ?_⟩
    · have := Int.emod_lt_of_pos c (show 0 < (k : Int) + 1 by omega)
      omega
    · have e0 := Int.emod_nonneg c (show (k : Int) + 1 ≠ 0 by omega)
      have e1 := Int.mul_ediv_add_emod c ((k : Int) + 1)
      refine (s.plus (yes.mul (c / ((k : Int) + 1)))).is fun i => ?_
      rw [show (((c % ((k : Int) + 1)).toNat : Nat) : Int) = c % ((k : Int) + 1) by omega]
      have e2 : c * vf a i = (c / ((k : Int) + 1)) * (((k : Int) + 1) * vf a i) + c % ((k : Int) + 1) * vf a i := by
        rw [← Int.mul_assoc, ← Int.add_mul, Int.mul_comm (c / _), e1]
      omega
theorem span_spec {m : List Int} {vs : List (List Int)} (hm : Mdl m) (hp : prod m ≤ 240) (hv : ∀ v ∈ vs, v.length = m.length) : Wp (m__law_span (m, vs)) (Fnd m vs) := by
  have hml := hm.l2
  have pos : ∀ x ∈ m, 0 ≤ x := fun x hx => by have := hm.b x hx; omega
  unfold m__law_span
  dsimp only
  refine wp_bind (wp_lcO_map (P := fun t => t = List.replicate m.length 0) (fun _ => (0 : Int)) (by omega) (fun _ _ => rfl) (by rw [List.map_const'])) fun t7 e7 => ?_
  subst e7
  refine wp_bind (P := Fnd m vs) ?_ fun r h => wp_some h
  refine wp_forO (fun i (st : List (List Int)) => Fnd m (vs.take i) st) ?_ ?_ (fun s h => by rw [List.take_length] at h; exact h)
  · refine ⟨by simp, fun w => ?_⟩
    have bz : Box m (List.replicate m.length 0) := ⟨by simp, fun i hi => by rw [vf_zero]; have := hm.at hi; omega⟩
    rw [List.mem_singleton]
    constructor
    · intro e
      rw [e]
      exact ⟨bz, Spn.zero.is fun i => (vf_zero _ _).symm⟩
    · rintro ⟨B, s⟩
      refine box_eq B bz fun i hi => ?_
      rw [vf_zero]
      have : ∀ i, i < m.length → vf m i ∣ vf w i := s.ind (P := fun f => ∀ i, i < m.length → vf m i ∣ f i) (fun i _ => Int.dvd_zero _) (fun x y hx hy i hi => Int.dvd_add (hx i hi) (hy i hi)) (fun x hx i hi => Int.dvd_neg.mpr (hx i hi)) (fun g hg i hi => by
        rcases hg with ⟨v, hv, _⟩ | ⟨q, hq, e⟩
        · simp at hv
        · rw [e]
          unfold unit
          split
          · next h => rw [h]; exact Int.dvd_refl _
          · exact Int.dvd_zero _)
      have := this i hi
      simpa using this
  · intro i x ahead hx A
    have hxl := hv x (List.mem_of_getElem? hx)
    have et : vs.take (i + 1) = vs.take i ++ [x] := by rw [List.take_succ, hx]; rfl
    have nf : ∀ {k : Nat} {here : List Int} {found : List (List Int)}, Whl m (vs.take i) x k here found → found.length ≤ 240 := fun h => by
      have := box_few pos h.n fun w hw => ((h.i w).mp hw).1
      omega
    have na : ahead.length ≤ 240 := by
      have := box_few pos A.n fun w hw => ((A.i w).mp hw).1
      omega
    have a1 : 0 < ahead.length := by
      have : List.replicate m.length 0 ∈ ahead := (A.i _).mpr ⟨⟨by simp, fun i hi => by rw [vf_zero]; have := hm.at hi; omega⟩, Spn.zero.is fun i => (vf_zero _ _).symm⟩
      exact List.length_pos_of_mem this
    refine wp_bind (summed1 hm hxl) fun t15 ⟨B, C⟩ => ?_
    refine wp_bind (P := fun st : List Int × List (List Int) => Fnd m (vs.take (i + 1)) st.2) ?_ fun r h => wp_some h
    have W0 : Whl m (vs.take i) x 0 t15 ahead := by
      refine ⟨B, fun i hi => by have := C i hi; simpa using this, A.n, fun w => ?_, fun j h1 h2 => by omega⟩
      rw [A.i]
      constructor
      · rintro ⟨b, s⟩
        exact ⟨b, 0, Nat.le_refl _, s.is fun i => by simp⟩
      · rintro ⟨b, j, hj, s⟩
        have : j = 0 := by omega
        subst this
        exact ⟨b, s.is fun i => by simp⟩
    refine wp_whileO (fun st : List Int × List (List Int) => ∃ k, Whl m (vs.take i) x k st.1 st.2) (fun st => 999 - st.2.length) ?_ 1000 (t15, ahead) ⟨0, W0⟩ (by omega)
    rintro ⟨here, found⟩ ⟨k, W⟩
    dsimp only at *
    refine wp_some ⟨fun e => ?_, fun e => ?_⟩
    · have hn : here ∉ ahead := by simpa [memB] using e
      refine wp_bind (P := fun new : List (List Int) => new.length = ahead.length ∧ ∀ (i : Nat) (x y : List Int), ahead[i]? = some x → new[i]? = some y → Box m y ∧ ∀ i, i < m.length → vf m i ∣ vf y i - (vf x i + vf here i)) (wp_lcO _ (by omega) (fun w hw => wp_bind (summed2 hm ((A.i w).mp hw).1.1 W.b.1) fun t25 h => wp_some h) fun ys h1 h2 => ⟨h1, h2⟩) fun new ⟨n1, n2⟩ => ?_
      have nfd := nf W
      refine wp_bind (wp_catO (P := fun t => t = found ++ new) (by omega) rfl) fun t27 e27 => wp_bind (summed2 hm W.b.1 hxl) fun t28 h28 => wp_some ?_
      subst e27
      have W' := whl_step hm hxl A W hn n1 n2 h28
      have := nf W'
      refine ⟨⟨k + 1, W'⟩, ?_⟩
      dsimp only
      rw [List.length_append] at *
      omega
    · have hn : here ∈ ahead := by simpa [memB] using e
      rw [et]
      exact whl_end hxl A W hn
end K32

end

section
set_option maxHeartbeats 2000000
namespace K32
open PySem L2 Kx Mx
theorem wp_atLast {α : Type} {xs : List α} {P : α → Prop} (h : 0 < xs.length) (k : ∀ x ∈ xs, P x) : Wp (atI xs (-1)) P := by
  unfold atI ixN
  rw [if_neg (by omega), if_pos (by omega)]
  have : ((-1 : Int) + (xs.length : Int)).toNat < xs.length := by omega
  exact ⟨xs[((-1 : Int) + (xs.length : Int)).toNat], by rw [Option.bind_some, List.getElem?_eq_getElem this], k _ (List.getElem_mem _)⟩
theorem cut_mem {α : Type} {xs : List α} {lo hi : Option Int} {x : α} (h : x ∈ cut xs lo hi) : x ∈ xs := by
  unfold cut at h
  exact List.mem_of_mem_drop (List.mem_of_mem_take h)
theorem cut_len {α : Type} {xs : List α} {lo hi : Option Int} : (cut xs lo hi).length ≤ xs.length := by
  unfold cut
  rw [List.length_take, List.length_drop]
  omega
/-- all is small -/
def Bnd (x : List Int) : Prop := ∀ y ∈ x, y.natAbs < 2 ^ 1000
theorem Bnd.at {x : List Int} (h : Bnd x) (i : Nat) : (vf x i).natAbs < 2 ^ 1000 := by
  by_cases hi : i < x.length
  · rw [vf_at hi]; exact h _ (List.getElem_mem _)
  · rw [vf_out (by omega)]; exact Nat.pow_pos (by decide)
theorem bnd_of {x : List Int} (h : ∀ y ∈ x, -(2 ^ 200) < y ∧ y < 2 ^ 200) : Bnd x := fun y hy => by
  have := h y hy
  have e : (2 : Nat) ^ 200 ≤ 2 ^ 1000 := pow2 (by decide)
  refine Nat.lt_of_lt_of_le ?_ e
  omega
theorem small_900 {y : Int} (h : -(10 ^ 60) < y ∧ y < 10 ^ 60) : -(2 ^ 200) < y ∧ y < 2 ^ 200 := by
  have e : (10 : Int) ^ 60 ≤ 2 ^ 200 := by decide
  omega
end K32

end

section
set_option maxHeartbeats 2000000
namespace K32
open PySem L2 Kx Mx
/-! ### _law_same of a thing and itself -/
inductive Pl : Nat → Dat → Prop
  | none (k : Nat) : Pl k .none
  | bool (k : Nat) (b : Bool) : Pl k (.bool b)
  | int (k : Nat) (i : Int) : Pl k (.int i)
  | str (k : Nat) (s : Str) : Pl k (.str s)
  | tup {k : Nat} {xs : List Dat} : xs.length ≤ 16777216 → (∀ x ∈ xs, Pl k x) → Pl (k + 1) (.tuple xs)
theorem eqDO_int (i : Int) : eqDO (.int i) (.int i) = some true := by
  unfold eqDO
  rw [grd_yes (by unfold pur toPy PyData.depth; decide)]
  unfold toPy PyData.eqv
  simp
theorem eqDO_bool (i : Bool) : eqDO (.bool i) (.bool i) = some true := by
  unfold eqDO
  rw [grd_yes (by unfold pur toPy PyData.depth; decide)]
  unfold toPy PyData.eqv
  simp
theorem eqDO_str (i : Str) : eqDO (.str i) (.str i) = some true := by
  unfold eqDO
  rw [grd_yes (by unfold pur toPy PyData.depth; decide)]
  unfold toPy PyData.eqv
  simp
theorem same_refl : ∀ {k : Nat} {d : Dat}, Pl k d → m__law_same (k + 1) (d, d) = some true
  | _, _, .none k => rfl
  | _, _, .bool k b => by
    unfold m__law_same
    simp [isO, isT, isB, isIns, isND, eqDO_bool]
  | _, _, .int k i => by
    unfold m__law_same
    simp [isO, isT, isB, isI, isIns, isND, eqDO_int]
  | _, _, .str k i => by
    unfold m__law_same
    simp [isO, isT, isB, isI, isS, isIns, isND, eqDO_str]
  | _, _, @Pl.tup k xs hl h => by
    have ih : ∀ x ∈ xs, m__law_same (k + 1) (x, x) = some true := fun x hx => same_refl (h x hx)
    have W : Wp (m__law_same (k + 1 + 1) (.tuple xs, .tuple xs)) fun b => b = true := by
      unfold m__law_same
      refine wp_bind (P := fun t => t = true) (wp_some rfl) fun t1 e1 => ?_
      subst e1
      refine wp_cond (fun _ => ?_) fun e => by cases e
      refine wp_bind (P := fun t => t = true) (wp_some rfl) fun t2 e2 => ?_
      subst e2
      refine wp_bind (P := fun t => t = false) ?_ fun t5 e5 => ?_
      · refine wp_cond (fun e => by cases e) fun _ => ?_
        refine wp_bind (P := fun t => t = (xs.length : Int)) (wp_some rfl) fun t3 e3 => wp_bind (P := fun t => t = (xs.length : Int)) (wp_some rfl) fun t4 e4 => wp_some ?_
        subst e3; subst e4; simp
      subst e5
      refine wp_cond (fun e => by cases e) fun _ => ?_
      refine wp_bind (P := fun t => t = (xs.length : Int)) (wp_some rfl) fun t6 e6 => ?_
      subst e6
      refine wp_bind (wp_rngN (P := fun t => t = irange 0 (xs.length : Int)) hl rfl) fun t7 e7 => ?_
      subst e7
      refine wp_bind (P := fun t : List Bool => t.all id = true) (wp_lcO (fun _ y => y = true) (by rw [irange_nat_len]; exact hl) (fun x hx => ?_) ?_) fun t17 h => wp_some h
      · obtain ⟨j, hj, rfl⟩ := irange_mem hx
        refine wp_bind (wp_is (o := atD (.tuple xs) (j : Int)) (x := xs[j]) (P := fun t => t = xs[j]) (atI_nat' hj) rfl) fun t14 e14 => ?_
        refine wp_bind (wp_is (o := atD (.tuple xs) (j : Int)) (x := xs[j]) (P := fun t => t = xs[j]) (atI_nat' hj) rfl) fun t15 e15 => ?_
        subst e14; subst e15
        exact wp_bind (wp_is (P := fun t => t = true) (ih xs[j] (List.getElem_mem hj)) rfl) fun t16 e16 => wp_some e16
      · intro ys hl' h'
        rw [List.all_eq_true]
        intro y hy
        obtain ⟨i, hi⟩ := List.mem_iff_getElem?.mp hy
        have hil := (List.getElem?_eq_some_iff.mp hi).1
        have := h' i _ y (List.getElem?_eq_getElem (by omega)) hi
        rw [this]; rfl
    obtain ⟨r, hr, e⟩ := W
    rw [hr, e]
theorem pl_row {k : Nat} {x : List Int} (h : x.length ≤ 16777216) : Pl (k + 1) (eT Dat.int x) := .tup (by rw [List.length_map]; exact h) fun d hd => by
  obtain ⟨i, _, rfl⟩ := List.mem_map.mp hd
  exact .int k i
theorem pl_rows {k : Nat} {x : List (List Int)} (h : x.length ≤ 16777216) (hr : ∀ r ∈ x, r.length ≤ 16777216) : Pl (k + 2) (eT (eT Dat.int) x) := .tup (by rw [List.length_map]; exact h) fun d hd => by
  obtain ⟨i, hi, rfl⟩ := List.mem_map.mp hd
  exact pl_row (hr i hi)
end K32

end

section
set_option maxHeartbeats 2000000
namespace K32
open PySem L2 Kx Mx
/-! ### the ladder of what is spanned: there is one -/
def rwo (A : List (List Int)) (p : Nat) : List Int := A.getD p []
abbrev ra (A : List (List Int)) (p : Nat) : Vc := vf (rwo A p)
theorem rwo_at {A : List (List Int)} {p : Nat} (h : p < A.length) : rwo A p = A[p] := by unfold rwo; simp [List.getD, h]
structure Lad (m : List Int) (vs : List (List Int)) (A : List (List Int)) : Prop where
  len : A.length = m.length
  row : ∀ p, p < m.length → (rwo A p).length = m.length
  mem : ∀ p, p < m.length → SP m vs (ra A p)
  z : ∀ p, p < m.length → ∀ i, i < p → ra A p i = 0
  pos : ∀ p, p < m.length → 0 < ra A p p
  low : ∀ p, p < m.length → ∀ x, SP m vs x → (∀ i, i < p → x i = 0) → ra A p p ∣ x p
  red : ∀ p, p < m.length → ∀ i, p < i → i < m.length → 0 ≤ ra A p i ∧ ra A p i < ra A i i
theorem small_zero {d a b : Int} (hd : d ∣ a - b) (ha : 0 ≤ a ∧ a < d) (hb : 0 ≤ b ∧ b < d) : a = b := by
  obtain ⟨c, hc⟩ := hd
  have : c = 0 := by
    by_cases h1 : 0 < c
    · have : d * 1 ≤ d * c := Int.mul_le_mul_of_nonneg_left (by omega) (by omega)
      omega
    · by_cases h2 : c < 0
      · have : d * c ≤ d * (-1) := Int.mul_le_mul_of_nonneg_left (by omega) (by omega)
        omega
      · omega
  rw [this] at hc
  omega
/-- the row of a place is the one of the spanned that is so -/
theorem row_uniq {m : List Int} {vs A : List (List Int)} (L : Lad m vs A) {p : Nat} (hp : p < m.length) {x : Vc} (hx : SP m vs x) (z : ∀ i, i < p → x i = 0) (e : x p = ra A p p) (red : ∀ i, p < i → i < m.length → 0 ≤ x i ∧ x i < ra A i i) : ∀ i, i < m.length → x i = ra A p i := by
  intro i
  induction i using Nat.strongRecOn with
  | ind i ih =>
    intro hi
    by_cases h1 : i < p
    · rw [z i h1, L.z p hp i h1]
    · by_cases h2 : i = p
      · subst h2; exact e
      · have s : SP m vs fun j => x j - ra A p j := hx.minus (L.mem p hp)
        have d := L.low i hi _ s fun j hj => by
          have := ih j hj (by omega)
          (try dsimp only)
          omega
        exact small_zero d (red i (by omega) hi) (L.red p hp i (by omega) hi)
theorem lad_diag {m : List Int} {vs A B : List (List Int)} (LA : Lad m vs A) (LB : Lad m vs B) {p : Nat} (hp : p < m.length) : ra A p p = ra B p p := by
  have d1 := LA.low p hp _ (LB.mem p hp) (LB.z p hp)
  have d2 := LB.low p hp _ (LA.mem p hp) (LA.z p hp)
  have p1 := LA.pos p hp
  have p2 := LB.pos p hp
  have l1 := Int.le_of_dvd p2 d1
  have l2 := Int.le_of_dvd p1 d2
  omega
theorem lad_uniq {m : List Int} {vs A B : List (List Int)} (LA : Lad m vs A) (LB : Lad m vs B) : A = B := by
  apply List.ext_getElem (by rw [LA.len, LB.len])
  intro p h1 h2
  have hp : p < m.length := by rw [← LA.len]; exact h1
  rw [← rwo_at h1, ← rwo_at h2]
  refine vf_ext (by rw [LA.row p hp, LB.row p hp]) fun i hi => ?_
  rw [LA.row p hp] at hi
  exact row_uniq LB hp (LA.mem p hp) (LA.z p hp) (lad_diag LA LB hp) (fun j h3 h4 => by
    have := LA.red p hp j h3 h4
    rw [lad_diag LA LB h4] at this
    exact this) i hi
/-- each step divides its modulus -/
theorem lad_dvd {m : List Int} {vs A : List (List Int)} (L : Lad m vs A) {p : Nat} (hp : p < m.length) : ra A p p ∣ vf m p := by
  have := L.low p hp _ (sp_own (vs := vs) hp) fun i hi => by unfold unit; rw [if_neg (by omega)]
  unfold unit at this
  rw [if_pos rfl] at this
  exact this
theorem lad_le {m : List Int} {vs A : List (List Int)} (hm : Mdl m) (L : Lad m vs A) {p : Nat} (hp : p < m.length) : ra A p p ≤ vf m p := Int.le_of_dvd (by have := hm.at hp; omega) (lad_dvd L hp)
/-- what is laid is the ladder -/
theorem laid_lad {m : List Int} {vs : List (List Int)} {R : Rungs} (hv : ∀ v ∈ vs, v.length = m.length) (h : Laid m vs R) : Lad m vs (R.map fun x => x.1) := by
  have er : ∀ p, p < m.length → rwo (R.map fun x => x.1) p = (rg R p).1 := fun p hp => by
    rw [rwo_at (by rw [List.length_map, h.len]; exact hp), List.getElem_map, ← rg_at (by rw [h.len]; exact hp)]
  refine ⟨by rw [List.length_map]; exact h.len, fun p hp => by rw [er p hp]; exact (h.f p hp).r.l, fun p hp => ?_, fun p hp i hi => ?_, fun p hp => ?_, fun p hp x sx zx => ?_, fun p hp i h1 h2 => ?_⟩
  · rw [show ra (R.map fun x => x.1) p = rr R p by unfold ra; rw [er p hp]]
    exact sp_lin (cs := (rg R p).2) hv (fun i hi => vf_out (by rw [(h.f p hp).r.l]; exact hi)) (h.f p hp).r.rel
  · show vf (rwo _ p) i = 0
    rw [er p hp]; exact (h.f p hp).z i hi
  · show 0 < vf (rwo _ p) p
    rw [er p hp]; exact (h.f p hp).pos.1
  · show vf (rwo _ p) p ∣ x p
    rw [er p hp]
    have s := down_tail h.tri (m := m.length) (p := 0) (k := p) (by omega) (Nat.zero_le _) (down_of h.tri (sum_spn h sx)) zx
    refine s.ind (P := fun x => rr R p p ∣ x p) (Int.dvd_zero _) (fun x y hx hy => Int.dvd_add hx hy) (fun x hx => Int.dvd_neg.mpr hx) fun g ⟨q, h1, h2, h3⟩ => ?_
    rw [h3 p]
    by_cases e : q = p
    · rw [e]; exact Int.dvd_refl _
    · rw [h.tri.ahead q h2 p (by omega)]; exact Int.dvd_zero _
  · show 0 ≤ vf (rwo _ p) i ∧ vf (rwo _ p) i < vf (rwo _ i) i
    rw [er p hp, er i h2]
    exact (h.f p hp).red i h1 h2
end K32

end

section
set_option maxHeartbeats 2000000
namespace K32
open PySem L2 Kx Mx
theorem mapF_is {α β : Type} {f : α → Option (Option β)} (g : α → Option β) : ∀ {xs : List α}, (∀ x ∈ xs, f x = some (g x)) → mapF f xs = some (xs.filterMap g)
  | [], _ => rfl
  | x :: xs, h => by
    unfold mapF
    rw [h x List.mem_cons_self]
    show (mapF f xs).bind _ = _
    rw [mapF_is g fun y hy => h y (List.mem_cons_of_mem _ hy)]
    show some ((g x).toList ++ xs.filterMap g) = _
    rw [List.filterMap_cons]
    cases g x <;> rfl
theorem wp_lcF {α β : Type} {f : α → Option (Option β)} {xs : List α} {P : List β → Prop} (g : α → Option β) (hl : xs.length ≤ 16777216) (h : ∀ x ∈ xs, f x = some (g x)) (k : P (xs.filterMap g)) : Wp (lcF f xs) P :=
  wp_bind (wp_grd hl) fun _ _ => ⟨_, mapF_is g h, k⟩
theorem sum_nonneg : ∀ {l : List Int}, (∀ x ∈ l, 0 ≤ x) → 0 ≤ l.sum
  | [], _ => by simp
  | x :: l, h => by
    rw [List.sum_cons]
    have := h x List.mem_cons_self
    have := sum_nonneg (l := l) fun y hy => h y (List.mem_cons_of_mem _ hy)
    omega
theorem sum_zero : ∀ {l : List Int}, (∀ x ∈ l, 0 ≤ x) → (l.sum = 0 ↔ ∀ x ∈ l, x = 0)
  | [], _ => by simp
  | x :: l, h => by
    rw [List.sum_cons]
    have h1 := h x List.mem_cons_self
    have h2 := sum_nonneg (l := l) fun y hy => h y (List.mem_cons_of_mem _ hy)
    have ih := sum_zero (l := l) fun y hy => h y (List.mem_cons_of_mem _ hy)
    constructor
    · intro e y hy
      rcases List.mem_cons.mp hy with h | h
      · omega
      · exact ih.mp (by omega) y h
    · intro e
      have := e x List.mem_cons_self
      have := ih.mpr fun y hy => e y (List.mem_cons_of_mem _ hy)
      omega
/-- noughts ahead of p -/
theorem ahead_iff {m w : List Int} (hb : Box m w) {p : Nat} (hp : p ≤ m.length) : (w.take p).sum = 0 ↔ ∀ i, i < p → vf w i = 0 := by
  rw [sum_zero fun x hx => by
    obtain ⟨i, hi⟩ := List.mem_iff_getElem?.mp hx
    have hil := (List.getElem?_eq_some_iff.mp hi).1
    rw [List.length_take] at hil
    rw [List.getElem?_take_of_lt (by omega)] at hi
    rw [← vf_get hi]
    exact (hb.2 i (by omega)).1]
  constructor
  · intro h i hi
    have hl : i < w.length := by rw [hb.1]; omega
    rw [vf_at hl]
    refine h _ (List.mem_iff_getElem?.mpr ⟨i, ?_⟩)
    rw [List.getElem?_take_of_lt hi]
    exact List.getElem?_eq_getElem hl
  · intro h x hx
    obtain ⟨i, hi⟩ := List.mem_iff_getElem?.mp hx
    have hil := (List.getElem?_eq_some_iff.mp hi).1
    rw [List.length_take] at hil
    rw [List.getElem?_take_of_lt (by omega)] at hi
    rw [← vf_get hi]
    exact h i (by omega)
end K32

end

section
set_option maxHeartbeats 2000000
namespace K32
open PySem L2 Kx Mx
/-! ### products -/
def pq (f : Nat → Int) : Nat → Nat → Int
  | _, 0 => 1
  | p, k + 1 => f p * pq f (p + 1) k
theorem pq_shift {f : Nat → Int} : ∀ (p k : Nat), pq (fun i => f (i + 1)) p k = pq f (p + 1) k
  | _, 0 => rfl
  | p, k + 1 => by unfold pq; rw [pq_shift (p + 1) k]
theorem pq_congr {f g : Nat → Int} : ∀ (k p : Nat), (∀ i, p ≤ i → i < p + k → f i = g i) → pq f p k = pq g p k
  | 0, _, _ => rfl
  | k + 1, p, h => by
    unfold pq
    rw [h p (Nat.le_refl _) (by omega), pq_congr k (p + 1) fun i h1 h2 => h i (by omega) (by omega)]
theorem pq_mul {f g : Nat → Int} : ∀ (k p : Nat), pq (fun i => f i * g i) p k = pq f p k * pq g p k
  | 0, _ => rfl
  | k + 1, p => by
    unfold pq
    rw [pq_mul k (p + 1), Int.mul_assoc, Int.mul_assoc, Int.mul_left_comm (g p)]
theorem pq_pos {f : Nat → Int} : ∀ (k p : Nat), (∀ i, p ≤ i → i < p + k → 0 < f i) → 0 < pq f p k
  | 0, _, _ => by unfold pq; decide
  | k + 1, p, h => by
    unfold pq
    exact Int.mul_pos (h p (Nat.le_refl _) (by omega)) (pq_pos k (p + 1) fun i h1 h2 => h i (by omega) (by omega))
theorem prod_pq : ∀ (xs : List Int), prod xs = pq (vf xs) 0 xs.length
  | [] => rfl
  | x :: xs => by
    show x * prod xs = vf (x :: xs) 0 * pq (vf (x :: xs)) 1 xs.length
    rw [prod_pq xs, ← pq_shift 0 xs.length]
    rfl
theorem pq_le {f : Nat → Int} {c : Int} (hc : 1 ≤ c) : ∀ (k p : Nat), (∀ i, p ≤ i → i < p + k → 0 ≤ f i ∧ f i ≤ c) → 0 ≤ pq f p k ∧ pq f p k ≤ c ^ k
  | 0, _, _ => by unfold pq; exact ⟨by decide, by simp⟩
  | k + 1, p, h => by
    have ⟨i1, i2⟩ := pq_le hc k (p + 1) fun i h1 h2 => h i (by omega) (by omega)
    have ⟨h1, h2⟩ := h p (Nat.le_refl _) (by omega)
    unfold pq
    refine ⟨Int.mul_nonneg h1 i1, ?_⟩
    rw [Int.pow_succ, Int.mul_comm (c ^ k)]
    exact Int.mul_le_mul h2 i2 i1 (by omega)
theorem product_all {f : Int → Int → Option Int} (hf : ∀ s x, (0 ≤ x ∧ x ≤ 99) → f s x = some (s * x)) {xs : List Int} (h : ∀ x ∈ xs, 0 ≤ x ∧ x ≤ 99) : forO f xs 1 = some (prod xs) := by
  have W : Wp (forO f xs 1) fun r => r = prod xs := wp_forO (fun i s => s = prod (xs.take i)) rfl (fun i x s hx hs => by
    rw [hf s x (h x (List.mem_of_getElem? hx))]
    refine wp_some ?_
    rw [hs, ← prod_app, List.take_succ, hx]
    rfl) (fun s hs => by rw [List.take_length] at hs; exact hs)
  obtain ⟨r, hr, e⟩ := W
  rw [hr, e]
theorem product_step (s x : Int) (h : 0 ≤ x ∧ x ≤ 99) : ((mulO s x).bind fun t8 => some t8) = some (s * x) := by
  obtain ⟨r, hr, e⟩ := wp_mulO (i := s) (j := x) (P := fun r => r = s * x) (small_mul (by omega)) rfl
  rw [hr, e]; rfl
theorem product_spec {xs : List Int} (h : ∀ x ∈ xs, 0 ≤ x ∧ x ≤ 99) : m_product xs = some (prod xs) := by
  unfold m_product
  rw [product_all product_step h]; rfl
theorem product2_spec {xs : List Int} (h : ∀ x ∈ xs, 0 ≤ x ∧ x ≤ 99) : m_product_2 xs = some (prod xs) := by
  unfold m_product_2
  rw [product_all product_step h]; rfl
theorem steps_spec {m : List Int} {vs : List (List Int)} {R : Rungs} (hm : Mdl m) (h : Laid m vs R) : Wp (m_steps_of R) fun r => r.length = m.length ∧ ∀ i, i < m.length → vf r i = rr R i i := by
  have hl := h.len
  have hml := hm.l2
  unfold m_steps_of
  refine wp_bind (P := fun r : List Int => r.length = m.length ∧ ∀ i, i < m.length → vf r i = rr R i i) (wp_lcO (fun (x : Int × (List Int × List Int)) y => ∀ i : Nat, x = ((i : Int), rg R i) → y = rr R i i) (by rw [enum_len]; omega) (fun x hx => ?_) ?_) fun r hr => wp_some hr
  · obtain ⟨i, hi⟩ := List.mem_iff_getElem?.mp hx
    obtain ⟨g, hg, rfl⟩ := enum_at hi
    have hil := (List.getElem?_eq_some_iff.mp hg).1
    have eg : g = rg R i := by
      rw [rg_at hil]
      exact (Option.some.inj ((List.getElem?_eq_getElem hil).symm.trans hg)).symm
    subst eg
    have lr := (h.f i (by omega)).r.l
    refine wp_bind (wp_atI (P := fun t => t = rr R i i) (by show i < (rg R i).1.length; omega) (vf_at _).symm) fun t11 e11 => wp_some fun j hj => ?_
    have : j = i := by have := congrArg Prod.fst hj; simp at this; omega
    subst this
    exact e11
  · intro ys hy hh
    rw [enum_len] at hy
    refine ⟨by omega, fun i hi => ?_⟩
    have a : (enum R)[i]? = some ((i : Int), rg R i) := by
      unfold enum
      rw [List.getElem?_mapIdx, List.getElem?_eq_getElem (by omega), rg_at (by omega)]; rfl
    have b : ys[i]? = some ys[i] := List.getElem?_eq_getElem (by omega)
    rw [vf_get b]
    exact hh i _ _ a b i rfl
/-- how often each step goes into its modulus -/
def qt (m : List Int) (A : List (List Int)) : Nat → Int := fun i => vf m i / ra A i i
theorem qt_mul {m : List Int} {vs A : List (List Int)} (L : Lad m vs A) {i : Nat} (hi : i < m.length) : vf m i = ra A i i * qt m A i := (Int.mul_ediv_cancel' (lad_dvd L hi)).symm
theorem qt_pos {m : List Int} {vs A : List (List Int)} (hm : Mdl m) (L : Lad m vs A) {i : Nat} (hi : i < m.length) : 0 < qt m A i := by
  have h1 := qt_mul L hi
  have h2 := hm.at hi
  have h3 := L.pos i hi
  by_cases h : 0 < qt m A i
  · exact h
  · have : ra A i i * qt m A i ≤ 0 := Int.mul_nonpos_of_nonneg_of_nonpos (by omega) (by omega)
    omega
theorem spanned_spec {m : List Int} {vs A : List (List Int)} (hm : Mdl m) (hv : Vcs m vs) (L : Lad m vs A) : m_spanned (m, vs) = some (pq (qt m A) 0 m.length) := by
  have W : Wp (m_spanned (m, vs)) fun r => r = pq (qt m A) 0 m.length := by
    have hml := hm.l2
    unfold m_spanned
    refine wp_bind (wp_is (x := ()) (P := fun _ => True) (check_vectors_spec hm hv) trivial) fun _ _ => ?_
    refine wp_bind (wp_is (P := fun t => t = prod m) (product_spec fun x hx => by have := hm.b x hx; omega) rfl) fun t2 e2 => ?_
    refine wp_bind (laid_spec hm hv) fun R hR => ?_
    have eA : (R.map fun x => x.1) = A := lad_uniq (laid_lad hv.e hR) L
    have dg : ∀ i, i < m.length → rr R i i = ra A i i := fun i hi => by
      rw [← eA]
      show vf (rg R i).1 i = vf (rwo (R.map fun x => x.1) i) i
      rw [rwo_at (by rw [List.length_map, hR.len]; exact hi), List.getElem_map, ← rg_at (by rw [hR.len]; exact hi)]
    refine wp_bind (steps_spec hm hR) fun t4 ⟨l4, h4⟩ => ?_
    have l4 : t4.length = m.length := l4
    have h4 : ∀ i, i < m.length → vf t4 i = rr R i i := h4
    have b4 : ∀ x ∈ t4, 0 ≤ x ∧ x ≤ 99 := fun x hx => by
      obtain ⟨i, hi⟩ := List.mem_iff_getElem?.mp hx
      have hil := (List.getElem?_eq_some_iff.mp hi).1
      rw [← vf_get hi, h4 i (by omega)]
      have : 0 < rr R i i ∧ rr R i i ≤ 99 := (hR.f i (by show i < m.length; omega)).pos
      omega
    refine wp_bind (wp_is (P := fun t => t = prod t4) (product2_spec b4) rfl) fun t5 e5 => ?_
    have p5 : prod t4 = pq (fun i => ra A i i) 0 m.length := by
      rw [prod_pq, l4]
      exact pq_congr _ _ fun i _ hi => by rw [h4 i (by omega), dg i (by omega)]
    have p2 : prod m = pq (fun i => ra A i i) 0 m.length * pq (qt m A) 0 m.length := by
      rw [prod_pq, ← pq_mul]
      exact pq_congr _ _ fun i _ hi => qt_mul L (by omega)
    have pos5 : 0 < pq (fun i => ra A i i) 0 m.length := pq_pos _ _ fun i _ hi => L.pos i (by omega)
    have le5 := (pq_le (f := fun i => ra A i i) (c := 99) (by decide) m.length 0 fun i _ hi => by
      have := lad_le hm L (p := i) (by omega)
      have := hm.at (i := i) (by omega)
      have := L.pos i (by omega)
      omega).2
    have : (99 : Int) ^ m.length ≤ 99 ^ 12 := by
      have : ∀ k : Nat, k ≤ 12 → (99 : Int) ^ k ≤ 99 ^ 12 := by decide
      exact this _ hml
    have big : (99 : Int) ^ 12 < 2 ^ 200 := by decide
    refine wp_bind (wp_fdivW (P := fun t => t = pq (qt m A) 0 m.length) (by rw [e5, p5]; exact cdivw (n := 0) pos5 (Int.lt_of_le_of_lt (Int.le_trans le5 this) big)) ?_) fun t6 e6 => wp_some e6
    rw [e2, e5, p5, p2, fd pos5]
    exact Int.mul_ediv_cancel_left _ (by omega)
  obtain ⟨r, hr, e⟩ := W
  rw [hr, e]
/-! ### what is least -/
structure Lst (m : List Int) (vs A : List (List Int)) (x r : List Int) : Prop where
  l : r.length = m.length
  red : ∀ i, i < m.length → 0 ≤ vf r i ∧ vf r i < ra A i i
  sp : SP m vs fun i => vf x i - vf r i
theorem least_spec {m : List Int} {vs A : List (List Int)} {x : List Int} (hm : Mdl m) (hv : Vcs m vs) (L : Lad m vs A) (hx : x.length = m.length) (bx : Bnd x) : Wp (m_least (m, vs, x)) (Lst m vs A x) := by
  unfold m_least
  refine wp_bind (wp_is (x := ()) (P := fun _ => True) (check_vector_spec hm hv hx) trivial) fun _ _ => ?_
  refine wp_bind (laid_spec hm hv) fun R hR => ?_
  have LR := laid_lad hv.e hR
  have eA : (R.map fun x => x.1) = A := lad_uniq LR L
  have er : ∀ p, p < m.length → rwo A p = (rg R p).1 := fun p hp => by
    rw [← eA, rwo_at (by rw [List.length_map, hR.len]; exact hp), List.getElem_map, ← rg_at (by rw [hR.len]; exact hp)]
  refine wp_bind (gone_down_spec (X := 1000) hm hv.l hR hx (by omega) bx.at) fun st d => wp_some ⟨d.l, fun i hi => ?_, ?_⟩
  · have := d.red i hi hi
    show _ ∧ _ < vf (rwo A i) i
    rw [er i hi]
    exact this
  · refine d.sp.into fun g ⟨p, _, hp, e⟩ => ?_
    refine (L.mem p hp).is fun i => ?_
    rw [e i]
    show vf (rwo A p) i = vf (rg R p).1 i
    rw [er p hp]
theorem lst_uniq {m : List Int} {vs A : List (List Int)} {x r s : List Int} (L : Lad m vs A) (hr : Lst m vs A x r) (hs : Lst m vs A x s) : r = s := by
  refine vf_ext (by rw [hr.l, hs.l]) fun i hi => ?_
  rw [hr.l] at hi
  have sp : SP m vs fun i => vf r i - vf s i := (hs.sp.minus hr.sp).is fun i => by (try dsimp only); omega
  induction i using Nat.strongRecOn with
  | ind i ih =>
    have d := L.low i hi _ sp fun j hj => by
      have := ih j hj (by omega)
      (try dsimp only)
      omega
    exact small_zero d (hr.red i hi) (hs.red i hi)
theorem lst_box {m : List Int} {vs A : List (List Int)} {x r : List Int} (hm : Mdl m) (L : Lad m vs A) (h : Lst m vs A x r) : Box m r := ⟨h.l, fun i hi => by
  have := h.red i hi
  have := lad_le hm L hi
  omega⟩
/-- none of the same kind lies below it -/
theorem lst_low {m : List Int} {vs A : List (List Int)} {x r y : List Int} (L : Lad m vs A) (h : Lst m vs A x r) (hy : Box m y) (sy : SP m vs fun i => vf y i - vf x i) : HT.lexLt y r = false := by
  have sp : SP m vs fun i => vf y i - vf r i := (sy.plus h.sp).is fun i => by (try dsimp only); omega
  have key : ∀ (k p : Nat), p + k = m.length → (∀ i, i < p → vf y i = vf r i) → HT.lexLt (y.drop p) (r.drop p) = false := by
    intro k
    induction k with
    | zero =>
      intro p hp _
      rw [List.drop_of_length_le (by rw [hy.1]; omega), List.drop_of_length_le (by rw [h.l]; omega)]
      rfl
    | succ k ih =>
      intro p hp hz
      have hpl : p < m.length := by omega
      rw [List.drop_eq_getElem_cons (show p < y.length by rw [hy.1]; exact hpl), List.drop_eq_getElem_cons (show p < r.length by rw [h.l]; exact hpl), HT.lexLt_cons, ← vf_at, ← vf_at]
      by_cases e : vf y p = vf r p
      · rw [if_pos e]
        exact ih (p + 1) (by omega) fun i hi => by
          by_cases ei : i = p
          · rw [ei]; exact e
          · exact hz i (by omega)
      · rw [if_neg e]
        have d := L.low p hpl _ sp fun i hi => by
          have := hz i hi
          (try dsimp only)
          omega
        have b1 := hy.2 p hpl
        have b2 := h.red p hpl
        refine decide_eq_false fun hlt => e ?_
        exact small_zero d (by omega) b2
  have := key m.length 0 (by omega) (fun i hi => by omega)
  simpa using this
end K32

end

section
set_option maxHeartbeats 2000000
namespace K32
open PySem L2 Kx Mx
/-! ### how many are spanned -/
theorem mod_cong (a b : Int) : b ∣ a % b - a := by
  have := Int.dvd_neg.mpr (dvd_sub_mod a b)
  rw [show -(a - a % b) = a % b - a by omega] at this
  exact this
theorem count_lad {m : List Int} {vs A : List (List Int)} (hm : Mdl m) (L : Lad m vs A) : ∀ (k p : Nat), p + k = m.length → ∃ E : List (List Int), E.Nodup ∧ (∀ w, w ∈ E ↔ Box m w ∧ SP m vs (vf w) ∧ ∀ i, i < p → vf w i = 0) ∧ (E.length : Int) = pq (qt m A) p k
  | 0, p, hp => by
    have bz : Box m (List.replicate m.length 0) := ⟨by simp, fun i hi => by rw [vf_zero]; have := hm.at hi; omega⟩
    refine ⟨[List.replicate m.length 0], by simp, fun w => ?_, rfl⟩
    rw [List.mem_singleton]
    constructor
    · intro e
      rw [e]
      exact ⟨bz, Spn.zero.is fun i => (vf_zero _ _).symm, fun i _ => vf_zero _ _⟩
    · rintro ⟨B, _, z⟩
      exact vf_ext (by rw [B.1]; simp) fun i hi => by rw [z i (by rw [B.1] at hi; omega), vf_zero]
  | k + 1, p, hp => by
    obtain ⟨E', n', i', l'⟩ := count_lad hm L k (p + 1) (by omega)
    have hpl : p < m.length := by omega
    have sp := L.pos p hpl
    have mq := qt_mul L hpl
    have qp := qt_pos hm L hpl
    have M := hm.at hpl
    have Ao : ∀ i, m.length ≤ i → ra A p i = 0 := fun i hi => vf_out (by rw [L.row p hpl]; exact hi)
    let g : Int → List Int → List Int := fun c w => boxed m fun i => vf w i + c * ra A p i
    have gb : ∀ c w, Box m (g c w) := fun c w => boxed_box hm
    have gc : ∀ c w i, i < m.length → vf m i ∣ vf (g c w) i - (vf w i + c * ra A p i) := fun c w i hi => by
      show vf m i ∣ vf (boxed m _) i - _
      rw [boxed_at hi]
      exact mod_cong _ _
    -- at the place itself
    have gp : ∀ c w, 0 ≤ c → c < qt m A p → vf w p = 0 → vf (g c w) p = c * ra A p p := fun c w h1 h2 h3 => by
      show vf (boxed m _) p = _
      rw [boxed_at hpl, h3, Int.zero_add]
      refine Int.emod_eq_of_lt (Int.mul_nonneg h1 (by omega)) ?_
      rw [mq, Int.mul_comm]
      exact Int.mul_lt_mul_of_pos_left h2 sp
    refine ⟨(List.range (qt m A p).toNat).flatMap fun c : Nat => E'.map (g (c : Int)), ?_, fun w => ?_, ?_⟩
    · rw [List.nodup_iff_pairwise_ne, List.pairwise_flatMap]
      refine ⟨fun c hc => ?_, ?_⟩
      · rw [List.pairwise_map]
        refine List.Pairwise.imp_of_mem ?_ (List.nodup_iff_pairwise_ne.mp n')
        intro u v hu hv ne e
        refine ne (box_eq ((i' u).mp hu).1 ((i' v).mp hv).1 fun i hi => ?_)
        have h1 := gc c u i hi
        have h2 := gc c v i hi
        rw [e] at h1
        have := Int.dvd_sub h2 h1
        rw [show vf (g ↑c v) i - (vf v i + ↑c * ra A p i) - (vf (g ↑c v) i - (vf u i + ↑c * ra A p i)) = vf u i - vf v i by omega] at this
        exact this
      · refine List.Pairwise.imp_of_mem ?_ (List.nodup_iff_pairwise_ne.mp List.nodup_range)
        intro c d hc hd ne x hx y hy e
        obtain ⟨u, hu, rfl⟩ := List.mem_map.mp hx
        obtain ⟨v, hv, rfl⟩ := List.mem_map.mp hy
        have hc' := List.mem_range.mp hc
        have hd' := List.mem_range.mp hd
        have e1 := gp c u (by omega) (by omega) (((i' u).mp hu).2.2 p (by omega))
        have e2 := gp d v (by omega) (by omega) (((i' v).mp hv).2.2 p (by omega))
        rw [e] at e1
        have e3 : (c : Int) * ra A p p = d * ra A p p := e1.symm.trans e2
        have := Int.eq_of_mul_eq_mul_right (show ra A p p ≠ 0 by omega) e3
        omega
    · rw [List.mem_flatMap]
      constructor
      · rintro ⟨c, hc, hw⟩
        obtain ⟨u, hu, rfl⟩ := List.mem_map.mp hw
        have hc' := List.mem_range.mp hc
        obtain ⟨ub, us, uz⟩ := (i' u).mp hu
        refine ⟨gb _ _, sp_cong (us.plus ((L.mem p hpl).mul c)) (gc c u) fun i hi => ?_, fun i hi => ?_⟩
        · rw [vf_box_out (gb _ _) hi, vf_box_out ub hi, Ao i hi]; omega
        · show vf (boxed m _) i = 0
          rw [boxed_at (by omega), uz i (by omega), L.z p hpl i hi]
          simp
      · rintro ⟨B, S, z⟩
        obtain ⟨c, hc⟩ := L.low p hpl _ S z
        have b := B.2 p hpl
        have c0 : 0 ≤ c := by
          by_cases h : 0 ≤ c
          · exact h
          · have : ra A p p * c < 0 := Int.mul_neg_of_pos_of_neg sp (by omega)
            omega
        have c1 : c < qt m A p := by
          by_cases h : c < qt m A p
          · exact h
          · have : ra A p p * qt m A p ≤ ra A p p * c := Int.mul_le_mul_of_nonneg_left (by omega) (by omega)
            omega
        refine ⟨c.toNat, List.mem_range.mpr (by omega), List.mem_map.mpr ⟨boxed m fun i => vf w i - c * ra A p i, (i' _).mpr ⟨boxed_box hm, ?_, fun i hi => ?_⟩, ?_⟩⟩
        · refine sp_cong (S.minus ((L.mem p hpl).mul c)) (fun i hi => by rw [boxed_at hi]; exact mod_cong _ _) fun i hi => ?_
          rw [vf_box_out (boxed_box hm) hi, vf_box_out B hi, Ao i hi]; omega
        · rw [boxed_at (by omega)]
          by_cases e : i = p
          · subst e
            rw [hc, Int.mul_comm c, Int.sub_self]
            simp
          · rw [z i (by omega), L.z p hpl i (by omega)]
            simp
        · rw [show ((c.toNat : Nat) : Int) = c by omega]
          refine box_eq (gb _ _) B fun i hi => ?_
          have h1 := gc c (boxed m fun i => vf w i - c * ra A p i) i hi
          have h2 : vf m i ∣ vf (boxed m fun i => vf w i - c * ra A p i) i - (vf w i - c * ra A p i) := by rw [boxed_at hi]; exact mod_cong _ _
          have := Int.dvd_add h1 h2
          generalize vf (g c (boxed m fun i => vf w i - c * ra A p i)) i = X at *
          generalize vf (boxed m fun i => vf w i - c * ra A p i) i = Y at *
          rw [show X - (Y + c * ra A p i) + (Y - (vf w i - c * ra A p i)) = X - vf w i by omega] at this
          exact this
    · rw [List.length_flatMap]
      simp only [List.length_map, List.map_const', List.length_range, List.sum_replicate_nat]
      rw [Int.natCast_mul, l', Int.toNat_of_nonneg (by omega)]
      rfl
theorem same_len {α : Type} [DecidableEq α] {a b : List α} (ha : a.Nodup) (hb : b.Nodup) (h : ∀ x, x ∈ a ↔ x ∈ b) : a.length = b.length :=
  ((List.perm_ext_iff_of_nodup ha hb).mpr h).length_eq
theorem span_count {m : List Int} {vs A found : List (List Int)} (hm : Mdl m) (L : Lad m vs A) (F : Fnd m vs found) : (found.length : Int) = pq (qt m A) 0 m.length := by
  obtain ⟨E, n, i, l⟩ := count_lad hm L m.length 0 (by omega)
  rw [← l, same_len F.n n fun w => ?_]
  rw [F.i, i]
  exact ⟨fun h => ⟨h.1, h.2, fun i hi => by omega⟩, fun h => ⟨h.1, h.2.1⟩⟩
end K32

end

section
set_option maxHeartbeats 2000000
namespace K32
open PySem L2 Kx Mx
/-- the law's own greatest divisor, a sum of both -/
theorem lshared_spec {a b : Int} (ha : 0 ≤ a) (hb : 0 < b) : Wp (m__law_shared (a, b)) fun g => 0 < g ∧ g ∣ a ∧ g ∣ b ∧ ∃ u w : Int, g = u * a + w * b := by
  unfold m__law_shared
  refine wp_bind (P := fun st : Int × Int => 0 < st.1 ∧ st.2 = 0 ∧ (∀ d, (d ∣ st.1 ∧ d ∣ st.2) ↔ (d ∣ a ∧ d ∣ b)) ∧ ∃ u w : Int, st.1 = u * a + w * b) ?_ fun st ⟨h1, h2, h3, h4⟩ => wp_some ?_
  · refine wp_whileO (fun st : Int × Int => (0 ≤ st.1 ∧ 0 ≤ st.2 ∧ (0 < st.1 ∨ 0 < st.2)) ∧ (∀ d, (d ∣ st.1 ∧ d ∣ st.2) ↔ (d ∣ a ∧ d ∣ b)) ∧ (∃ u w : Int, st.1 = u * a + w * b) ∧ ∃ u w : Int, st.2 = u * a + w * b) (fun st => st.2.toNat) ?_ _ _ ⟨⟨ha, by show 0 ≤ b; omega, .inr hb⟩, fun d => Iff.rfl, ⟨1, 0, by omega⟩, ⟨0, 1, by omega⟩⟩ (by show b.toNat < b.toNat + 1; omega)
    rintro ⟨x, y⟩ ⟨⟨h1, h2, h0⟩, h3, ⟨u1, w1, e1⟩, ⟨u2, w2, e2⟩⟩
    dsimp only at *
    refine wp_some ⟨fun e => ?_, fun e => ?_⟩
    · have hy : 0 < y := of_decide_eq_true e
      refine wp_bind (wp_modO (P := fun t => t = x.fmod y) (by show y ≠ 0; omega) rfl) fun t ht => wp_some ?_
      rw [fm hy] at ht
      subst ht
      have l1 := Int.emod_nonneg x (show y ≠ 0 by omega)
      have l2 := Int.emod_lt_of_pos x hy
      refine ⟨⟨⟨h2, l1, .inl hy⟩, fun d => ?_, ⟨u2, w2, e2⟩, ⟨u1 - x / y * u2, w1 - x / y * w2, ?_⟩⟩, ?_⟩
      · rw [← h3 d]
        exact ⟨fun h => ⟨dvd_of_emod h.2 h.1, h.1⟩, fun h => ⟨h.2, dvd_emod h.1 h.2⟩⟩
      · show x % y = _
        have e3 : x % y = x - x / y * y := by rw [Int.emod_def, Int.mul_comm]
        rw [e3]
        generalize x / y = q
        rw [e1, e2, Int.mul_add, Int.sub_mul, Int.sub_mul, ← Int.mul_assoc, ← Int.mul_assoc]
        omega
      · show (x % y).toNat < y.toNat
        omega
    · have hy : ¬ 0 < y := of_decide_eq_false e
      exact ⟨by show 0 < x; omega, by show y = 0; omega, h3, u1, w1, e1⟩
  · have q := (h3 st.1).mp ⟨Int.dvd_refl _, by rw [h2]; exact Int.dvd_zero _⟩
    exact ⟨h1, q.1, q.2, h4⟩
/-- steps of vectors with one number each -/
structure Sgl (m : List Int) (vs : List (List Int)) (s : List Int) : Prop where
  l : s.length = m.length
  e : ∀ v ∈ vs, v.length = m.length
  pos : ∀ k, k < m.length → 0 < vf s k
  dm : ∀ k, k < m.length → vf s k ∣ vf m k
  dv : ∀ k, k < m.length → ∀ v ∈ vs, vf s k ∣ vf v k
  sp : ∀ k, k < m.length → SP m vs (unit k (vf s k))
theorem sp_more {m : List Int} {vs : List (List Int)} {a : List Int} {f : Vc} (h : SP m vs f) : SP m (vs ++ [a]) f := sp_snoc.mpr ⟨0, h.is fun i => by (try dsimp only); omega⟩
theorem sgl_first {m : List Int} (hm : Mdl m) : Sgl m [] m :=
  ⟨rfl, fun v hv => by simp at hv, fun k hk => by have := hm.at hk; omega, fun k _ => Int.dvd_refl _, fun k _ v hv => by simp at hv, fun k hk => sp_own hk⟩
theorem vf_set {s : List Int} {j : Nat} {x : Int} (h : j < s.length) (k : Nat) : vf (s.set j x) k = if k = j then x else vf s k := by
  unfold vf
  rw [List.getD, List.getD]
  by_cases e : k = j
  · subst e; rw [if_pos rfl, List.getElem?_set_self h]; rfl
  · rw [if_neg e, List.getElem?_set_ne (Ne.symm e)]
theorem sgl_step {m : List Int} {vs : List (List Int)} {s v : List Int} {j : Nat} {fig g : Int} (h : Sgl m vs s) (hj : j < m.length) (hv : v.length = m.length) (ev : ∀ k, k < m.length → vf v k = unit j fig k)
    (g1 : 0 < g) (g2 : g ∣ fig) (g3 : g ∣ vf s j) (g4 : ∃ u w : Int, g = u * fig + w * vf s j) : Sgl m (vs ++ [v]) (s.set j g) := by
  have hl : j < s.length := by rw [h.l]; exact hj
  have es := vf_set (s := s) (x := g) hl
  refine ⟨by rw [List.length_set]; exact h.l, fun u hu => ?_, fun k hk => ?_, fun k hk => ?_, fun k hk u hu => ?_, fun k hk => ?_⟩
  · rcases List.mem_append.mp hu with h1 | h1
    · exact h.e u h1
    · have : u = v := by simpa using h1
      rw [this]; exact hv
  · rw [es]; split
    · exact g1
    · exact h.pos k hk
  · rw [es]; split
    · rename_i e; rw [e]; exact Int.dvd_trans g3 (h.dm j hj)
    · exact h.dm k hk
  · rw [es]
    rcases List.mem_append.mp hu with h1 | h1
    · split
      · rename_i e; rw [e]; exact Int.dvd_trans g3 (h.dv j hj u h1)
      · exact h.dv k hk u h1
    · have : u = v := by simpa using h1
      rw [this, ev k hk]
      unfold unit
      split
      · exact g2
      · exact Int.dvd_zero _
  · rw [es]
    by_cases e : k = j
    · rw [if_pos e]
      subst e
      obtain ⟨u, w, eg⟩ := g4
      have s1 : SP m (vs ++ [v]) (vf v) := sp_vec (by simp)
      have s2 : SP m (vs ++ [v]) (unit k (vf s k)) := sp_more (h.sp k hk)
      refine ((s1.mul u).plus (s2.mul w)).is fun i => ?_
      by_cases hi : i < m.length
      · rw [ev i hi]
        unfold unit
        by_cases ei : i = k
        · rw [if_pos ei, if_pos ei, if_pos ei, eg]
        · rw [if_neg ei, if_neg ei, if_neg ei]; omega
      · rw [vf_out (by omega)]
        unfold unit
        rw [if_neg (by omega), if_neg (by omega)]; omega
    · rw [if_neg e]
      exact sp_more (h.sp k hk)
/-- all that is spanned is divided by them -/
theorem sgl_low {m : List Int} {vs : List (List Int)} {s : List Int} (h : Sgl m vs s) {p : Nat} (hp : p < m.length) {x : Vc} (hx : SP m vs x) : vf s p ∣ x p :=
  hx.ind (P := fun x => vf s p ∣ x p) (Int.dvd_zero _) (fun x y hx hy => Int.dvd_add hx hy) (fun x hx => Int.dvd_neg.mpr hx) fun g hg => by
    rcases hg with ⟨v, hv, e⟩ | ⟨q, hq, e⟩
    · rw [e]; exact h.dv p hp v hv
    · rw [e]
      unfold unit
      split
      · rename_i e; rw [← e]; exact h.dm p hp
      · exact Int.dvd_zero _
end K32

end

section
set_option maxHeartbeats 2000000
namespace K32
open PySem L2 Kx Mx
theorem sgl_lad {m : List Int} {vs D : List (List Int)} {s : List Int} (h : Sgl m vs s) (hl : D.length = m.length) (hr : ∀ p, p < m.length → (rwo D p).length = m.length ∧ ∀ i, i < m.length → ra D p i = unit p (vf s p) i) : Lad m vs D := by
  have full : ∀ p, p < m.length → ∀ i, ra D p i = unit p (vf s p) i := fun p hp i => by
    by_cases hi : i < m.length
    · exact (hr p hp).2 i hi
    · show vf (rwo D p) i = _
      rw [vf_out (by rw [(hr p hp).1]; omega)]
      unfold unit
      rw [if_neg (by omega)]
  have dg : ∀ p, p < m.length → ra D p p = vf s p := fun p hp => by rw [full p hp]; unfold unit; rw [if_pos rfl]
  refine ⟨hl, fun p hp => (hr p hp).1, fun p hp => (h.sp p hp).is fun i => (full p hp i).symm, fun p hp i hi => ?_, fun p hp => ?_, fun p hp x sx _ => ?_, fun p hp i h1 h2 => ?_⟩
  · rw [full p hp]; unfold unit; rw [if_neg (by omega)]
  · rw [dg p hp]; exact h.pos p hp
  · rw [dg p hp]; exact sgl_low h hp sx
  · rw [dg i h2, full p hp]
    unfold unit
    rw [if_neg (by omega)]
    exact ⟨Int.le_refl _, h.pos i h2⟩
/-- the ladder of such steps -/
def dia (n : Nat) (s : List Int) : List (List Int) := (List.range n).map fun p => (List.range n).map fun i => unit p (vf s p) i
theorem dia_row {n p : Nat} {s : List Int} (hp : p < n) : rwo (dia n s) p = (List.range n).map fun i => unit p (vf s p) i := by
  unfold dia rwo
  simp [List.getD, hp]
theorem dia_at {n p i : Nat} {s : List Int} (hp : p < n) (hi : i < n) : ra (dia n s) p i = unit p (vf s p) i := by
  show vf (rwo (dia n s) p) i = _
  rw [dia_row hp]
  refine vf_get ?_
  rw [List.getElem?_map, List.getElem?_range hi]; rfl
theorem dia_lad {m : List Int} {vs : List (List Int)} {s : List Int} (h : Sgl m vs s) : Lad m vs (dia m.length s) :=
  sgl_lad h (by unfold dia; simp) fun p hp => ⟨by rw [dia_row hp]; simp, fun i hi => dia_at hp hi⟩
theorem dia_diag {n p : Nat} {s : List Int} (hp : p < n) : ra (dia n s) p p = vf s p := by rw [dia_at hp hp]; unfold unit; rw [if_pos rfl]
end K32

end

section
set_option maxHeartbeats 2000000
namespace K32
open PySem L2 Kx Mx
theorem six_bnd {x : List Int} (h : ∀ y ∈ x, -1000000 < y ∧ y < 1000000) : Bnd x := bnd_of fun y hy => by have := h y hy; omega
theorem pq_snoc {f : Nat → Int} : ∀ (k p : Nat), pq f p (k + 1) = pq f p k * f (p + k)
  | 0, p => by unfold pq; unfold pq; simp
  | k + 1, p => by
    show f p * pq f (p + 1) (k + 1) = f p * pq f (p + 1) k * f (p + (k + 1))
    rw [pq_snoc k (p + 1), Int.mul_assoc, show p + 1 + k = p + (k + 1) by omega]
theorem same_int {a b : Int} (h : a = b) : m__law_same 12 ((Dat.int a), (Dat.int b)) = some true := by subst h; exact same_refl (k := 11) (.int _ _)
theorem same_row {a b : List Int} (hl : a.length ≤ 12) (h : a = b) : m__law_same 12 (((eT Dat.int) a), ((eT Dat.int) b)) = some true := by subst h; exact same_refl (k := 11) (pl_row (k := 10) (by omega))
theorem great_spec (z : Sto) : Wp (m__law_great_right () z) fun r => r.1 = true := by
  unfold m__law_great_right
  refine wp_bind (wp_rngO (P := fun t => t = irange 0 12) ⟨by omega, by omega⟩ rfl) fun t1 e1 => ?_
  subst e1
  refine wp_bind (P := fun r : List Int × Sto => Mdl r.1 ∧ r.1.length = 12) (wp_lcS (fun _ (y : Int) => 1 ≤ y ∧ y ≤ 99) (by rw [irange_len]; decide) (fun x _ z => wp_bind (pull_spec z (by decide) (by decide)) fun t9 ⟨a1, a2⟩ => wp_some (by dsimp only; omega)) ?_) fun t9 ⟨hm, l12⟩ => ?_
  · intro r hl h
    rw [irange_len] at hl
    have hl : r.1.length = 12 := hl
    refine ⟨⟨by omega, by omega, fun y hy => ?_⟩, hl⟩
    obtain ⟨i, hi⟩ := List.mem_iff_getElem?.mp hy
    have hil := (List.getElem?_eq_some_iff.mp hi).1
    exact h i _ y (List.getElem?_eq_getElem (by rw [irange_len]; show i < 12; omega)) hi
  refine wp_bind (pull_spec t9.2 (by decide) (by decide)) fun t10 ⟨g1, g2⟩ => ?_
  refine wp_bind (wp_rngO (P := fun t => t = irange 0 t10.1) ⟨by omega, by omega⟩ rfl) fun t11 e11 => ?_
  subst e11
  refine wp_bind (P := fun st : List Int × List (List Int) × Sto => Sgl t9.1 st.2.1 st.1 ∧ st.2.1.length ≤ 40) ?_ fun fin ⟨S, l40⟩ => ?_
  · refine wp_forO (fun i (st : List Int × List (List Int) × Sto) => Sgl t9.1 st.2.1 st.1 ∧ st.2.1.length = i) ⟨sgl_first hm, rfl⟩ ?_ (fun s h => ⟨h.1, by have := h.2; rw [irange_len] at this; omega⟩)
    rintro i x ⟨s, vs, z'⟩ hx ⟨S, hlv⟩
    dsimp only at *
    have hi := (List.getElem?_eq_some_iff.mp hx).1
    rw [irange_len] at hi
    refine wp_bind (pull_spec z' (by decide) (by decide)) fun t19 ⟨a1, a2⟩ => ?_
    obtain ⟨j, hj⟩ : ∃ j : Nat, t19.1 = (j : Int) := ⟨t19.1.toNat, by omega⟩
    rw [hj] at a2 ⊢
    have hj12 : j < t9.1.length := by omega
    refine wp_bind (wp_powO (P := fun t => t = 1000000000) ⟨by decide, by decide, by decide⟩ (by decide)) fun t20 e20 => ?_
    subst e20
    refine wp_bind (pull_spec t19.2 (by decide) (by decide)) fun t21 ⟨b1, b2⟩ => ?_
    refine wp_bind (wp_powO (P := fun t => t = 10 ^ 50) ⟨by decide, by decide, by decide⟩ rfl) fun t22 e22 => ?_
    refine wp_bind (pull_spec t21.2 (by decide) (by decide)) fun t23 ⟨c1, c2⟩ => ?_
    refine wp_bind (wp_mulO (P := fun t => 0 ≤ t) (small_mul ⟨by omega, by omega⟩) (by rw [e22]; exact Int.mul_nonneg (by decide) c1)) fun t24 h24 => ?_
    have fpos : 0 ≤ t21.1 + t24 := by omega
    generalize t21.1 + t24 = fig at fpos
    refine wp_bind (wp_rngO (P := fun t => t = irange 0 12) ⟨by omega, by omega⟩ rfl) fun t25 e25 => ?_
    subst e25
    refine wp_bind (P := fun t : List Int => t.length = t9.1.length ∧ ∀ k, k < t9.1.length → vf t k = unit j fig k) (wp_lcO (fun (x : Int) (y : Int) => ∀ k : Nat, x = (k : Int) → y = unit j fig k) (by rw [irange_len]; decide) (fun x hx => ?_) ?_) fun t33 ⟨l33, h33⟩ => ?_
    · refine wp_bind (wp_mulO (P := fun t => t = fig * (if (decide (x = (j : Int))) then 1 else 0 : Int)) (small_mul (by split <;> omega)) rfl) fun t32 e32 => wp_some fun k hk => ?_
      rw [e32, hk]
      unfold unit
      by_cases e : k = j
      · subst e; simp
      · rw [if_neg e, if_neg (by simp; omega)]; omega
    · intro ys hl h
      rw [irange_len] at hl
      have hl : ys.length = 12 := hl
      refine ⟨by omega, fun k hk => ?_⟩
      have := h k (k : Int) (ys[k]'(by omega)) (by rw [irange_get (by show k < 12; omega)]; simp) (List.getElem?_eq_getElem _) k rfl
      rw [vf_at (by omega)]
      exact this
    refine wp_bind (wp_appO (P := fun t => t = vs ++ [t33]) (by omega) rfl) fun t34 e34 => ?_
    have hls := S.l
    refine wp_bind (wp_atI (P := fun t => t = vf s j) (by omega) (vf_at _).symm) fun t35 e35 => ?_
    subst e35
    refine wp_bind (lshared_spec fpos (S.pos j hj12)) fun t36 ⟨q1, q2, q3, q4⟩ => ?_
    refine wp_bind (wp_setO (P := fun t => t = s.set j t36) (by omega) rfl) fun t37 e37 => wp_some ?_
    subst e34; subst e37
    exact ⟨sgl_step S hj12 l33 h33 q1 q2 q3 q4, by dsimp only; rw [List.length_append, hlv]; rfl⟩
  obtain ⟨s, vs, z'⟩ := fin
  dsimp only at *
  have hls := S.l
  have LD := dia_lad S
  have V : Vcs t9.1 vs := ⟨l40, S.e⟩
  refine wp_bind (wp_rngO (P := fun t => t = irange 0 12) ⟨by omega, by omega⟩ rfl) fun t39 e39 => ?_
  subst e39
  refine wp_bind (P := fun st : Int => st = pq (qt t9.1 (dia t9.1.length s)) 0 t9.1.length) ?_ fun fin40 e40 => ?_
  · refine wp_forO (fun k (st : Int) => st = pq (qt t9.1 (dia t9.1.length s)) 0 k) rfl ?_ (fun st h => by
      rw [irange_len] at h
      rw [h]
      exact congrArg (pq _ 0) (show (12 - 0 : Int).toNat = _ by rw [l12]; rfl))
    rintro p x st hx hst
    obtain ⟨hp, rfl⟩ := irange_at (n := 12) hx
    have hpl : p < t9.1.length := by omega
    have M := hm.at hpl
    have sp := S.pos p hpl
    have sl : vf s p ≤ vf t9.1 p := Int.le_of_dvd (by omega) (S.dm p hpl)
    refine wp_bind (wp_atI (P := fun t => t = vf t9.1 p) hpl (vf_at _).symm) fun t47 e47 => ?_
    refine wp_bind (wp_atI (P := fun t => t = vf s p) (by omega) (vf_at _).symm) fun t48 e48 => ?_
    subst e47; subst e48
    refine wp_bind (wp_fdivO (P := fun t => t = vf t9.1 p / vf s p) ⟨by omega, by omega⟩ (fd sp)) fun t49 e49 => ?_
    have b49 : 0 ≤ t49 ∧ t49 ≤ 99 := by
      rw [e49]
      refine ⟨Int.ediv_nonneg (by omega) (by omega), ?_⟩
      have := Int.ediv_le_self (vf s p) (show 0 ≤ vf t9.1 p by omega)
      omega
    refine wp_bind (wp_mulO (P := fun t => t = st * t49) (small_mul (by omega)) rfl) fun t50 e50 => wp_some ?_
    rw [e50, hst, pq_snoc, Nat.zero_add, e49]
    unfold qt
    rw [dia_diag hpl]
  refine wp_bind (wp_rngO (P := fun t => t = irange 0 12) ⟨by omega, by omega⟩ rfl) fun t51 e51 => ?_
  subst e51
  refine wp_bind (P := fun r : List Int × Sto => r.1.length = t9.1.length ∧ Bnd r.1) (wp_lcS (fun _ (y : Int) => -(2 ^ 200) < y ∧ y < 2 ^ 200) (by rw [irange_len]; decide) (fun x _ z => ?_) ?_) fun t61 ⟨l61, b61⟩ => ?_
  · refine wp_bind (wp_powO (P := fun t => t = 10 ^ 30) ⟨by decide, by decide, by decide⟩ rfl) fun t58 e58 => ?_
    subst e58
    refine wp_bind (pull_spec z (by decide) (by decide)) fun t59 ⟨a1, a2⟩ => ?_
    refine wp_bind (wp_powO (P := fun t => t = 10 ^ 29) ⟨by decide, by decide, by decide⟩ rfl) fun t60 e60 => wp_some ?_
    subst e60
    dsimp only
    omega
  · intro r hl h
    rw [irange_len] at hl
    have hl : r.1.length = 12 := hl
    refine ⟨by omega, bnd_of fun y hy => ?_⟩
    obtain ⟨i, hi⟩ := List.mem_iff_getElem?.mp hy
    have hil := (List.getElem?_eq_some_iff.mp hi).1
    exact h i _ y (List.getElem?_eq_getElem (by rw [irange_len]; show i < 12; omega)) hi
  refine wp_bind (wp_rngO (P := fun t => t = irange 0 12) ⟨by omega, by omega⟩ rfl) fun t62 e62 => ?_
  subst e62
  refine wp_bind (P := fun t : List Int => t.length = t9.1.length ∧ ∀ i, i < t9.1.length → vf t i = vf t61.1 i % vf s i) (wp_lcO (fun (x : Int) (y : Int) => ∀ k : Nat, x = (k : Int) → y = vf t61.1 k % vf s k) (by rw [irange_len]; decide) (fun x hx => ?_) ?_) fun t72 ⟨l72, h72⟩ => ?_
  · obtain ⟨k, hk, rfl⟩ := irange_mem (n := 12) hx
    have hkl : k < t9.1.length := by omega
    refine wp_bind (wp_atI (P := fun t => t = vf t61.1 k) (by omega) (vf_at _).symm) fun t69 e69 => ?_
    refine wp_bind (wp_atI (P := fun t => t = vf s k) (by omega) (vf_at _).symm) fun t70 e70 => ?_
    have sp := S.pos k hkl
    refine wp_bind (wp_modO (P := fun t => t = t69 % t70) (by omega) (fm (by omega))) fun t71 e71 => wp_some fun j hj => ?_
    have : j = k := by omega
    subst this
    rw [e71, e69, e70]
  · intro ys hl h
    rw [irange_len] at hl
    have hl : ys.length = 12 := hl
    refine ⟨by omega, fun k hk => ?_⟩
    have := h k (k : Int) (ys[k]'(by omega)) (by rw [irange_get (by show k < 12; omega)]; simp) (List.getElem?_eq_getElem _) k rfl
    rw [vf_at (by omega)]
    exact this
  refine wp_bind (wp_is (P := fun t => t = fin40) (spanned_spec hm V LD) e40.symm) fun t73 e73 => ?_
  refine wp_bind (wp_is (P := fun t => t = true) (same_int e73) rfl) fun t74 e74 => ?_
  subst e74
  refine wp_cond (fun e => by cases e) fun _ => ?_
  refine wp_bind (least_spec hm V LD l61 b61) fun t75 h75 => ?_
  have L72 : Lst t9.1 vs (dia t9.1.length s) t61.1 t72 := by
    refine ⟨l72, fun i hi => ?_, ?_⟩
    · rw [h72 i hi, dia_diag hi]
      have sp := S.pos i hi
      exact ⟨Int.emod_nonneg _ (by omega), Int.emod_lt_of_pos _ sp⟩
    · have u := spn_all (S := GenS t9.1 vs) (m := s) (fun q hq => S.sp q (by omega)) (fun i => vf t61.1 i / vf s i) s.length (Nat.le_refl _)
      refine u.is fun i => ?_
      by_cases hi : i < s.length
      · rw [if_pos hi, h72 i (by omega)]
        have := Int.emod_add_mul_ediv (vf t61.1 i) (vf s i)
        rw [Int.mul_comm (vf s i)] at this
        omega
      · rw [if_neg hi, vf_out (l := t61.1) (by omega), vf_out (l := t72) (by omega)]; rfl
  refine wp_bind (wp_is (P := fun t => t = true) (same_row (by rw [h75.l]; omega) (lst_uniq LD h75 L72)) rfl) fun t76 e76 => wp_some e76
theorem small_spec {m : List Int} {vs some' : List (List Int)} (hm : Mdl m) (hp : prod m ≤ 240) (hv : Vcs m vs) (hs : ∀ x ∈ some', x.length = m.length ∧ Bnd x) : m__law_small_right (m, vs, some') = some true := by
  have W : Wp (m__law_small_right (m, vs, some')) fun b => b = true := by
    have hml := hm.l2
    obtain ⟨R, _, hR⟩ := laid_spec hm hv
    have L := laid_lad hv.e hR
    generalize (R.map fun x => x.1) = A at L
    unfold m__law_small_right
    dsimp only
    refine wp_bind (span_spec hm hp hv.e) fun t1 F => ?_
    have few : (t1.length : Int) ≤ prod m := box_few (fun x hx => by have := hm.b x hx; omega) F.n fun w hw => ((F.i w).mp hw).1
    have cnt := span_count hm L F
    refine wp_bind (wp_rngO (P := fun t => t = irange 0 2) ⟨by omega, by omega⟩ rfl) fun t2 e2 => ?_
    subst e2
    refine wp_bind (P := fun r : Unit ⊕ Bool => r = .inl ()) ?_ fun fin e => by
      subst e
      exact wp_some rfl
    refine wp_forR (fun _ => True) trivial (fun x hx u _ => ?_) (fun _ _ => rfl)
    refine wp_bind (wp_is (P := fun t => t = (t1.length : Int)) (spanned_spec hm hv L) cnt.symm) fun t10 e10 => wp_bind (wp_is (P := fun t => t = (t1.length : Int)) (spanned_spec hm hv L) cnt.symm) fun t11 e11 => ?_
    refine wp_bind (wp_lcO_map (P := fun t => (t.all id) = true) (fun _ => true) (by simp) (fun x hx => ?_) rfl) fun t19 e19 => ?_
    · have : x = (t1.length : Int) := by
        have : x = t10 ∨ x = t11 := by simpa using hx
        rcases this with h | h
        · rw [h, e10]
        · rw [h, e11]
      rw [same_int this]
      rfl
    rw [e19]
    refine wp_cond (fun e => by cases e) fun _ => ?_
    refine wp_bind (P := fun r : Unit ⊕ Bool => r = .inl ()) ?_ fun fin e => by
      subst e
      exact wp_some ⟨(), rfl, trivial⟩
    refine wp_forR (fun _ => True) trivial (fun x hx u _ => ?_) (fun _ _ => rfl)
    obtain ⟨lx, bx⟩ := hs x hx
    obtain ⟨r, er, hr⟩ := least_spec hm hv L lx bx
    have Br := lst_box hm L hr
    have xo : ∀ i, m.length ≤ i → vf x i = 0 := fun i hi => vf_out (by omega)
    refine wp_bind (P := fun ys : List (List Int) => ys.length = t1.length ∧ ∀ (i : Nat) (w y : List Int), t1[i]? = some w → ys[i]? = some y → Box m y ∧ ∀ i, i < m.length → vf m i ∣ vf y i - (vf x i + vf w i)) (wp_lcO _ (by omega) (fun w hw => wp_bind (summed2 hm lx ((F.i w).mp hw).1.1) fun t33 h => wp_some h) fun ys h1 h2 => ⟨h1, h2⟩) fun t34 ⟨l34, h34⟩ => ?_
    have mem : r ∈ t34 := by
      have hw : boxed m (fun i => vf r i - vf x i) ∈ t1 := (F.i _).mpr ⟨boxed_box hm, sp_cong hr.sp.neg (fun i hi => by
        rw [boxed_at hi]
        have := mod_cong (vf r i - vf x i) (vf m i)
        rw [show (vf r i - vf x i) % vf m i - (vf r i - vf x i) = (vf r i - vf x i) % vf m i - -(vf x i - vf r i) by omega] at this
        exact this) fun i hi => by rw [vf_box_out (boxed_box hm) hi, xo i hi, vf_box_out Br hi]; rfl⟩
      obtain ⟨i, hi⟩ := List.mem_iff_getElem?.mp hw
      have hil := (List.getElem?_eq_some_iff.mp hi).1
      have hy : t34[i]? = some t34[i] := List.getElem?_eq_getElem (by omega)
      have ⟨B, C⟩ := h34 i _ _ hi hy
      have : r = t34[i] := box_eq Br B fun j hj => by
        have c := C j hj
        rw [boxed_at hj] at c
        have h1 := mod_cong (vf r j - vf x j) (vf m j)
        have h2 := Int.dvd_neg.mpr (Int.dvd_add c h1)
        rw [show -(vf t34[i] j - (vf x j + (vf r j - vf x j) % vf m j) + ((vf r j - vf x j) % vf m j - (vf r j - vf x j))) = vf r j - vf t34[i] j by omega] at h2
        exact h2
      rw [this]
      exact List.getElem_mem _
    have low : ∀ y ∈ t34, HT.lexLt y r = false := fun y hy => by
      obtain ⟨i, hi⟩ := List.mem_iff_getElem?.mp hy
      have hil := (List.getElem?_eq_some_iff.mp hi).1
      have hw : t1[i]? = some t1[i] := List.getElem?_eq_getElem (by omega)
      have ⟨B, C⟩ := h34 i _ _ hw hi
      have S := (F.i _).mp (List.mem_of_getElem? hw)
      refine lst_low L hr B (sp_cong S.2 (fun j hj => ?_) fun j hj => by rw [vf_box_out B hj, xo j hj, vf_box_out S.1 hj]; rfl)
      have := C j hj
      rw [show vf y j - (vf x j + vf t1[i] j) = vf y j - vf x j - vf t1[i] j by omega] at this
      exact this
    refine wp_bind (P := fun t => t = r) ?_ fun t35 e35 => ?_
    · obtain ⟨y, hy⟩ : ∃ y, minR t34 = some y := by
        cases t34 with
        | nil => simp at mem
        | cons a l => exact ⟨_, rfl⟩
      obtain ⟨y1, y2⟩ := minR_of hy
      exact ⟨y, hy, lex_tri (low y y1) (y2 r mem)⟩
    subst e35
    refine wp_bind (wp_is (P := fun t => t = t35) er rfl) fun t36 e36 => wp_bind (wp_is (P := fun t => t = t35) er rfl) fun t37 e37 => ?_
    subst e36; subst e37
    refine wp_bind (wp_lcO_map (P := fun t => (t.all id) = true) (fun _ => true) (by simp) (fun y hy => ?_) rfl) fun t45 e45 => ?_
    · have : y = t37 := by simpa using hy
      rw [this, same_row (by rw [Br.1]; omega) rfl]
      rfl
    · rw [e45]
      exact wp_some ⟨(), rfl, trivial⟩
  obtain ⟨r, hr, e⟩ := W
  rw [hr, e]
theorem right_spec (z : Sto) : Wp (m__law_right () z) fun r => r.1 = true := by
  unfold m__law_right
  refine wp_bind (wp_rngO (P := fun t => t = irange 0 3) ⟨by omega, by omega⟩ rfl) fun t1 e1 => ?_
  subst e1
  refine wp_bind (P := fun r : Sto ⊕ (Bool × Sto) => ∃ s, r = .inl s) ?_ fun fin ⟨s, e⟩ => ?_
  · refine wp_forR (fun _ => True) trivial (fun x _ z _ => ?_) (fun s _ => ⟨s, rfl⟩)
    refine wp_bind (sizes_spec z ⟨by decide, by decide⟩ ⟨by decide, by decide⟩ ⟨by decide, by decide⟩) fun t9 hs => ?_
    have hm : Mdl t9.1 := ⟨hs.l1, hs.l2, fun x hx => by have := hs.b x hx; omega⟩
    have hml := hm.l2
    refine wp_bind (arrows_spec t9.2 hs.l2 hm.b ⟨by decide, by decide⟩) fun t10 ⟨A, lA⟩ => ?_
    refine wp_bind (wp_rngO (P := fun t => t = irange 0 3) ⟨by omega, by omega⟩ rfl) fun t11 e11 => ?_
    subst e11
    refine wp_bind (P := fun r : List (List Int) × Sto => r.1.length = 3 ∧ ∀ w ∈ r.1, w.length = t9.1.length ∧ Bnd w) (wp_lcS (fun _ (y : List Int) => y.length = t9.1.length ∧ ∀ x ∈ y, -1000000 < x ∧ x < 1000000) (by rw [irange_len]; decide) (fun x _ z => wp_bind (arrow_spec z hml hm.b) fun t19 h => wp_some h) ?_) fun t19 ⟨l19, h19⟩ => ?_
    · intro r hl h
      rw [irange_len] at hl
      have hl : r.1.length = 3 := hl
      refine ⟨hl, fun y hy => ?_⟩
      obtain ⟨i, hi⟩ := List.mem_iff_getElem?.mp hy
      have hil := (List.getElem?_eq_some_iff.mp hi).1
      have := h i _ y (List.getElem?_eq_getElem (by rw [irange_len]; show i < 3; omega)) hi
      exact ⟨this.1, six_bnd this.2⟩
    have cl : (cut t10.1 none (some 2)).length ≤ t10.1.length := cut_len
    refine wp_bind (wp_catO (P := fun t => t = t19.1 ++ cut t10.1 none (some 2)) (by omega) rfl) fun t20 e20 => ?_
    refine wp_bind (wp_is (P := fun t => t = true) (small_spec hm hs.p ⟨by omega, A.e⟩ fun w hw => ?_) rfl) fun t21 e21 => ?_
    · rw [e20] at hw
      rcases List.mem_append.mp hw with h | h
      · exact h19 w h
      · exact ⟨A.e w (cut_mem h), six_bnd (A.b w (cut_mem h))⟩
    · subst e21
      exact wp_some ⟨_, rfl, trivial⟩
  · subst e
    exact wp_bind (great_spec s) fun t36 h => wp_some h
end K32

end

section
set_option maxHeartbeats 2000000
namespace K32
open PySem L2 Kx Mx
theorem law_true (ns : List Int) (h : ns.length ≤ 63) : m_law ns = some true := by
  have W : Wp (m_law ns) fun b => b = true := by
    unfold m_law
    generalize hn : (if (if (6 : Int) < (ns.length : Int) then (6 : Int) else (ns.length : Int)) > (2 : Int) then (if (6 : Int) < (ns.length : Int) then (6 : Int) else (ns.length : Int)) else (2 : Int)) = n
    have b : 0 ≤ n ∧ n ≤ 63 := by
      rw [← hn]
      split <;> split <;> omega
    obtain ⟨k, rfl⟩ : ∃ k : Nat, n = (k : Int) := ⟨n.toNat, by omega⟩
    refine wp_bind (wp_rngN (P := fun t => t = irange 0 (k : Int)) (by omega) rfl) fun t1 e1 => ?_
    subst e1
    refine wp_bind (P := fun t : List Bool => t.all id = true) (wp_lcO (fun _ y => y = true) (by rw [irange_nat_len]; omega) (fun x hx => ?_) ?_) fun t10 h => wp_some h
    · obtain ⟨j, hj, rfl⟩ := irange_mem hx
      exact wp_bind (opened_spec ns j) fun t8 _ => wp_bind (right_spec t8) fun t9 h => wp_some h
    · intro ys hl h
      rw [List.all_eq_true]
      intro y hy
      obtain ⟨i, hi⟩ := List.mem_iff_getElem?.mp hy
      have hil := (List.getElem?_eq_some_iff.mp hi).1
      have := h i _ y (List.getElem?_eq_getElem (by omega)) hi
      rw [this]; rfl
  obtain ⟨r, hr, e⟩ := W
  rw [hr, e]
end K32

end

section
set_option maxHeartbeats 4000000
namespace K32
open PySem L2 Kx
theorem kwv_spanned_vectors_moduli {zs : List V} {ws : List Value} (h : Vals zs ws) : Vals (kw_spanned_vectors_moduli zs) (kw_spanned_vectors_moduli ws) := by
  cases h with
  | nil => exact .nil
  | cons a0 h =>
    cases h with
    | nil => exact .nil
    | cons a1 h =>
      cases h with
      | nil => exact (.cons a1 (.cons a0 .nil))
      | cons _ _ => exact .nil
theorem kwv_least_vector_moduli_vectors {zs : List V} {ws : List Value} (h : Vals zs ws) : Vals (kw_least_vector_moduli_vectors zs) (kw_least_vector_moduli_vectors ws) := by
  cases h with
  | nil => exact .nil
  | cons a0 h =>
    cases h with
    | nil => exact .nil
    | cons a1 h =>
      cases h with
      | nil => exact .nil
      | cons a2 h =>
        cases h with
        | nil => exact (.cons a1 (.cons a2 (.cons a0 .nil)))
        | cons _ _ => exact .nil
theorem all_mk {l : PySem.W.OpenLaw} {w : World} {K : PySem.W.Frag} {h : Heap} {mg : Str → Option Value} {fa : Addr} (X : K.In h) (G : h.Ns mainGlobals mg) (hfa : mg "law" = some (.ref fa))
    {f0 : Addr} {od0 an0 : Option Addr} {sl0 : Array (Option Value)} {oc0 kV0 dc0 pm0 cd0 ct0 : Value}
    {f1 : Addr} {od1 an1 : Option Addr} {sl1 : Array (Option Value)} {oc1 kV1 dc1 pm1 cd1 ct1 : Value}
    {f2 : Addr} {od2 an2 : Option Addr} {sl2 : Array (Option Value)} {oc2 kV2 dc2 pm2 cd2 ct2 : Value}
    {f3 : Addr} {od3 an3 : Option Addr} {sl3 : Array (Option Value)} {oc3 kV3 dc3 pm3 cd3 ct3 : Value}
    {f4 : Addr} {od4 an4 : Option Addr} {sl4 : Array (Option Value)} {oc4 kV4 dc4 pm4 cd4 ct4 : Value}
    {f5 : Addr} {od5 an5 : Option Addr} {sl5 : Array (Option Value)} {oc5 kV5 dc5 pm5 cd5 ct5 : Value}
    {f6 : Addr} {od6 an6 : Option Addr} {sl6 : Array (Option Value)} {oc6 kV6 dc6 pm6 cd6 ct6 : Value}
    {f7 : Addr} {od7 an7 : Option Addr} {sl7 : Array (Option Value)} {oc7 kV7 dc7 pm7 cd7 ct7 : Value}
    {f8 : Addr} {od8 an8 : Option Addr} {sl8 : Array (Option Value)} {oc8 kV8 dc8 pm8 cd8 ct8 : Value}
    {f9 : Addr} {od9 an9 : Option Addr} {sl9 : Array (Option Value)} {oc9 kV9 dc9 pm9 cd9 ct9 : Value}
    {f10 : Addr} {od10 an10 : Option Addr} {sl10 : Array (Option Value)} {oc10 kV10 dc10 pm10 cd10 ct10 : Value}
    {f11 : Addr} {od11 an11 : Option Addr} {sl11 : Array (Option Value)} {oc11 kV11 dc11 pm11 cd11 ct11 : Value}
    {f12 : Addr} {od12 an12 : Option Addr} {sl12 : Array (Option Value)} {oc12 kV12 dc12 pm12 cd12 ct12 : Value}
    {f13 : Addr} {od13 an13 : Option Addr} {sl13 : Array (Option Value)} {oc13 kV13 dc13 pm13 cd13 ct13 : Value}
    {f14 : Addr} {od14 an14 : Option Addr} {sl14 : Array (Option Value)} {oc14 kV14 dc14 pm14 cd14 ct14 : Value}
    {f15 : Addr} {od15 an15 : Option Addr} {sl15 : Array (Option Value)} {oc15 kV15 dc15 pm15 cd15 ct15 : Value}
    {f16 : Addr} {od16 an16 : Option Addr} {sl16 : Array (Option Value)} {oc16 kV16 dc16 pm16 cd16 ct16 : Value}
    {f17 : Addr} {od17 an17 : Option Addr} {sl17 : Array (Option Value)} {oc17 kV17 dc17 pm17 cd17 ct17 : Value}
    {f18 : Addr} {od18 an18 : Option Addr} {sl18 : Array (Option Value)} {oc18 kV18 dc18 pm18 cd18 ct18 : Value}
    {f19 : Addr} {od19 an19 : Option Addr} {sl19 : Array (Option Value)} {oc19 kV19 dc19 pm19 cd19 ct19 : Value}
    {f20 : Addr} {od20 an20 : Option Addr} {sl20 : Array (Option Value)} {oc20 kV20 dc20 pm20 cd20 ct20 : Value}
    {f21 : Addr} {od21 an21 : Option Addr} {sl21 : Array (Option Value)} {oc21 kV21 dc21 pm21 cd21 ct21 : Value}
    {f22 : Addr} {od22 an22 : Option Addr} {sl22 : Array (Option Value)} {oc22 kV22 dc22 pm22 cd22 ct22 : Value}
    {f23 : Addr} {od23 an23 : Option Addr} {sl23 : Array (Option Value)} {oc23 kV23 dc23 pm23 cd23 ct23 : Value}
    {f24 : Addr} {od24 an24 : Option Addr} {sl24 : Array (Option Value)} {oc24 kV24 dc24 pm24 cd24 ct24 : Value}
    {f25 : Addr} {od25 an25 : Option Addr} {sl25 : Array (Option Value)} {oc25 kV25 dc25 pm25 cd25 ct25 : Value}
    {f26 : Addr} {od26 an26 : Option Addr} {sl26 : Array (Option Value)} {oc26 kV26 dc26 pm26 cd26 ct26 : Value}
    {f27 : Addr} {od27 an27 : Option Addr} {sl27 : Array (Option Value)} {oc27 kV27 dc27 pm27 cd27 ct27 : Value}
    {tk0 : Tok}
    {tk1 : Tok}
    {tk2 : Tok}
    (a0 : PySem.W.nsIn K mainGlobals "is_whole" = some (some (.ref f0))) (l0 : K.lookup f0 = some ⟨oc0, od0, .func (PySem.W.fnOf "is_whole" "is_whole" (defArgs s_is_whole) (defBody s_is_whole) (defScope s_is_whole) .none kV0 dc0 pm0 an0 cd0 ct0), sl0⟩) (c0 : PySem.W.codeIn K cd0 "is_whole" = true) (k0 : PySem.W.keepIn K (.ref f0) = true)
    (a1 : PySem.W.nsIn K mainGlobals "is_within" = some (some (.ref f1))) (l1 : K.lookup f1 = some ⟨oc1, od1, .func (PySem.W.fnOf "is_within" "is_within" (defArgs s_is_within) (defBody s_is_within) (defScope s_is_within) .none kV1 dc1 pm1 an1 cd1 ct1), sl1⟩) (c1 : PySem.W.codeIn K cd1 "is_within" = true) (k1 : PySem.W.keepIn K (.ref f1) = true)
    (a2 : PySem.W.nsIn K mainGlobals "check_moduli" = some (some (.ref f2))) (l2 : K.lookup f2 = some ⟨oc2, od2, .func (PySem.W.fnOf "check_moduli" "check_moduli" (defArgs s_check_moduli) (defBody s_check_moduli) (defScope s_check_moduli) .none kV2 dc2 pm2 an2 cd2 ct2), sl2⟩) (c2 : PySem.W.codeIn K cd2 "check_moduli" = true) (k2 : PySem.W.keepIn K (.ref f2) = true)
    (a3 : PySem.W.nsIn K mainGlobals "is_vector" = some (some (.ref f3))) (l3 : K.lookup f3 = some ⟨oc3, od3, .func (PySem.W.fnOf "is_vector" "is_vector" (defArgs s_is_vector) (defBody s_is_vector) (defScope s_is_vector) .none kV3 dc3 pm3 an3 cd3 ct3), sl3⟩) (c3 : PySem.W.codeIn K cd3 "is_vector" = true) (k3 : PySem.W.keepIn K (.ref f3) = true)
    (a4 : PySem.W.nsIn K mainGlobals "check_vectors" = some (some (.ref f4))) (l4 : K.lookup f4 = some ⟨oc4, od4, .func (PySem.W.fnOf "check_vectors" "check_vectors" (defArgs s_check_vectors) (defBody s_check_vectors) (defScope s_check_vectors) .none kV4 dc4 pm4 an4 cd4 ct4), sl4⟩) (c4 : PySem.W.codeIn K cd4 "check_vectors" = true) (k4 : PySem.W.keepIn K (.ref f4) = true)
    (a5 : PySem.W.nsIn K mainGlobals "check_vector" = some (some (.ref f5))) (l5 : K.lookup f5 = some ⟨oc5, od5, .func (PySem.W.fnOf "check_vector" "check_vector" (defArgs s_check_vector) (defBody s_check_vector) (defScope s_check_vector) .none kV5 dc5 pm5 an5 cd5 ct5), sl5⟩) (c5 : PySem.W.codeIn K cd5 "check_vector" = true) (k5 : PySem.W.keepIn K (.ref f5) = true)
    (a6 : PySem.W.nsIn K mainGlobals "less" = some (some (.ref f6))) (l6 : K.lookup f6 = some ⟨oc6, od6, .func (PySem.W.fnOf "less" "less" (defArgs s_less) (defBody s_less) (defScope s_less) .none kV6 dc6 pm6 an6 cd6 ct6), sl6⟩) (c6 : PySem.W.codeIn K cd6 "less" = true) (k6 : PySem.W.keepIn K (.ref f6) = true)
    (a7 : PySem.W.nsIn K mainGlobals "by_rests" = some (some (.ref f7))) (l7 : K.lookup f7 = some ⟨oc7, od7, .func (PySem.W.fnOf "by_rests" "by_rests" (defArgs s_by_rests) (defBody s_by_rests) (defScope s_by_rests) .none kV7 dc7 pm7 an7 cd7 ct7), sl7⟩) (c7 : PySem.W.codeIn K cd7 "by_rests" = true) (k7 : PySem.W.keepIn K (.ref f7) = true)
    (a8 : PySem.W.nsIn K mainGlobals "met" = some (some (.ref f8))) (l8 : K.lookup f8 = some ⟨oc8, od8, .func (PySem.W.fnOf "met" "met" (defArgs s_met) (defBody s_met) (defScope s_met) .none kV8 dc8 pm8 an8 cd8 ct8), sl8⟩) (c8 : PySem.W.codeIn K cd8 "met" = true) (k8 : PySem.W.keepIn K (.ref f8) = true)
    (a9 : PySem.W.nsIn K mainGlobals "laid" = some (some (.ref f9))) (l9 : K.lookup f9 = some ⟨oc9, od9, .func (PySem.W.fnOf "laid" "laid" (defArgs s_laid) (defBody s_laid) (defScope s_laid) .none kV9 dc9 pm9 an9 cd9 ct9), sl9⟩) (c9 : PySem.W.codeIn K cd9 "laid" = true) (k9 : PySem.W.keepIn K (.ref f9) = true)
    (a10 : PySem.W.nsIn K mainGlobals "steps_of" = some (some (.ref f10))) (l10 : K.lookup f10 = some ⟨oc10, od10, .func (PySem.W.fnOf "steps_of" "steps_of" (defArgs s_steps_of) (defBody s_steps_of) (defScope s_steps_of) .none kV10 dc10 pm10 an10 cd10 ct10), sl10⟩) (c10 : PySem.W.codeIn K cd10 "steps_of" = true) (k10 : PySem.W.keepIn K (.ref f10) = true)
    (a11 : PySem.W.nsIn K mainGlobals "gone_down" = some (some (.ref f11))) (l11 : K.lookup f11 = some ⟨oc11, od11, .func (PySem.W.fnOf "gone_down" "gone_down" (defArgs s_gone_down) (defBody s_gone_down) (defScope s_gone_down) .none kV11 dc11 pm11 an11 cd11 ct11), sl11⟩) (c11 : PySem.W.codeIn K cd11 "gone_down" = true) (k11 : PySem.W.keepIn K (.ref f11) = true)
    (a12 : PySem.W.nsIn K mainGlobals "product" = some (some (.ref f12))) (l12 : K.lookup f12 = some ⟨oc12, od12, .func (PySem.W.fnOf "product" "product" (defArgs s_product) (defBody s_product) (defScope s_product) .none kV12 dc12 pm12 an12 cd12 ct12), sl12⟩) (c12 : PySem.W.codeIn K cd12 "product" = true) (k12 : PySem.W.keepIn K (.ref f12) = true)
    (a13 : PySem.W.nsIn K mainGlobals "spanned" = some (some (.ref f13))) (l13 : K.lookup f13 = some ⟨oc13, od13, .func (PySem.W.fnOf "spanned" "spanned" (defArgs s_spanned) (defBody s_spanned) (defScope s_spanned) .none kV13 dc13 pm13 an13 cd13 ct13), sl13⟩) (c13 : PySem.W.codeIn K cd13 "spanned" = true) (k13 : PySem.W.keepIn K (.ref f13) = true)
    (a14 : PySem.W.nsIn K mainGlobals "least" = some (some (.ref f14))) (l14 : K.lookup f14 = some ⟨oc14, od14, .func (PySem.W.fnOf "least" "least" (defArgs s_least) (defBody s_least) (defScope s_least) .none kV14 dc14 pm14 an14 cd14 ct14), sl14⟩) (c14 : PySem.W.codeIn K cd14 "least" = true) (k14 : PySem.W.keepIn K (.ref f14) = true)
    (a15 : PySem.W.nsIn K mainGlobals "_law_opened" = some (some (.ref f15))) (l15 : K.lookup f15 = some ⟨oc15, od15, .func (PySem.W.fnOf "_law_opened" "_law_opened" (defArgs s__law_opened) (defBody s__law_opened) (defScope s__law_opened) .none kV15 dc15 pm15 an15 cd15 ct15), sl15⟩) (c15 : PySem.W.codeIn K cd15 "_law_opened" = true) (k15 : PySem.W.keepIn K (.ref f15) = true)
    (a16 : PySem.W.nsIn K mainGlobals "_law_pull" = some (some (.ref f16))) (l16 : K.lookup f16 = some ⟨oc16, od16, .func (PySem.W.fnOf "_law_pull" "_law_pull" (defArgs s__law_pull) (defBody s__law_pull) (defScope s__law_pull) .none kV16 dc16 pm16 an16 cd16 ct16), sl16⟩) (c16 : PySem.W.codeIn K cd16 "_law_pull" = true) (k16 : PySem.W.keepIn K (.ref f16) = true)
    (a17 : PySem.W.nsIn K mainGlobals "_law_same" = some (some (.ref f17))) (l17 : K.lookup f17 = some ⟨oc17, od17, .func (PySem.W.fnOf "_law_same" "_law_same" (defArgs s__law_same) (defBody s__law_same) (defScope s__law_same) .none kV17 dc17 pm17 an17 cd17 ct17), sl17⟩) (c17 : PySem.W.codeIn K cd17 "_law_same" = true) (k17 : PySem.W.keepIn K (.ref f17) = true)
    (a18 : PySem.W.nsIn K mainGlobals "_law_sizes" = some (some (.ref f18))) (l18 : K.lookup f18 = some ⟨oc18, od18, .func (PySem.W.fnOf "_law_sizes" "_law_sizes" (defArgs s__law_sizes) (defBody s__law_sizes) (defScope s__law_sizes) .none kV18 dc18 pm18 an18 cd18 ct18), sl18⟩) (c18 : PySem.W.codeIn K cd18 "_law_sizes" = true) (k18 : PySem.W.keepIn K (.ref f18) = true)
    (a19 : PySem.W.nsIn K mainGlobals "_law_arrow" = some (some (.ref f19))) (l19 : K.lookup f19 = some ⟨oc19, od19, .func (PySem.W.fnOf "_law_arrow" "_law_arrow" (defArgs s__law_arrow) (defBody s__law_arrow) (defScope s__law_arrow) .none kV19 dc19 pm19 an19 cd19 ct19), sl19⟩) (c19 : PySem.W.codeIn K cd19 "_law_arrow" = true) (k19 : PySem.W.keepIn K (.ref f19) = true)
    (a20 : PySem.W.nsIn K mainGlobals "_law_arrows" = some (some (.ref f20))) (l20 : K.lookup f20 = some ⟨oc20, od20, .func (PySem.W.fnOf "_law_arrows" "_law_arrows" (defArgs s__law_arrows) (defBody s__law_arrows) (defScope s__law_arrows) .none kV20 dc20 pm20 an20 cd20 ct20), sl20⟩) (c20 : PySem.W.codeIn K cd20 "_law_arrows" = true) (k20 : PySem.W.keepIn K (.ref f20) = true)
    (a21 : PySem.W.nsIn K mainGlobals "_law_summed" = some (some (.ref f21))) (l21 : K.lookup f21 = some ⟨oc21, od21, .func (PySem.W.fnOf "_law_summed" "_law_summed" (defArgs s__law_summed) (defBody s__law_summed) (defScope s__law_summed) .none kV21 dc21 pm21 an21 cd21 ct21), sl21⟩) (c21 : PySem.W.codeIn K cd21 "_law_summed" = true) (k21 : PySem.W.keepIn K (.ref f21) = true)
    (a22 : PySem.W.nsIn K mainGlobals "_law_span" = some (some (.ref f22))) (l22 : K.lookup f22 = some ⟨oc22, od22, .func (PySem.W.fnOf "_law_span" "_law_span" (defArgs s__law_span) (defBody s__law_span) (defScope s__law_span) .none kV22 dc22 pm22 an22 cd22 ct22), sl22⟩) (c22 : PySem.W.codeIn K cd22 "_law_span" = true) (k22 : PySem.W.keepIn K (.ref f22) = true)
    (a23 : PySem.W.nsIn K mainGlobals "_law_shared" = some (some (.ref f23))) (l23 : K.lookup f23 = some ⟨oc23, od23, .func (PySem.W.fnOf "_law_shared" "_law_shared" (defArgs s__law_shared) (defBody s__law_shared) (defScope s__law_shared) .none kV23 dc23 pm23 an23 cd23 ct23), sl23⟩) (c23 : PySem.W.codeIn K cd23 "_law_shared" = true) (k23 : PySem.W.keepIn K (.ref f23) = true)
    (a24 : PySem.W.nsIn K mainGlobals "_law_great_right" = some (some (.ref f24))) (l24 : K.lookup f24 = some ⟨oc24, od24, .func (PySem.W.fnOf "_law_great_right" "_law_great_right" (defArgs s__law_great_right) (defBody s__law_great_right) (defScope s__law_great_right) .none kV24 dc24 pm24 an24 cd24 ct24), sl24⟩) (c24 : PySem.W.codeIn K cd24 "_law_great_right" = true) (k24 : PySem.W.keepIn K (.ref f24) = true)
    (a25 : PySem.W.nsIn K mainGlobals "_law_small_right" = some (some (.ref f25))) (l25 : K.lookup f25 = some ⟨oc25, od25, .func (PySem.W.fnOf "_law_small_right" "_law_small_right" (defArgs s__law_small_right) (defBody s__law_small_right) (defScope s__law_small_right) .none kV25 dc25 pm25 an25 cd25 ct25), sl25⟩) (c25 : PySem.W.codeIn K cd25 "_law_small_right" = true) (k25 : PySem.W.keepIn K (.ref f25) = true)
    (a26 : PySem.W.nsIn K mainGlobals "_law_right" = some (some (.ref f26))) (l26 : K.lookup f26 = some ⟨oc26, od26, .func (PySem.W.fnOf "_law_right" "_law_right" (defArgs s__law_right) (defBody s__law_right) (defScope s__law_right) .none kV26 dc26 pm26 an26 cd26 ct26), sl26⟩) (c26 : PySem.W.codeIn K cd26 "_law_right" = true) (k26 : PySem.W.keepIn K (.ref f26) = true)
    (a27 : PySem.W.nsIn K mainGlobals "law" = some (some (.ref f27))) (l27 : K.lookup f27 = some ⟨oc27, od27, .func (PySem.W.fnOf "law" "law" (defArgs s_law) (defBody s_law) (defScope s_law) .none kV27 dc27 pm27 an27 cd27 ct27), sl27⟩) (c27 : PySem.W.codeIn K cd27 "law" = true) (k27 : PySem.W.keepIn K (.ref f27) = true)
    (z0 : PySem.W.nsIn K mainGlobals "int" = some none)
    (z1 : PySem.W.nsIn K mainGlobals "isinstance" = some none)
    (z2 : PySem.W.nsIn K mainGlobals "bool" = some none)
    (z3 : PySem.W.nsIn K mainGlobals "tuple" = some none)
    (z4 : PySem.W.nsIn K mainGlobals "len" = some none)
    (z5 : PySem.W.nsIn K mainGlobals "all" = some none)
    (z6 : PySem.W.nsIn K mainGlobals "enumerate" = some none)
    (z7 : PySem.W.nsIn K mainGlobals "zip" = some none)
    (z8 : PySem.W.nsIn K mainGlobals "range" = some none)
    (z9 : PySem.W.nsIn K mainGlobals "list" = some none)
    (z10 : PySem.W.nsIn K mainGlobals "abs" = some none)
    (z11 : PySem.W.nsIn K mainGlobals "divmod" = some none)
    (z12 : PySem.W.nsIn K mainGlobals "str" = some none)
    (z13 : PySem.W.nsIn K mainGlobals "sum" = some none)
    (z14 : PySem.W.nsIn K mainGlobals "min" = some none)
    (z15 : PySem.W.nsIn K mainGlobals "max" = some none)
    (q0 : PySem.W.nsIn K mainGlobals "MOST_MODULI" = some (some (.int 12 tk0)))
    (q1 : PySem.W.nsIn K mainGlobals "MOST_MODULUS" = some (some (.int 99 tk1)))
    (q2 : PySem.W.nsIn K mainGlobals "MOST_VECTORS" = some (some (.int 40 tk2)))
    : ∃ fd : FuncData, (∀ (s : Shared) (v : Value), BindsTo s fd ⟨[v], []⟩ [("_law_script", v)]) ∧ ∀ base : Heap, K.In base → base.Ns mainGlobals mg → FnOk l.prog w K mg base CX0 16 fa fd ["_law_script"] (sp_law K) := by
  have e := hfa.symm.trans (PySem.W.mg_of X G a27)
  cases e
  have F0 := fun_mk (st := s_is_whole) l0 c0 k0
  have F1 := fun_mk (st := s_is_within) l1 c1 k1
  have F2 := fun_mk (st := s_check_moduli) l2 c2 k2
  have F3 := fun_mk (st := s_is_vector) l3 c3 k3
  have F4 := fun_mk (st := s_check_vectors) l4 c4 k4
  have F5 := fun_mk (st := s_check_vector) l5 c5 k5
  have F6 := fun_mk (st := s_less) l6 c6 k6
  have F7 := fun_mk (st := s_by_rests) l7 c7 k7
  have F8 := fun_mk (st := s_met) l8 c8 k8
  have F9 := fun_mk (st := s_laid) l9 c9 k9
  have F10 := fun_mk (st := s_steps_of) l10 c10 k10
  have F11 := fun_mk (st := s_gone_down) l11 c11 k11
  have F12 := fun_mk (st := s_product) l12 c12 k12
  have F13 := fun_mk (st := s_spanned) l13 c13 k13
  have F14 := fun_mk (st := s_least) l14 c14 k14
  have F15 := fun_mk (st := s__law_opened) l15 c15 k15
  have F16 := fun_mk (st := s__law_pull) l16 c16 k16
  have F17 := fun_mk (st := s__law_same) l17 c17 k17
  have F18 := fun_mk (st := s__law_sizes) l18 c18 k18
  have F19 := fun_mk (st := s__law_arrow) l19 c19 k19
  have F20 := fun_mk (st := s__law_arrows) l20 c20 k20
  have F21 := fun_mk (st := s__law_summed) l21 c21 k21
  have F22 := fun_mk (st := s__law_span) l22 c22 k22
  have F23 := fun_mk (st := s__law_shared) l23 c23 k23
  have F24 := fun_mk (st := s__law_great_right) l24 c24 k24
  have F25 := fun_mk (st := s__law_small_right) l25 c25 k25
  have F26 := fun_mk (st := s__law_right) l26 c26 k26
  have F27 := fun_mk (st := s_law) l27 c27 k27
  let T : Txt K mg := {
    a_is_whole := f0,
    d_is_whole := _,
    F_is_whole := F0,
    b_is_whole := F0.binds (ps := ["thing"]) fun _ _ _ _ _ _ us hl => match us, hl with | [_], _ => rfl,
    g_is_whole := PySem.W.mg_of X G a0,
    a_is_within := f1,
    d_is_within := _,
    F_is_within := F1,
    b_is_within := F1.binds (ps := ["thing", "low", "high"]) fun _ _ _ _ _ _ us hl => match us, hl with | [_, _, _], _ => rfl,
    g_is_within := PySem.W.mg_of X G a1,
    a_check_moduli := f2,
    d_check_moduli := _,
    F_check_moduli := F2,
    b_check_moduli := F2.binds (ps := ["moduli"]) fun _ _ _ _ _ _ us hl => match us, hl with | [_], _ => rfl,
    g_check_moduli := PySem.W.mg_of X G a2,
    a_is_vector := f3,
    d_is_vector := _,
    F_is_vector := F3,
    b_is_vector := F3.binds (ps := ["moduli", "thing"]) fun _ _ _ _ _ _ us hl => match us, hl with | [_, _], _ => rfl,
    g_is_vector := PySem.W.mg_of X G a3,
    a_check_vectors := f4,
    d_check_vectors := _,
    F_check_vectors := F4,
    b_check_vectors := F4.binds (ps := ["moduli", "vectors"]) fun _ _ _ _ _ _ us hl => match us, hl with | [_, _], _ => rfl,
    g_check_vectors := PySem.W.mg_of X G a4,
    a_check_vector := f5,
    d_check_vector := _,
    F_check_vector := F5,
    b_check_vector := F5.binds (ps := ["moduli", "vectors", "vector"]) fun _ _ _ _ _ _ us hl => match us, hl with | [_, _, _], _ => rfl,
    g_check_vector := PySem.W.mg_of X G a5,
    a_less := f6,
    d_less := _,
    F_less := F6,
    b_less := F6.binds (ps := ["one", "other", "times"]) fun _ _ _ _ _ _ us hl => match us, hl with | [_, _, _], _ => rfl,
    g_less := PySem.W.mg_of X G a6,
    a_by_rests := f7,
    d_by_rests := _,
    F_by_rests := F7,
    b_by_rests := F7.binds (ps := ["row", "moduli", "place"]) fun _ _ _ _ _ _ us hl => match us, hl with | [_, _, _], _ => rfl,
    g_by_rests := PySem.W.mg_of X G a7,
    a_met := f8,
    d_met := _,
    F_met := F8,
    b_met := F8.binds (ps := ["rung", "row", "moduli", "place"]) fun _ _ _ _ _ _ us hl => match us, hl with | [_, _, _, _], _ => rfl,
    g_met := PySem.W.mg_of X G a8,
    a_laid := f9,
    d_laid := _,
    F_laid := F9,
    b_laid := F9.binds (ps := ["moduli", "vectors"]) fun _ _ _ _ _ _ us hl => match us, hl with | [_, _], _ => rfl,
    g_laid := PySem.W.mg_of X G a9,
    a_steps_of := f10,
    d_steps_of := _,
    F_steps_of := F10,
    b_steps_of := F10.binds (ps := ["rungs"]) fun _ _ _ _ _ _ us hl => match us, hl with | [_], _ => rfl,
    g_steps_of := PySem.W.mg_of X G a10,
    a_gone_down := f11,
    d_gone_down := _,
    F_gone_down := F11,
    b_gone_down := F11.binds (ps := ["rungs", "vector"]) fun _ _ _ _ _ _ us hl => match us, hl with | [_, _], _ => rfl,
    g_gone_down := PySem.W.mg_of X G a11,
    a_product := f12,
    d_product := _,
    F_product := F12,
    b_product := F12.binds (ps := ["numbers"]) fun _ _ _ _ _ _ us hl => match us, hl with | [_], _ => rfl,
    g_product := PySem.W.mg_of X G a12,
    a_spanned := f13,
    d_spanned := _,
    F_spanned := F13,
    b_spanned := F13.binds (ps := ["moduli", "vectors"]) fun _ _ _ _ _ _ us hl => match us, hl with | [_, _], _ => rfl,
    g_spanned := PySem.W.mg_of X G a13,
    a_least := f14,
    d_least := _,
    F_least := F14,
    b_least := F14.binds (ps := ["moduli", "vectors", "vector"]) fun _ _ _ _ _ _ us hl => match us, hl with | [_, _, _], _ => rfl,
    g_least := PySem.W.mg_of X G a14,
    a__law_opened := f15,
    d__law_opened := _,
    F__law_opened := F15,
    b__law_opened := F15.binds (ps := ["_law_script", "_law_k"]) fun _ _ _ _ _ _ us hl => match us, hl with | [_, _], _ => rfl,
    g__law_opened := PySem.W.mg_of X G a15,
    a__law_pull := f16,
    d__law_pull := _,
    F__law_pull := F16,
    b__law_pull := F16.binds (ps := ["_law_store", "_law_many"]) fun _ _ _ _ _ _ us hl => match us, hl with | [_, _], _ => rfl,
    g__law_pull := PySem.W.mg_of X G a16,
    a__law_same := f17,
    d__law_same := _,
    F__law_same := F17,
    b__law_same := F17.binds (ps := ["_law_found", "_law_due"]) fun _ _ _ _ _ _ us hl => match us, hl with | [_, _], _ => rfl,
    g__law_same := PySem.W.mg_of X G a17,
    a__law_sizes := f18,
    d__law_sizes := _,
    F__law_sizes := F18,
    b__law_sizes := F18.binds (ps := ["_law_store", "_law_many", "_law_most", "_law_bulk"]) fun _ _ _ _ _ _ us hl => match us, hl with | [_, _, _, _], _ => rfl,
    g__law_sizes := PySem.W.mg_of X G a18,
    a__law_arrow := f19,
    d__law_arrow := _,
    F__law_arrow := F19,
    b__law_arrow := F19.binds (ps := ["_law_store", "_law_sizes_here"]) fun _ _ _ _ _ _ us hl => match us, hl with | [_, _], _ => rfl,
    g__law_arrow := PySem.W.mg_of X G a19,
    a__law_arrows := f20,
    d__law_arrows := _,
    F__law_arrows := F20,
    b__law_arrows := F20.binds (ps := ["_law_store", "_law_sizes_here", "_law_most"]) fun _ _ _ _ _ _ us hl => match us, hl with | [_, _, _], _ => rfl,
    g__law_arrows := PySem.W.mg_of X G a20,
    a__law_summed := f21,
    d__law_summed := _,
    F__law_summed := F21,
    b__law_summed := F21.binds (ps := ["_law_sizes_here", "_law_arrows_here", "_law_often"]) fun _ _ _ _ _ _ us hl => match us, hl with | [_, _, _], _ => rfl,
    g__law_summed := PySem.W.mg_of X G a21,
    a__law_span := f22,
    d__law_span := _,
    F__law_span := F22,
    b__law_span := F22.binds (ps := ["_law_sizes_here", "_law_arrows_here"]) fun _ _ _ _ _ _ us hl => match us, hl with | [_, _], _ => rfl,
    g__law_span := PySem.W.mg_of X G a22,
    a__law_shared := f23,
    d__law_shared := _,
    F__law_shared := F23,
    b__law_shared := F23.binds (ps := ["_law_figure", "_law_size"]) fun _ _ _ _ _ _ us hl => match us, hl with | [_, _], _ => rfl,
    g__law_shared := PySem.W.mg_of X G a23,
    a__law_great_right := f24,
    d__law_great_right := _,
    F__law_great_right := F24,
    b__law_great_right := F24.binds (ps := ["_law_store"]) fun _ _ _ _ _ _ us hl => match us, hl with | [_], _ => rfl,
    g__law_great_right := PySem.W.mg_of X G a24,
    a__law_small_right := f25,
    d__law_small_right := _,
    F__law_small_right := F25,
    b__law_small_right := F25.binds (ps := ["_law_sizes_here", "_law_arrows_here", "_law_some"]) fun _ _ _ _ _ _ us hl => match us, hl with | [_, _, _], _ => rfl,
    g__law_small_right := PySem.W.mg_of X G a25,
    a__law_right := f26,
    d__law_right := _,
    F__law_right := F26,
    b__law_right := F26.binds (ps := ["_law_store"]) fun _ _ _ _ _ _ us hl => match us, hl with | [_], _ => rfl,
    g__law_right := PySem.W.mg_of X G a26,
    a_law := fa,
    d_law := _,
    F_law := F27,
    b_law := F27.binds (ps := ["_law_script"]) fun _ _ _ _ _ _ us hl => match us, hl with | [_], _ => rfl,
    g_law := PySem.W.mg_of X G a27,
    kb_spanned_vectors_moduli := kbw_of F13 (fun _ _ _ _ _ _ ws hl => match ws, hl with | [_, _], _ => rfl) (fun h => kwv_spanned_vectors_moduli h),
    kb_least_vector_moduli_vectors := kbw_of F14 (fun _ _ _ _ _ _ ws hl => match ws, hl with | [_, _, _], _ => rfl) (fun h => kwv_least_vector_moduli_vectors h),
    n_int := PySem.W.mg_none_of X G z0,
    n_isinstance := PySem.W.mg_none_of X G z1,
    n_bool := PySem.W.mg_none_of X G z2,
    n_tuple := PySem.W.mg_none_of X G z3,
    n_len := PySem.W.mg_none_of X G z4,
    n_all := PySem.W.mg_none_of X G z5,
    n_enumerate := PySem.W.mg_none_of X G z6,
    n_zip := PySem.W.mg_none_of X G z7,
    n_range := PySem.W.mg_none_of X G z8,
    n_list := PySem.W.mg_none_of X G z9,
    n_abs := PySem.W.mg_none_of X G z10,
    n_divmod := PySem.W.mg_none_of X G z11,
    n_str := PySem.W.mg_none_of X G z12,
    n_sum := PySem.W.mg_none_of X G z13,
    n_min := PySem.W.mg_none_of X G z14,
    n_max := PySem.W.mg_none_of X G z15,
    t_MOST_MODULI := _,
    c_MOST_MODULI := PySem.W.mg_of X G q0,
    t_MOST_MODULUS := _,
    c_MOST_MODULUS := PySem.W.mg_of X G q1,
    t_MOST_VECTORS := _,
    c_MOST_VECTORS := PySem.W.mg_of X G q2 }
  refine ⟨T.d_law, fun s v => .of_eq rfl, fun base _ _ => ?_⟩
  have O_is_whole := ok_is_whole (P := l.prog) (w := w) (base := base) T 
  have O_is_within := ok_is_within (P := l.prog) (w := w) (base := base) T O_is_whole
  have O_check_moduli := ok_check_moduli (P := l.prog) (w := w) (base := base) T O_is_within
  have O_is_vector := ok_is_vector (P := l.prog) (w := w) (base := base) T O_is_whole
  have O_check_vectors := ok_check_vectors (P := l.prog) (w := w) (base := base) T O_check_moduli O_is_vector
  have O_check_vector := ok_check_vector (P := l.prog) (w := w) (base := base) T O_check_vectors O_is_vector
  have O_less := ok_less (P := l.prog) (w := w) (base := base) T 
  have O_by_rests := ok_by_rests (P := l.prog) (w := w) (base := base) T 
  have O_met := ok_met (P := l.prog) (w := w) (base := base) T O_by_rests O_less
  have O_laid := ok_laid (P := l.prog) (w := w) (base := base) T O_met O_less
  have O_steps_of := ok_steps_of (P := l.prog) (w := w) (base := base) T 
  have O_gone_down := ok_gone_down (P := l.prog) (w := w) (base := base) T O_less
  have O_product := ok_product (P := l.prog) (w := w) (base := base) T 
  have O_product_2 := ok_product_2 (P := l.prog) (w := w) (base := base) T 
  have O_spanned := ok_spanned (P := l.prog) (w := w) (base := base) T O_check_vectors O_product O_product_2 O_steps_of O_laid
  have O_least := ok_least (P := l.prog) (w := w) (base := base) T O_check_vector O_gone_down O_laid
  have O__law_opened := ok__law_opened (P := l.prog) (w := w) (base := base) T 
  have O__law_pull := ok__law_pull (P := l.prog) (w := w) (base := base) T 
  have O__law_same := ok__law_same (P := l.prog) (w := w) (base := base) T  12
  have O__law_sizes := ok__law_sizes (P := l.prog) (w := w) (base := base) T O__law_pull
  have O__law_arrow := ok__law_arrow (P := l.prog) (w := w) (base := base) T O__law_pull
  have O__law_arrows := ok__law_arrows (P := l.prog) (w := w) (base := base) T O__law_pull O__law_arrow
  have O__law_summed := ok__law_summed (P := l.prog) (w := w) (base := base) T 
  have O__law_span := ok__law_span (P := l.prog) (w := w) (base := base) T O__law_summed
  have O__law_shared := ok__law_shared (P := l.prog) (w := w) (base := base) T 
  have O__law_great_right := ok__law_great_right (P := l.prog) (w := w) (base := base) T O__law_pull O__law_shared O__law_same O_spanned O_least
  have O__law_small_right := ok__law_small_right (P := l.prog) (w := w) (base := base) T O__law_span O_spanned O__law_same O__law_summed O_least
  have O__law_right := ok__law_right (P := l.prog) (w := w) (base := base) T O__law_sizes O__law_arrows O__law_arrow O__law_small_right O__law_great_right
  have O_law := ok_law (P := l.prog) (w := w) (base := base) T O__law_right O__law_opened
  exact O_law

theorem law_end {K : PySem.W.Frag} {H : Hp} {a : Addr} {ns : List Int} (hl : ns.length ≤ 63) (hS : SqL K H a (ns.map V.int)) : sp_law K [.ref a] H (fun v _ => v = .bl true) fun _ _ _ => False :=
  ⟨H, fun _ => none, ns, true, ⟨Same.refl _, fun _ _ h => by (cases h), fun _ _ h => by (cases h)⟩, ⟨.ref a, [], rfl, ⟨a, rfl, hS⟩, rfl⟩, law_true ns hl, fun v G' H' _ _ hv => by (cases hv; rfl)⟩
end K32
open PySem PySem.W PyProof.Rows
set_option maxHeartbeats 0 in
theorem PySem.Challenge.cw_sincerung_k32_spanned_and_least_holds : PySem.Challenge.rw_sincerung_k32_spanned_and_least.Holds := by
  w_on; o_law; k_head; (case hw => w_witness2)
  k_fill
  refine L2.walk_ofK (l := PySem.Challenge.rw_sincerung_k32_spanned_and_least) (n := 63) (k := 16) (x := "_law_script") (CX := L2.CX0) (sp := K32.sp_law) rfl (by decide) rfl ⟨rfl, by decide, by decide⟩ (fun w h Y => PySem.W.kIn_of Y) ?F (fun _ _ a ns hl _ hS => K32.law_end hl hS) (fun _ _ _ _ h => h)
  case F =>
    intro w mg fa h KX G hmg
    refine' K32.all_mk KX G hmg ?a0 ?l0 ?c0 ?k0 ?a1 ?l1 ?c1 ?k1 ?a2 ?l2 ?c2 ?k2 ?a3 ?l3 ?c3 ?k3 ?a4 ?l4 ?c4 ?k4 ?a5 ?l5 ?c5 ?k5 ?a6 ?l6 ?c6 ?k6 ?a7 ?l7 ?c7 ?k7 ?a8 ?l8 ?c8 ?k8 ?a9 ?l9 ?c9 ?k9 ?a10 ?l10 ?c10 ?k10 ?a11 ?l11 ?c11 ?k11 ?a12 ?l12 ?c12 ?k12 ?a13 ?l13 ?c13 ?k13 ?a14 ?l14 ?c14 ?k14 ?a15 ?l15 ?c15 ?k15 ?a16 ?l16 ?c16 ?k16 ?a17 ?l17 ?c17 ?k17 ?a18 ?l18 ?c18 ?k18 ?a19 ?l19 ?c19 ?k19 ?a20 ?l20 ?c20 ?k20 ?a21 ?l21 ?c21 ?k21 ?a22 ?l22 ?c22 ?k22 ?a23 ?l23 ?c23 ?k23 ?a24 ?l24 ?c24 ?k24 ?a25 ?l25 ?c25 ?k25 ?a26 ?l26 ?c26 ?k26 ?a27 ?l27 ?c27 ?k27 ?z0 ?z1 ?z2 ?z3 ?z4 ?z5 ?z6 ?z7 ?z8 ?z9 ?z10 ?z11 ?z12 ?z13 ?z14 ?z15 ?q0 ?q1 ?q2
    (case a0 => k_is)
    (case l0 => k_is)
    (case c0 => k_is)
    (case k0 => k_is)
    (case a1 => k_is)
    (case l1 => k_is)
    (case c1 => k_is)
    (case k1 => k_is)
    (case a2 => k_is)
    (case l2 => k_is)
    (case c2 => k_is)
    (case k2 => k_is)
    (case a3 => k_is)
    (case l3 => k_is)
    (case c3 => k_is)
    (case k3 => k_is)
    (case a4 => k_is)
    (case l4 => k_is)
    (case c4 => k_is)
    (case k4 => k_is)
    (case a5 => k_is)
    (case l5 => k_is)
    (case c5 => k_is)
    (case k5 => k_is)
    (case a6 => k_is)
    (case l6 => k_is)
    (case c6 => k_is)
    (case k6 => k_is)
    (case a7 => k_is)
    (case l7 => k_is)
    (case c7 => k_is)
    (case k7 => k_is)
    (case a8 => k_is)
    (case l8 => k_is)
    (case c8 => k_is)
    (case k8 => k_is)
    (case a9 => k_is)
    (case l9 => k_is)
    (case c9 => k_is)
    (case k9 => k_is)
    (case a10 => k_is)
    (case l10 => k_is)
    (case c10 => k_is)
    (case k10 => k_is)
    (case a11 => k_is)
    (case l11 => k_is)
    (case c11 => k_is)
    (case k11 => k_is)
    (case a12 => k_is)
    (case l12 => k_is)
    (case c12 => k_is)
    (case k12 => k_is)
    (case a13 => k_is)
    (case l13 => k_is)
    (case c13 => k_is)
    (case k13 => k_is)
    (case a14 => k_is)
    (case l14 => k_is)
    (case c14 => k_is)
    (case k14 => k_is)
    (case a15 => k_is)
    (case l15 => k_is)
    (case c15 => k_is)
    (case k15 => k_is)
    (case a16 => k_is)
    (case l16 => k_is)
    (case c16 => k_is)
    (case k16 => k_is)
    (case a17 => k_is)
    (case l17 => k_is)
    (case c17 => k_is)
    (case k17 => k_is)
    (case a18 => k_is)
    (case l18 => k_is)
    (case c18 => k_is)
    (case k18 => k_is)
    (case a19 => k_is)
    (case l19 => k_is)
    (case c19 => k_is)
    (case k19 => k_is)
    (case a20 => k_is)
    (case l20 => k_is)
    (case c20 => k_is)
    (case k20 => k_is)
    (case a21 => k_is)
    (case l21 => k_is)
    (case c21 => k_is)
    (case k21 => k_is)
    (case a22 => k_is)
    (case l22 => k_is)
    (case c22 => k_is)
    (case k22 => k_is)
    (case a23 => k_is)
    (case l23 => k_is)
    (case c23 => k_is)
    (case k23 => k_is)
    (case a24 => k_is)
    (case l24 => k_is)
    (case c24 => k_is)
    (case k24 => k_is)
    (case a25 => k_is)
    (case l25 => k_is)
    (case c25 => k_is)
    (case k25 => k_is)
    (case a26 => k_is)
    (case l26 => k_is)
    (case c26 => k_is)
    (case k26 => k_is)
    (case a27 => k_is)
    (case l27 => k_is)
    (case c27 => k_is)
    (case k27 => k_is)
    (case z0 => k_is)
    (case z1 => k_is)
    (case z2 => k_is)
    (case z3 => k_is)
    (case z4 => k_is)
    (case z5 => k_is)
    (case z6 => k_is)
    (case z7 => k_is)
    (case z8 => k_is)
    (case z9 => k_is)
    (case z10 => k_is)
    (case z11 => k_is)
    (case z12 => k_is)
    (case z13 => k_is)
    (case z14 => k_is)
    (case z15 => k_is)
    (case q0 => k_is)
    (case q1 => k_is)
    (case q2 => k_is)

end
